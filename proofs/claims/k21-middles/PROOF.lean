import PyProof.Rows.All
import Wide.All
import OpenK.AllK
import Wide.FinOn
import HandS.ForMost
import HandS.Conv
import HandS.Wide
import HandS.TupAny
import HandS.TupMul
import HandS.SortInts
import HandS.IsInst
import HandS.Deep
import PyProof.WalksMore
import HandS.Walk
import HandS.Zip
import KE.GoesMore
import KE.GoesEnum
import HandS.Style
import HandS.Defaults
import HandS.RevTup
import HandS.SetFor
import HandS.Strs
import KE.DataEq
import HandS.OwnEq
import HandS.EndBits
import PySem.Challenge.RW_swayhalls_k21_middles_balance_mirrors
set_option Elab.async false
set_option linter.all false
set_option maxRecDepth 100000
set_option maxRecDepth 100000
set_option maxHeartbeats 2000000
/-! Sw: values as trees, exclusive cells, what a reading comes to by values alone. -/
namespace Sw
open PySem L2
/-! ### values as trees -/
/-- a value: trees are never changed any more; loc: a cell that its owner may still change -/
inductive D where
  | non | bl (b : Bool) | int (i : Int) | str (x : Str) | ty (n : String)
  | lst (xs : List D) | frl (xs : List D) | tup (xs : List D) | dct (kvs : List (D × D)) | obj (c : Str) (fs : List (Str × D)) | loc (a : Addr)
  deriving Inhabited
/-- what stands in a cell -/
inductive Cell where
  | lst (xs : List D) | dct (kvs : List (D × D)) | ins (c : Str) (fs : List (Str × D))
abbrev MM := Addr → Option Cell
abbrev Env := List (Option D)
def mset (M : MM) (a : Addr) (c : Cell) : MM := fun b => if b = a then some c else M b
def mdel (M : MM) (a : Addr) : MM := fun b => if b = a then none else M b
theorem mset_same {M : MM} {a : Addr} {c : Cell} : mset M a c a = some c := by unfold mset; rw [if_pos rfl]
theorem mset_ne {M : MM} {a b : Addr} {c : Cell} (h : b ≠ a) : mset M a c b = M b := by unfold mset; rw [if_neg h]
theorem mdel_same {M : MM} {a : Addr} : mdel M a a = none := by unfold mdel; rw [if_pos rfl]
theorem mdel_ne {M : MM} {a b : Addr} (h : b ≠ a) : mdel M a b = M b := by unfold mdel; rw [if_neg h]
/-- what is fixed: the written part, where the classes stand -/
structure Ab where
  K : PySem.W.Frag
  cls : Str → Option Addr
  cls_inj : ∀ c d a, cls c = some a → cls d = some a → c = d
  flds : List Str
  okC : ∀ c a, cls c = some a → Cls K a
  noat : ∀ c a f, cls c = some a → f ∈ flds → NoAttr K a f
mutual
/-- the value v is the tree d, by what F knows -/
inductive Rp (W : Ab) (F : Hp) : V → D → Prop
  | non : Rp W F .non .non
  | bl (b : Bool) : Rp W F (.bl b) (.bl b)
  | int (i : Int) : Rp W F (.int i) (.int i)
  | str (x : Str) : Rp W F (.str x) (.str x)
  | ty (n : String) : Rp W F (.ty n) (.ty n)
  | lst {a : Addr} {vs : List V} {ds : List D} : F a = some (.lst vs) → Rps W F vs ds → Rp W F (.ref a) (.lst ds)
  | frl {a : Addr} {vs : List V} {ds : List D} : SqL W.K F a vs → Rps W F vs ds → Rp W F (.ref a) (.frl ds)
  | tup {a : Addr} {vs : List V} {ds : List D} : SqT W.K F a vs → Rps W F vs ds → Rp W F (.ref a) (.tup ds)
  | dct {a : Addr} {kvs : List (Key × V)} {ds : List (D × D)} : F a = some (.dK kvs) → Rps W F (kvs.map fun p => kV p.1) (ds.map (·.1)) → Rps W F (kvs.map (·.2)) (ds.map (·.2)) → Rp W F (.ref a) (.dct ds)
  | obj {a C dx : Addr} {c : Str} {vfs : List (Str × V)} {fs : List (Str × D)} : W.cls c = some C → F a = some (.ins C dx vfs) → vfs.map (·.1) = fs.map (·.1) → Rps W F (vfs.map (·.2)) (fs.map (·.2)) → Rp W F (.ref a) (.obj c fs)
  | loc (a : Addr) : Rp W F (.ref a) (.loc a)
inductive Rps (W : Ab) (F : Hp) : List V → List D → Prop
  | nil : Rps W F [] []
  | cons {v : V} {vs : List V} {d : D} {ds : List D} : Rp W F v d → Rps W F vs ds → Rps W F (v :: vs) (d :: ds)
end
def Ex (F G : Hp) : Prop := ∀ a o, F a = some o → G a = some o
theorem Ex.refl (F : Hp) : Ex F F := fun _ _ h => h
theorem Ex.trans {F G H : Hp} (x : Ex F G) (y : Ex G H) : Ex F H := fun a o h => y a o (x a o h)
theorem Ex.upd {F : Hp} {p : Addr} {o : HO} (h : F p = none) : Ex F (upd F p o) := fun a u e => by
  rw [upd_ne (ne_of_none e h)]
  exact e
theorem Ex.rd {F G : Hp} {a : Addr} {u : HO} (x : Ex F G) (h : Rd F a u) : Rd G a u := by
  rcases h with h | ⟨o, h⟩
  · exact .inl (x _ _ h)
  · exact .inr ⟨o, x _ _ h⟩
theorem Ex.l {K : PySem.W.Frag} {F G : Hp} {a : Addr} {xs : List V} (x : Ex F G) (h : SqL K F a xs) : SqL K G a xs := by
  rcases h with (h | ⟨o, h⟩) | h
  · exact .inl (.inl (x _ _ h))
  · exact .inl (.inr ⟨o, x _ _ h⟩)
  · exact .inr h
theorem Ex.t {K : PySem.W.Frag} {F G : Hp} {a : Addr} {xs : List V} (x : Ex F G) (h : SqT K F a xs) : SqT K G a xs := by
  rcases h with (h | ⟨o, h⟩) | h
  · exact .inl (.inl (x _ _ h))
  · exact .inl (.inr ⟨o, x _ _ h⟩)
  · exact .inr h
mutual
theorem Rp.up {W : Ab} {F G : Hp} (x : Ex F G) : ∀ {v : V} {d : D}, Rp W F v d → Rp W G v d
  | _, _, .non => .non
  | _, _, .bl b => .bl b
  | _, _, .int i => .int i
  | _, _, .str y => .str y
  | _, _, .ty n => .ty n
  | _, _, .lst h r => .lst (x _ _ h) (Rps.up x r)
  | _, _, .frl h r => .frl (x.l h) (Rps.up x r)
  | _, _, .tup h r => .tup (x.t h) (Rps.up x r)
  | _, _, .dct h r s => .dct (x _ _ h) (Rps.up x r) (Rps.up x s)
  | _, _, .obj c h e r => .obj c (x _ _ h) e (Rps.up x r)
  | _, _, .loc a => .loc a
theorem Rps.up {W : Ab} {F G : Hp} (x : Ex F G) : ∀ {v : List V} {d : List D}, Rps W F v d → Rps W G v d
  | _, _, .nil => .nil
  | _, _, .cons h r => .cons (Rp.up x h) (Rps.up x r)
end
section
variable {W : Ab} {F : Hp}
theorem Rps.length {vs : List V} {ds : List D} (h : Rps W F vs ds) : vs.length = ds.length := by
  induction vs generalizing ds with
  | nil => cases h; rfl
  | cons v vs ih => cases h with | cons _ r => simp [ih r]
theorem Rps.get {vs : List V} {ds : List D} (h : Rps W F vs ds) {i : Nat} {d : D} (e : ds[i]? = some d) : ∃ v, vs[i]? = some v ∧ Rp W F v d := by
  induction ds generalizing vs i with
  | nil => simp at e
  | cons x xs ih =>
    cases h with
    | cons a r =>
      cases i with
      | zero => simp at e; subst e; exact ⟨_, rfl, a⟩
      | succ i => simpa using ih r (by simpa using e)
theorem Rps.getV {vs : List V} {ds : List D} (h : Rps W F vs ds) {i : Nat} {v : V} (e : vs[i]? = some v) : ∃ d, ds[i]? = some d ∧ Rp W F v d := by
  induction ds generalizing vs i with
  | nil => cases h; simp at e
  | cons x xs ih =>
    cases h with
    | cons a r =>
      cases i with
      | zero => simp at e; subst e; exact ⟨_, rfl, a⟩
      | succ i => simpa using ih r (by simpa using e)
theorem Rps.append {vs us : List V} {ds es : List D} (h : Rps W F vs ds) (g : Rps W F us es) : Rps W F (vs ++ us) (ds ++ es) := by
  induction ds generalizing vs with
  | nil => cases h; exact g
  | cons x xs ih => cases h with | cons a r => exact .cons a (ih r)
theorem Rps.set {vs : List V} {ds : List D} (h : Rps W F vs ds) {v : V} {d : D} (r : Rp W F v d) (i : Nat) : Rps W F (vs.set i v) (ds.set i d) := by
  induction ds generalizing vs i with
  | nil => cases h; exact .nil
  | cons x xs ih =>
    cases h with
    | cons a q =>
      cases i with
      | zero => exact .cons r q
      | succ i => exact .cons a (ih q i)
theorem Rps.take {vs : List V} {ds : List D} (h : Rps W F vs ds) (n : Nat) : Rps W F (vs.take n) (ds.take n) := by
  induction ds generalizing vs n with
  | nil => cases h; simp; exact .nil
  | cons x xs ih =>
    cases h with
    | cons a q =>
      cases n with
      | zero => exact .nil
      | succ n => exact .cons a (ih q n)
theorem Rps.drop {vs : List V} {ds : List D} (h : Rps W F vs ds) (n : Nat) : Rps W F (vs.drop n) (ds.drop n) := by
  induction ds generalizing vs n with
  | nil => cases h; simp; exact .nil
  | cons x xs ih =>
    cases h with
    | cons a q =>
      cases n with
      | zero => exact .cons a q
      | succ n => exact ih q n
theorem Rps.rev {vs : List V} {ds : List D} (h : Rps W F vs ds) : Rps W F vs.reverse ds.reverse := by
  induction ds generalizing vs with
  | nil => cases h; exact .nil
  | cons x xs ih =>
    cases h with
    | cons a q =>
      rw [List.reverse_cons, List.reverse_cons]
      exact (ih q).append (.cons a .nil)
theorem Rps.flat {L : List (List V)} {M : List (List D)} (hl : L.length = M.length) (h : ∀ (i : Nat) vs ds, L[i]? = some vs → M[i]? = some ds → Rps W F vs ds) : Rps W F L.flatten M.flatten := by
  induction L generalizing M with
  | nil => cases M with
    | nil => exact .nil
    | cons _ _ => simp at hl
  | cons a L ih =>
    cases M with
    | nil => simp at hl
    | cons b M => exact (h 0 a b rfl rfl).append (ih (by simpa using hl) fun i vs ds h1 h2 => h (i + 1) vs ds (by simpa using h1) (by simpa using h2))
theorem Rps.rep {v : V} {d : D} (h : Rp W F v d) (n : Nat) : Rps W F (List.replicate n v) (List.replicate n d) := by
  induction n with
  | zero => exact .nil
  | succ n ih => exact .cons h ih
/-- ints, bools as they are -/
theorem Rps.ints (ns : List Int) : Rps W F (ns.map V.int) (ns.map D.int) := by
  induction ns with
  | nil => exact .nil
  | cons n r ih => exact .cons (.int n) ih
theorem Rps.of_ints {vs : List V} {ns : List Int} (h : Rps W F vs (ns.map D.int)) : vs = ns.map V.int := by
  induction ns generalizing vs with
  | nil => cases h; rfl
  | cons n r ih => cases h with | cons a q => cases a; rw [ih q]; rfl
theorem Rps.of_bls {vs : List V} {bs : List Bool} (h : Rps W F vs (bs.map D.bl)) : vs = bs.map V.bl := by
  induction bs generalizing vs with
  | nil => cases h; rfl
  | cons n r ih => cases h with | cons a q => cases a; rw [ih q]; rfl
theorem Rps.of_strs {vs : List V} {bs : List Str} (h : Rps W F vs (bs.map D.str)) : vs = bs.map V.str := by
  induction bs generalizing vs with
  | nil => cases h; rfl
  | cons n r ih => cases h with | cons a q => cases a; rw [ih q]; rfl
theorem Rps.fresh_set {Γ : Env} {n : Nat} : ∀ {vs : List V} {ds : List D}, Rps W F vs ds → True := fun _ => trivial
end
/-! ### the heap: what is known for good (F), what is still changed (M) -/
def CellOk (W : Ab) (F H : Hp) (a : Addr) : Cell → Prop
  | .lst ds => ∃ vs, H a = some (.lst vs) ∧ Rps W F vs ds
  | .dct kvs => ∃ ws : List (Key × V), H a = some (.dK ws) ∧ Rps W F (ws.map fun p => kV p.1) (kvs.map (·.1)) ∧ Rps W F (ws.map (·.2)) (kvs.map (·.2))
  | .ins c fs => ∃ C dx vfs, W.cls c = some C ∧ H a = some (.ins C dx vfs) ∧ vfs.map (·.1) = fs.map (·.1) ∧ Rps W F (vfs.map (·.2)) (fs.map (·.2))
structure Conc (W : Ab) (F : Hp) (M : MM) (H : Hp) : Prop where
  ex : Ex F H
  cell : ∀ a c, M a = some c → F a = none ∧ CellOk W F H a c
/-- from one state to a later one -/
structure Stp (F : Hp) (M : MM) (H : Hp) (F' : Hp) (M' : MM) (H' : Hp) : Prop where
  f : Ex F F'
  k : ∀ a o, H a = some o → M a = none → H' a = some o
  nf : ∀ a, H a ≠ none → F a = none → M a = none → F' a = none
  nm : ∀ a, M' a ≠ none → M a ≠ none ∨ H a = none
  t : ∀ a, H a ≠ none → H' a ≠ none
theorem Stp.refl {F : Hp} {M : MM} {H : Hp} : Stp F M H F M H := ⟨Ex.refl F, fun _ _ h _ => h, fun _ _ h _ => h, fun _ h => .inl h, fun _ h => h⟩
theorem Stp.trans {F F1 F2 : Hp} {M M1 M2 : MM} {H H1 H2 : Hp} (x : Stp F M H F1 M1 H1) (y : Stp F1 M1 H1 F2 M2 H2) : Stp F M H F2 M2 H2 := by
  have m1 : ∀ a o, H a = some o → M a = none → M1 a = none := fun a o h hm => by
    cases e : M1 a with
    | none => rfl
    | some c =>
      rcases x.nm a (by rw [e]; exact fun z => nomatch z) with q | q
      · exact absurd hm q
      · rw [h] at q; cases q
  refine ⟨x.f.trans y.f, fun a o h hm => y.k a o (x.k a o h hm) (m1 a o h hm), fun a h hf hm => ?_, fun a h => ?_, fun a h => y.t a (x.t a h)⟩
  · obtain ⟨o, e⟩ := Option.ne_none_iff_exists'.mp h
    exact y.nf a (by rw [x.k a o e hm]; exact fun z => nomatch z) (x.nf a h hf hm) (m1 a o e hm)
  · rcases y.nm a h with q | q
    · exact x.nm a q
    · cases e : M a with
      | some c => exact .inl (fun z => nomatch z)
      | none =>
        refine .inr ?_
        cases eh : H a with
        | none => rfl
        | some o => rw [x.k a o eh e] at q; cases q
section
variable {W : Ab} {F F' H H' : Hp} {M M' : MM} {a : Addr}
theorem CellOk.up (x : Ex F F') {c : Cell} (h : CellOk W F H a c) (k : H' a = H a) : CellOk W F' H' a c := by
  cases c with
  | lst ds => obtain ⟨vs, e, r⟩ := h; exact ⟨vs, k.trans e, r.up x⟩
  | dct kvs => obtain ⟨ws, e, r, s⟩ := h; exact ⟨ws, k.trans e, r.up x, s.up x⟩
  | ins c fs => obtain ⟨C, dx, vfs, e1, e2, e3, r⟩ := h; exact ⟨C, dx, vfs, e1, k.trans e2, e3, r.up x⟩
theorem CellOk.some {c : Cell} (h : CellOk W F H a c) : H a ≠ none := by
  cases c with
  | lst ds => obtain ⟨vs, e, r⟩ := h; rw [e]; exact fun z => nomatch z
  | dct kvs => obtain ⟨ws, e, r, s⟩ := h; rw [e]; exact fun z => nomatch z
  | ins c fs => obtain ⟨C, dx, vfs, e1, e2, e3, r⟩ := h; rw [e2]; exact fun z => nomatch z
theorem Conc.fresh (c : Conc W F M H) (h : H a = none) : F a = none ∧ M a = none := by
  constructor
  · cases e : F a with
    | none => rfl
    | some o => rw [c.ex a o e] at h; cases h
  · cases e : M a with
    | none => rfl
    | some o => exact absurd h (c.cell a o e).2.some
theorem upd_some {b : Addr} {o : HO} (h : H b ≠ none) : upd H a o b ≠ none := by
  by_cases e : b = a
  · subst e; rw [upd_same]; exact fun z => nomatch z
  · rw [upd_ne e]; exact h
theorem ne_fresh {b : Addr} (h : H a = none) (h' : H b ≠ none) : b ≠ a := fun e => h' (e ▸ h)
/-- a new object, known for good -/
theorem Conc.know (c : Conc W F M H) (h : H a = none) (o : HO) : Conc W (upd F a o) M (upd H a o) ∧ Stp F M H (upd F a o) M (upd H a o) := by
  obtain ⟨hf, hm⟩ := c.fresh h
  have xF : Ex F (upd F a o) := Ex.upd hf
  refine ⟨⟨fun b u e => ?_, fun b u e => ?_⟩, ⟨xF, fun b u e _ => ?_, fun b e f _ => ?_, fun b e => .inl e, fun b e => upd_some e⟩⟩
  · by_cases hb : b = a
    · subst hb; rw [upd_same] at e ⊢; exact e
    · rw [upd_ne hb] at e ⊢; exact c.ex b u e
  · obtain ⟨q1, q2⟩ := c.cell b u e
    have hb : b ≠ a := ne_fresh h q2.some
    exact ⟨by rw [upd_ne hb]; exact q1, q2.up xF (upd_ne hb)⟩
  · rw [upd_ne (ne_fresh h (by rw [e]; exact fun z => nomatch z))]; exact e
  · rw [upd_ne (ne_fresh h e)]; exact f
/-- a new object, one's own -/
theorem Conc.own (c : Conc W F M H) (h : H a = none) {o : HO} {x : Cell} (ok : CellOk W F (upd H a o) a x) : Conc W F (mset M a x) (upd H a o) ∧ Stp F M H F (mset M a x) (upd H a o) := by
  obtain ⟨hf, hm⟩ := c.fresh h
  refine ⟨⟨fun b u e => ?_, fun b u e => ?_⟩, ⟨Ex.refl F, fun b u e _ => ?_, fun b e f _ => f, fun b e => ?_, fun b e => upd_some e⟩⟩
  · have hb : b ≠ a := ne_fresh h (by rw [c.ex b u e]; exact fun z => nomatch z)
    rw [upd_ne hb]; exact c.ex b u e
  · by_cases hb : b = a
    · subst hb; rw [mset_same] at e; cases e; exact ⟨hf, ok⟩
    · rw [mset_ne hb] at e
      obtain ⟨q1, q2⟩ := c.cell b u e
      exact ⟨q1, q2.up (Ex.refl F) (upd_ne hb)⟩
  · rw [upd_ne (ne_fresh h (by rw [e]; exact fun z => nomatch z))]; exact e
  · by_cases hb : b = a
    · subst hb; exact .inr h
    · rw [mset_ne hb] at e; exact .inl e
/-- a cell changed -/
theorem Conc.put (c : Conc W F M H) {x y : Cell} (h : M a = some y) {o : HO} (ok : CellOk W F (upd H a o) a x) : Conc W F (mset M a x) (upd H a o) ∧ Stp F M H F (mset M a x) (upd H a o) := by
  obtain ⟨hf, _⟩ := c.cell a y h
  refine ⟨⟨fun b u e => ?_, fun b u e => ?_⟩, ⟨Ex.refl F, fun b u e hm => ?_, fun b e f _ => f, fun b e => ?_, fun b e => upd_some e⟩⟩
  · have hb : b ≠ a := fun z => by subst z; rw [hf] at e; cases e
    rw [upd_ne hb]; exact c.ex b u e
  · by_cases hb : b = a
    · subst hb; rw [mset_same] at e; cases e; exact ⟨hf, ok⟩
    · rw [mset_ne hb] at e
      obtain ⟨q1, q2⟩ := c.cell b u e
      exact ⟨q1, q2.up (Ex.refl F) (upd_ne hb)⟩
  · have hb : b ≠ a := fun z => by subst z; rw [h] at hm; cases hm
    rw [upd_ne hb]; exact e
  · by_cases hb : b = a
    · subst hb; exact .inl (by rw [h]; exact fun z => nomatch z)
    · rw [mset_ne hb] at e; exact .inl e
/-- a cell that is not changed any more -/
theorem Conc.still (c : Conc W F M H) {x : Cell} (h : M a = some x) {o : HO} (e : H a = some o) : Conc W (upd F a o) (mdel M a) H ∧ Stp F M H (upd F a o) (mdel M a) H := by
  obtain ⟨hf, _⟩ := c.cell a x h
  have xF : Ex F (upd F a o) := Ex.upd hf
  refine ⟨⟨fun b u q => ?_, fun b u q => ?_⟩, ⟨xF, fun b u q _ => q, fun b q f hm => ?_, fun b q => ?_, fun b q => q⟩⟩
  · by_cases hb : b = a
    · subst hb; rw [upd_same] at q; rw [e]; exact q
    · rw [upd_ne hb] at q; exact c.ex b u q
  · by_cases hb : b = a
    · subst hb; rw [mdel_same] at q; cases q
    · rw [mdel_ne hb] at q
      obtain ⟨q1, q2⟩ := c.cell b u q
      exact ⟨by rw [upd_ne hb]; exact q1, q2.up xF rfl⟩
  · have hb : b ≠ a := fun z => by subst z; rw [h] at hm; cases hm
    rw [upd_ne hb]; exact f
  · by_cases hb : b = a
    · subst hb; rw [mdel_same] at q; exact absurd rfl q
    · rw [mdel_ne hb] at q; exact .inl q
end
/-! ### names' values -/
structure EnvOk (W : Ab) (F : Hp) (σ : St) (Γ : Env) : Prop where
  len : σ.length = Γ.length
  at_ : ∀ (i : Nat) (d : D), Γ[i]? = some (some d) → ∃ v, σ[i]? = some (some v) ∧ Rp W F v d
theorem EnvOk.up {W : Ab} {F G : Hp} {σ : St} {Γ : Env} (e : EnvOk W F σ Γ) (x : Ex F G) : EnvOk W G σ Γ :=
  ⟨e.len, fun i d h => let ⟨v, h1, h2⟩ := e.at_ i d h; ⟨v, h1, h2.up x⟩⟩
theorem EnvOk.set {W : Ab} {F : Hp} {σ : St} {Γ : Env} (e : EnvOk W F σ Γ) {v : V} {d : D} (r : Rp W F v d) (i : Nat) : EnvOk W F (σ.set i (some v)) (Γ.set i (some d)) := by
  refine ⟨by simp [e.len], fun j y h => ?_⟩
  by_cases hj : i = j
  · subst hj
    by_cases hl : i < Γ.length
    · rw [List.getElem?_set_self hl] at h
      cases h
      exact ⟨v, List.getElem?_set_self (by rw [e.len]; exact hl), r⟩
    · rw [List.getElem?_eq_none (by simpa using hl)] at h
      cases h
  · rw [List.getElem?_set_ne hj] at h ⊢
    exact e.at_ j y h
def wipeD (Γ : Env) : List Nat → Env
  | [] => Γ
  | v :: vs => (wipeD Γ vs).set v none
theorem EnvOk.unset {W : Ab} {F : Hp} {σ : St} {Γ : Env} (e : EnvOk W F σ Γ) (i : Nat) : EnvOk W F (σ.set i none) (Γ.set i none) := by
  refine ⟨by simp [e.len], fun j y h => ?_⟩
  by_cases hj : i = j
  · subst hj
    by_cases hl : i < Γ.length
    · rw [List.getElem?_set_self hl] at h
      cases h
    · rw [List.getElem?_eq_none (by simpa using hl)] at h
      cases h
  · rw [List.getElem?_set_ne hj] at h ⊢
    exact e.at_ j y h
theorem EnvOk.wipe {W : Ab} {F : Hp} {σ : St} {Γ : Env} (e : EnvOk W F σ Γ) : ∀ vs, EnvOk W F (L2.wipe σ vs) (wipeD Γ vs)
  | [] => e
  | v :: vs => (e.wipe vs).unset v
/-- fewer values known -/
theorem EnvOk.less {W : Ab} {F : Hp} {σ : St} {Γ Δ : Env} (e : EnvOk W F σ Γ) (hl : Δ.length = Γ.length) (h : ∀ (i : Nat) d, Δ[i]? = some (some d) → Γ[i]? = some (some d)) : EnvOk W F σ Δ :=
  ⟨e.len.trans hl.symm, fun i d q => e.at_ i d (h i d q)⟩
/-! ### what a reading comes to -/
/-- a word that stays from state to state (what is wanted of exceptions) -/
structure JW where
  J : Hp → MM → Hp → Prop
  step : ∀ {F M H F' M' H'}, J F M H → Stp F M H F' M' H' → J F' M' H'
abbrev WE := Env → MM → (D → MM → Prop) → Prop
abbrev WT := Env → MM → (Bool → MM → Prop) → Prop
abbrev WA := Env → MM → (List D → MM → Prop) → Prop
structure WK where
  nx : Env → MM → Prop
  rt : D → MM → Prop
  bk : Env → MM → Prop := fun _ _ => False
  ct : Env → MM → Prop := fun _ _ => False
abbrev WS := WK → Env → MM → Prop
abbrev WG := D → Env → MM → (Env → MM → Prop) → Prop
section
variable (W : Ab) (J : JW)
def SimE (t : TE) (w : WE) : Prop := ∀ {F M H σ Γ Φ} {Q : VK}, J.J F M H → Conc W F M H → EnvOk W F σ Γ → w Γ M Φ →
  (∀ v d F' M' H', Conc W F' M' H' → Stp F M H F' M' H' → Rp W F' v d → Φ d M' → Q v H') → t σ H Q
def SimT (t : TT) (w : WT) : Prop := ∀ {F M H σ Γ Φ} {Q : Bool → Hp → Prop}, J.J F M H → Conc W F M H → EnvOk W F σ Γ → w Γ M Φ →
  (∀ b F' M' H', Conc W F' M' H' → Stp F M H F' M' H' → Φ b M' → Q b H') → t σ H Q
def SimA (t : TA) (w : WA) : Prop := ∀ {F M H σ Γ Φ} {Q : List V → Hp → Prop}, J.J F M H → Conc W F M H → EnvOk W F σ Γ → w Γ M Φ →
  (∀ vs ds F' M' H', Conc W F' M' H' → Stp F M H F' M' H' → Rps W F' vs ds → Φ ds M' → Q vs H') → t σ H Q
structure EndsOk (F : Hp) (M : MM) (H : Hp) (k : WK) (D : Ends) : Prop where
  nx : ∀ σ Γ F' M' H', Conc W F' M' H' → Stp F M H F' M' H' → EnvOk W F' σ Γ → k.nx Γ M' → D.nx σ H'
  rt : ∀ v d F' M' H', Conc W F' M' H' → Stp F M H F' M' H' → Rp W F' v d → k.rt d M' → D.rt v H'
  bk : ∀ σ Γ F' M' H', Conc W F' M' H' → Stp F M H F' M' H' → EnvOk W F' σ Γ → k.bk Γ M' → D.bk σ H'
  ct : ∀ σ Γ F' M' H', Conc W F' M' H' → Stp F M H F' M' H' → EnvOk W F' σ Γ → k.ct Γ M' → D.ct σ H'
def SimS (t : TS) (w : WS) : Prop := ∀ {F M H σ Γ k} {D : Ends}, J.J F M H → Conc W F M H → EnvOk W F σ Γ → w k Γ M → EndsOk W F M H k D → t D σ H
def SimG (t : TG) (w : WG) : Prop := ∀ {F M H σ Γ v d Φ} {Q : St → Hp → Prop}, J.J F M H → Conc W F M H → EnvOk W F σ Γ → Rp W F v d → w d Γ M Φ →
  (∀ σ' Γ' F' M' H', Conc W F' M' H' → Stp F M H F' M' H' → EnvOk W F' σ' Γ' → Φ Γ' M' → Q σ' H') → t v σ H Q
end
theorem EndsOk.at {W : Ab} {F F1 : Hp} {M M1 : MM} {H H1 : Hp} {k : WK} {D : Ends} (e : EndsOk W F M H k D) (s : Stp F M H F1 M1 H1) : EndsOk W F1 M1 H1 k D :=
  ⟨fun σ Γ F' M' H' c t => e.nx σ Γ F' M' H' c (s.trans t), fun v d F' M' H' c t => e.rt v d F' M' H' c (s.trans t), fun σ Γ F' M' H' c t => e.bk σ Γ F' M' H' c (s.trans t), fun σ Γ F' M' H' c t => e.ct σ Γ F' M' H' c (s.trans t)⟩
end Sw
set_option maxRecDepth 100000
set_option maxHeartbeats 2000000
/-! Sw: code, and what it comes to by values. -/
namespace Sw
open PySem L2
/-- built-in functions -/
inductive Bi where
  | len | abs_ | int_ | min2 | max2 | sum | all | any | tuple | list | sorted | range2 | range1 | maxL | minL
  deriving DecidableEq
/-- forms told by their text: sorted(set(x)), list(zip(x, y)) -/
inductive Spc where
  | sset | zipL | zipS
  deriving DecidableEq
/-- built-in methods -/
inductive Bm where
  | append | extend | pop | index | items | get1 | get2 | values | keys | setdefault | update | insert | count
  deriving DecidableEq
/-- where a parameter's value comes from: what was given, or the j-th default -/
inductive Arr where
  | at_ (i : Nat) | dfl (j : Nat) (d : D)
def arrD : List Arr → List D → List D
  | [], _ => []
  | .at_ i :: r, vs => vs.getD i .non :: arrD r vs
  | .dfl _ d :: r, vs => d :: arrD r vs
mutual
inductive C where
  | var (i : Nat) | cst (d : D)
  | bin (own : Bool) (op : Operator) (a b : C) | neg (a : C) | not (a : C) | and (a b : C) | or (a b : C)
  | cmp (op : CmpOp) (a b : C) | chain (op op' : CmpOp) (a b c : C) | ife (t a b : C)
  | tup (es : Cs) | lst (own : Bool) (es : Cs)
  | ix (a b : C) | slc (own : Bool) (a : C) (lo hi : Co) | rev (own : Bool) (a : C)
  | fld (o : C) (f : Str)
  | call (f : Str) (ar : List Arr) (es ks : Cs) | meth (c m : Str) (ar : List Arr) (o : C) (es ks : Cs) | make (c : Str) (own : Bool) (ar : List Arr) (es : Cs)
  | bi (own : Bool) (b : Bi) (es : Cs) | bm (own : Bool) (b : Bm) (o : C) (es : Cs)
  | isi (a : C) (ts : List String) | lc (own : Bool) (elt : C) (g : G) (src : I) (ifs : Co) (vs : List Nat)
  | frz (a : C)
  | sp (own : Bool) (k : Spc) (es : Cs) | olen (c : Str) (o : C)
inductive Co where
  | no | so (a : C)
inductive Cs where
  | nil | cons (a : C) (r : Cs)
inductive I where
  | seq (a : C) | range1 (a : C) | range2 (a b : C) | zip (s : Bool) (a b : C) | enum (a : C)
inductive G where
  | name (i : Nat) | tup (gs : Gs) | sub (o i : C) | fld (o : C) (f : Str)
inductive Gs where
  | nil | cons (g : G) (r : Gs)
end
mutual
inductive S where
  | asg (g : G) (e : C) | par2 (i j : Nat) (a b : C) | par3 (i j l : Nat) (a b c : C)
  | aug (i : Nat) (op : Operator) (e : C) | augS (o i : C) (op : Operator) (e : C)
  | expr (e : C) | ret (e : C) | retN | ite (t : C) (a b : Ss) | whl (t : C) (b : Ss) | for_ (g : G) (src : I) (b : Ss)
  | brk | cont | pass | raise (c : Str) (es : Cs) | never
inductive Ss where
  | nil | cons (s : S) (r : Ss)
end
/-! ### values -/
def getE : Env → Nat → Option D
  | [], _ => none
  | x :: _, 0 => x
  | _ :: r, n + 1 => getE r n
theorem getE_some {Γ : Env} {i : Nat} {d : D} (h : getE Γ i = some d) : Γ[i]? = some (some d) := by
  induction Γ generalizing i with
  | nil => cases h
  | cons x r ih => cases i with
    | zero => simp only [getE] at h; simp [h]
    | succ n => simpa using ih (by simpa [getE] using h)
def seqOf (M : MM) : D → Option (List D)
  | .lst xs => some xs
  | .frl xs => some xs
  | .tup xs => some xs
  | .loc a => match M a with
    | some (.lst xs) => some xs
    | _ => none
  | _ => none
/-- a list that is plainly there -/
def lstOf (M : MM) : D → Option (List D)
  | .lst xs => some xs
  | .loc a => match M a with
    | some (.lst xs) => some xs
    | _ => none
  | _ => none
mutual
def toPy : D → Option PyData
  | .non => some .none
  | .bl b => some (.bool b)
  | .int i => some (.int i)
  | .str x => some (.str x)
  | .lst xs => (toPys xs).map .list
  | .tup xs => (toPys xs).map .tuple
  | .ty _ => none
  | .frl _ => none
  | .dct _ => none
  | .obj _ _ => none
  | .loc _ => none
def toPys : List D → Option (List PyData)
  | [] => some []
  | x :: r => match toPy x, toPys r with
    | some a, some b => some (a :: b)
    | _, _ => none
end
def res (M : MM) : D → D
  | .loc a => match M a with
    | some (.lst xs) => .lst xs
    | _ => .loc a
  | d => d
def pEq (M : MM) (x y : D) (k : Bool → Prop) : Prop := match toPy (res M x), toPy (res M y) with
  | some a, some b => SeqAt.shaped a = true ∧ SeqAt.shaped b = true ∧ k (PyData.eqv a b)
  | _, _ => False
def pIn (M : MM) (x y : D) (k : Bool → Prop) : Prop := match seqOf M y with
  | some xs => match toPy (res M x), toPys xs with
    | some d, some ds => SeqAt.shaped d = true ∧ SeqAt.shaped (.list ds) = true ∧ k (ds.any fun z => PyData.eqv z d)
    | _, _ => False
  | none => False
def isNon : D → Bool
  | .non => true
  | _ => false
def newL (own : Bool) (xs : List D) (M : MM) (Φ : D → MM → Prop) : Prop := xs.length ≤ sizeLine ∧ match own with
  | true => ∀ a, M a = none → Φ (.loc a) (mset M a (.lst xs))
  | false => Φ (.lst xs) M
def mulOk (i j : Int) : Prop := CMul i j ∨ CMulW i j
def wBin (own : Bool) (op : Operator) (x y : D) (M : MM) (Φ : D → MM → Prop) : Prop := match op with
  | .Add => match x, y with
    | .int i, .int j => Φ (.int (i + j)) M
    | .str a, .str b => a.length + b.length ≤ sizeLine ∧ Φ (.str (a ++ b)) M
    | .tup xs, .tup ys => xs.length + ys.length ≤ sizeLine ∧ Φ (.tup (xs ++ ys)) M
    | x, y => match lstOf M x, lstOf M y with
      | some xs, some ys => xs.length + ys.length ≤ sizeLine ∧ newL own (xs ++ ys) M Φ
      | _, _ => False
  | .Sub => match x, y with
    | .int i, .int j => Φ (.int (i - j)) M
    | _, _ => False
  | .Mult => match x, y with
    | .int i, .int j => mulOk i j ∧ Φ (.int (i * j)) M
    | .lst xs, .int k => -(2 ^ 63) ≤ k ∧ k < 2 ^ 63 ∧ xs.length * k.toNat ≤ sizeLine ∧ newL own (List.replicate k.toNat xs).flatten M Φ
    | _, _ => False
  | .FloorDiv => match x, y with
    | .int i, .int j => CDivW i j ∧ Φ (.int (i / j)) M
    | _, _ => False
  | .Mod => match x, y with
    | .int i, .int j => 0 < j ∧ Φ (.int (i % j)) M
    | _, _ => False
  | .Pow => match x, y with
    | .int i, .int j => CPow i j ∧ Φ (.int (i ^ j.toNat)) M
    | _, _ => False
  | _ => False
def wAug (op : Operator) (x y : D) (M : MM) (Φ : D → MM → Prop) : Prop := match op with
  | .Add => match x, y with
    | .int i, .int j => Φ (.int (i + j)) M
    | _, _ => False
  | .Sub => match x, y with
    | .int i, .int j => Φ (.int (i - j)) M
    | _, _ => False
  | .Mult => match x, y with
    | .int i, .int j => CMul i j ∧ Φ (.int (i * j)) M
    | _, _ => False
  | _ => False
def wCmp (op : CmpOp) (x y : D) (M : MM) (Φ : D → MM → Prop) : Prop := match op with
  | .Lt => match x, y with
    | .int i, .int j => Φ (.bl (decide (i < j))) M
    | _, _ => False
  | .LtE => match x, y with
    | .int i, .int j => Φ (.bl (decide (i ≤ j))) M
    | _, _ => False
  | .Gt => match x, y with
    | .int i, .int j => Φ (.bl (decide (j < i))) M
    | _, _ => False
  | .GtE => match x, y with
    | .int i, .int j => Φ (.bl (decide (j ≤ i))) M
    | _, _ => False
  | .Eq => match x, y with
    | .int i, .int j => Φ (.bl (decide (i = j))) M
    | .bl i, .bl j => Φ (.bl (decide (i = j))) M
    | .str i, .str j => Φ (.bl (decide (i = j))) M
    | x, y => pEq M x y fun b => Φ (.bl b) M
  | .NotEq => match x, y with
    | .int i, .int j => Φ (.bl (!decide (i = j))) M
    | .bl i, .bl j => Φ (.bl (!decide (i = j))) M
    | .str i, .str j => Φ (.bl (!decide (i = j))) M
    | x, y => pEq M x y fun b => Φ (.bl (!b)) M
  | .Is => match y with
    | .non => Φ (.bl (isNon x)) M
    | _ => False
  | .IsNot => match y with
    | .non => Φ (.bl (!isNon x)) M
    | _ => False
  | .In => pIn M x y fun b => Φ (.bl b) M
  | .NotIn => pIn M x y fun b => Φ (.bl (!b)) M
/-- a place, from the front or the back -/
def atD (xs : List D) (i : Int) (k : D → Prop) : Prop := match atI xs i with
  | some d => k d
  | none => False
def wIx (x y : D) (M : MM) (Φ : D → MM → Prop) : Prop := match y with
  | .int i => match seqOf M x with
    | some xs => atD xs i fun d => Φ d M
    | none => False
  | _ => False
def cutD (xs : List D) (lo hi : Option Int) : List D := (xs.drop (HT.sIx xs.length 0 lo)).take (HT.sIx xs.length xs.length hi - HT.sIx xs.length 0 lo)
def wSl (own : Bool) (x : D) (lo hi : Option Int) (M : MM) (Φ : D → MM → Prop) : Prop := match x with
  | .tup xs => Φ (.tup (cutD xs lo hi)) M
  | x => match seqOf M x with
    | some xs => newL own (cutD xs lo hi) M Φ
    | none => False
def wRev (own : Bool) (x : D) (M : MM) (Φ : D → MM → Prop) : Prop := match x with
  | .tup xs => Φ (.tup xs.reverse) M
  | x => match seqOf M x with
    | some xs => newL own xs.reverse M Φ
    | none => False
def lookF (f : Str) : List (Str × D) → Option D
  | [] => none
  | (g, d) :: r => if g = f then some d else lookF f r
def wFld (x : D) (f : Str) (M : MM) (Φ : D → MM → Prop) : Prop := match x with
  | .obj _ fs => match lookF f fs with
    | some d => Φ d M
    | none => False
  | .loc a => match M a with
    | some (.ins _ fs) => match lookF f fs with
      | some d => Φ d M
      | none => False
    | _ => False
  | _ => False
def setF (f : Str) (d : D) : List (Str × D) → List (Str × D)
  | [] => [(f, d)]
  | (g, e) :: r => if g = f then (g, d) :: r else (g, e) :: setF f d r
/-- the built-in type of a value -/
def tyD : D → Option String
  | .non => some "NoneType"
  | .bl _ => some "bool"
  | .int _ => some "int"
  | .str _ => some "str"
  | .lst _ => some "list"
  | .tup _ => some "tuple"
  | .dct _ => some "dict"
  | .frl _ => some "list"
  | .ty _ => none
  | .obj _ _ => none
  | .loc _ => none
def tyM (M : MM) : D → Option String
  | .loc a => match M a with
    | some (.lst _) => some "list"
    | some (.dct _) => some "dict"
    | _ => none
  | d => tyD d
def isTy (a b : String) : Bool := a == b || (a == "bool" && b == "int")
def wIsi (x : D) (ts : List String) (M : MM) (Φ : D → MM → Prop) : Prop := match tyM M x with
  | some t => Φ (.bl (ts.any fun u => isTy t u)) M
  | none => False
def intsOf : List D → Option (List Int)
  | [] => some []
  | .int i :: r => match intsOf r with
    | some is => some (i :: is)
    | none => none
  | _ :: _ => none
def blsOf : List D → Option (List Bool)
  | [] => some []
  | .bl i :: r => match blsOf r with
    | some is => some (i :: is)
    | none => none
  | _ :: _ => none
def wInts (M : MM) (x : D) (k : List Int → Prop) : Prop := match seqOf M x with
  | some xs => match intsOf xs with
    | some is => k is
    | none => False
  | none => False
def wBls (M : MM) (x : D) (k : List Bool → Prop) : Prop := match seqOf M x with
  | some xs => match blsOf xs with
    | some is => k is
    | none => False
  | none => False
def pairs : List D → List D → List D
  | x :: xs, y :: ys => .tup [x, y] :: pairs xs ys
  | _, _ => []
def wSp (own : Bool) (k : Spc) (ds : List D) (M : MM) (Φ : D → MM → Prop) : Prop := match k, ds with
  | .sset, [x] => match x with
    | .tup _ => False
    | x => wInts M x fun is => is.length < 64 ∧ ∀ out : List Int, out.Pairwise (· < ·) → (∀ k, k ∈ out ↔ k ∈ is) → newL own (out.map D.int) M Φ
  | .zipL, [x, y] => match seqOf M x, seqOf M y with
    | some xs, some ys => newL own (pairs xs ys) M Φ
    | _, _ => False
  | .zipS, [x, y] => match seqOf M x, seqOf M y with
    | some xs, some ys => xs.length = ys.length ∧ newL own (pairs xs ys) M Φ
    | _, _ => False
  | _, _ => False
def wBi (own : Bool) (b : Bi) (ds : List D) (M : MM) (Φ : D → MM → Prop) : Prop := match b, ds with
  | .len, [x] => match seqOf M x with
    | some xs => Φ (.int xs.length) M
    | none => False
  | .abs_, [.int i] => Φ (.int (if i < 0 then -i else i)) M
  | .int_, [.int i] => Φ (.int i) M
  | .int_, [.bl k] => Φ (.int (if k then 1 else 0)) M
  | .min2, [.int i, .int j] => Φ (.int (if j < i then j else i)) M
  | .max2, [.int i, .int j] => Φ (.int (if j > i then j else i)) M
  | .sum, [x] => match seqOf M x with
    | some xs => match intsOf xs with
      | some is => Φ (.int is.sum) M
      | none => False
    | none => False
  | .all, [.lst xs] => match blsOf xs with
    | some bs => Φ (.bl (bs.all id)) M
    | none => False
  | .any, [.lst xs] => match blsOf xs with
    | some bs => Φ (.bl (bs.any id)) M
    | none => False
  | .tuple, [x] => match seqOf M x with
    | some xs => Φ (.tup xs) M
    | none => False
  | .list, [x] => match seqOf M x with
    | some xs => newL own xs M Φ
    | none => False
  | .sorted, [x] => match x with
    | .tup _ => False
    | x => wInts M x fun is => ∀ out : List Int, out.Perm is → out.Pairwise (· ≤ ·) → newL own (out.map D.int) M Φ
  | .maxL, [x] => match x with
    | .tup _ => False
    | x => wInts M x fun is => 0 < is.length ∧ ∀ m, m ∈ is → (∀ y, y ∈ is → y ≤ m) → Φ (.int m) M
  | .minL, [x] => match x with
    | .tup _ => False
    | x => wInts M x fun is => 0 < is.length ∧ ∀ m, m ∈ is → (∀ y, y ∈ is → m ≤ y) → Φ (.int m) M
  | _, _ => False
def wBm (own : Bool) (b : Bm) (x : D) (ds : List D) (M : MM) (Φ : D → MM → Prop) : Prop := match b, x, ds with
  | .append, .loc a, [y] => match M a with
    | some (.lst xs) => xs.length < sizeLine ∧ Φ .non (mset M a (.lst (xs ++ [y])))
    | _ => False
  | _, _, _ => False
def wSetI (o i v : D) (M : MM) (Φ : MM → Prop) : Prop := match o, i with
  | .loc a, .int k => match M a with
    | some (.lst xs) => match ixN xs.length k with
      | some j => Φ (mset M a (.lst (xs.set j v)))
      | none => False
    | _ => False
  | _, _ => False
def wSetF (o : D) (f : Str) (v : D) (M : MM) (Φ : MM → Prop) : Prop := match o with
  | .loc a => match M a with
    | some (.ins c fs) => fs.length < 1000 ∧ Φ (mset M a (.ins c (setF f v fs)))
    | _ => False
  | _ => False
/-- values one behind the other, by f -/
def frzL (f : D → MM → (D → MM → Prop) → Prop) : List D → List D → MM → (List D → MM → Prop) → Prop
  | [], acc, M, Φ => Φ acc M
  | x :: r, acc, M, Φ => f x M fun d M1 => frzL f r (acc ++ [d]) M1 Φ
/-- a cell's list, and the lists in it, made trees -/
def frzD : Nat → D → MM → (D → MM → Prop) → Prop
  | 0, d, M, Φ => match d with
    | .loc _ => False
    | d => Φ d M
  | n + 1, d, M, Φ => match d with
    | .loc a => match M a with
      | some (.lst xs) => frzL (frzD n) xs [] M fun ds M1 => M1 a = some (.lst xs) ∧ Φ (.lst ds) (mdel M1 a)
      | some (.ins c fs) => frzL (frzD n) (fs.map (·.2)) [] M fun ds M1 => M1 a = some (.ins c fs) ∧ Φ (.obj c ((fs.map (·.1)).zip ds)) (mdel M1 a)
      | _ => False
    | d => Φ d M
/-! ### what code comes to -/
/-- the text's own functions, what is wanted of exceptions -/
structure Sm where
  call : Str → List D → MM → (D → MM → Prop) → (D → MM → Prop) → Prop
  xs : D → MM → Prop
/-- turns of a comprehension -/
def lcRun (g : MM → Prop) (step : D → MM → (Option D → MM → Prop) → Prop) : List D → List D → MM → (List D → MM → Prop) → Prop
  | [], acc, M, Φ => g M ∧ Φ acc M
  | x :: xs, acc, M, Φ => g M ∧ step x M fun r M1 => lcRun g step xs (acc ++ r.toList) M1 Φ
/-- turns of a for -/
def forRun (g : MM → Prop) (nx : Env → MM → Prop) (step : D → Env → MM → (Env → MM → Prop) → Prop) : List D → Env → MM → Prop
  | [], Γ, M => g M ∧ nx Γ M
  | x :: xs, Γ, M => g M ∧ step x Γ M fun Γ1 M1 => forRun g nx step xs Γ1 M1
def numbered : Nat → List D → List D
  | _, [] => []
  | n, x :: xs => .tup [.int n, x] :: numbered (n + 1) xs
def rngD (a : Int) : Nat → List D
  | 0 => []
  | n + 1 => .int a :: rngD (a + 1) n
/-- the list stays as it is -/
def stays (M : MM) : D → MM → Prop
  | .loc a => match M a with
    | some (.lst xs) => fun M' => M' a = some (.lst xs)
    | _ => fun _ => False
  | _ => fun _ => True
mutual
def wE (s : Sm) : C → Env → MM → (D → MM → Prop) → Prop
  | .var i, Γ, M, Φ => match getE Γ i with
    | some d => Φ d M
    | none => False
  | .cst d, _, M, Φ => Φ d M
  | .bin own op a b, Γ, M, Φ => wE s a Γ M fun x M1 => wE s b Γ M1 fun y M2 => wBin own op x y M2 Φ
  | .neg a, Γ, M, Φ => wE s a Γ M fun x M1 => match x with
    | .int i => Φ (.int (-i)) M1
    | _ => False
  | .not a, Γ, M, Φ => wE s a Γ M fun x M1 => match x with
    | .bl b => Φ (.bl (!b)) M1
    | _ => False
  | .and a b, Γ, M, Φ => wE s a Γ M fun x M1 => match x with
    | .bl c => if c = true then wE s b Γ M1 Φ else Φ (.bl false) M1
    | _ => False
  | .or a b, Γ, M, Φ => wE s a Γ M fun x M1 => match x with
    | .bl c => if c = true then Φ (.bl true) M1 else wE s b Γ M1 Φ
    | _ => False
  | .cmp op a b, Γ, M, Φ => wE s a Γ M fun x M1 => wE s b Γ M1 fun y M2 => wCmp op x y M2 Φ
  | .chain op op' a b c, Γ, M, Φ => wE s a Γ M fun x M1 => wE s b Γ M1 fun y M2 => wCmp op x y M2 fun z M3 => match z with
    | .bl k => if k = true then wE s c Γ M3 fun w M4 => wCmp op' y w M4 Φ else Φ (.bl false) M3
    | _ => False
  | .ife t a b, Γ, M, Φ => wE s t Γ M fun x M1 => match x with
    | .bl c => if c = true then wE s a Γ M1 Φ else wE s b Γ M1 Φ
    | _ => False
  | .tup es, Γ, M, Φ => wEs s es Γ M fun ds M1 => ds.length ≤ sizeLine ∧ Φ (.tup ds) M1
  | .lst own es, Γ, M, Φ => wEs s es Γ M fun ds M1 => newL own ds M1 Φ
  | .ix a b, Γ, M, Φ => wE s a Γ M fun x M1 => wE s b Γ M1 fun y M2 => wIx x y M2 Φ
  | .slc own a lo hi, Γ, M, Φ => wE s a Γ M fun x M1 => wO s lo Γ M1 fun l M2 => wO s hi Γ M2 fun h M3 => wSl own x l h M3 Φ
  | .rev own a, Γ, M, Φ => wE s a Γ M fun x M1 => wRev own x M1 Φ
  | .fld o f, Γ, M, Φ => wE s o Γ M fun x M1 => wFld x f M1 Φ
  | .call f ar es ks, Γ, M, Φ => wEs s es Γ M fun ds M1 => wEs s ks Γ M1 fun zs M2 => s.call f (arrD ar (ds ++ zs)) M2 Φ s.xs
  | .meth c m ar o es ks, Γ, M, Φ => wE s o Γ M fun x M1 => (match x with
      | .obj c' fs => c' = c ∧ lookF m fs = none
      | .loc a => match M1 a with
        | some (.ins c' fs) => c' = c ∧ lookF m fs = none
        | _ => False
      | _ => False) ∧ wEs s es Γ M1 fun ds M2 => wEs s ks Γ M2 fun zs M3 => s.call (c ++ "." ++ m) (arrD ar (x :: ds ++ zs)) M3 Φ s.xs
  | .make c own ar es, Γ, M, Φ => wEs s es Γ M fun ds M1 => ∀ a, M1 a = none →
      s.call (c ++ ".__init__") (arrD ar (.loc a :: ds)) (mset M1 a (.ins c [])) (fun r M2 => isNon r = true ∧ if own = true then Φ (.loc a) M2 else frzD 4 (.loc a) M2 Φ) s.xs
  | .bi own b es, Γ, M, Φ => wEs s es Γ M fun ds M1 => wBi own b ds M1 Φ
  | .bm own b o es, Γ, M, Φ => wE s o Γ M fun x M1 => tyM M1 x = some "list" ∧ wEs s es Γ M1 fun ds M2 => wBm own b x ds M2 Φ
  | .isi a ts, Γ, M, Φ => wE s a Γ M fun x M1 => wIsi x ts M1 Φ
  | .lc own elt g src ifs vs, Γ, M, Φ => wI s src Γ M fun items st M1 => items.length < sizeLine ∧
      lcRun st (fun x M2 k => wG s g x (wipeD Γ vs) M2 fun Γ1 M3 => wipeD Γ1 vs = wipeD Γ vs ∧ wIf s ifs Γ1 M3 fun b M4 => if b = true then wE s elt Γ1 M4 (fun d M5 => k (some d) M5) else k none M4)
        items [] M1 fun ds M2 => newL own ds M2 Φ
  | .frz a, Γ, M, Φ => wE s a Γ M fun x M1 => frzD 4 x M1 Φ
  | .sp own k es, Γ, M, Φ => wEs s es Γ M fun ds M1 => wSp own k ds M1 Φ
  | .olen c o, Γ, M, Φ => wE s o Γ M fun x M1 => (match x with
      | .obj c' _ => c' = c
      | .loc a => match M1 a with
        | some (.ins c' _) => c' = c
        | _ => False
      | _ => False) ∧ s.call (c ++ "." ++ "__len__") [x] M1 (fun d M2 => match d with
      | .int n => 0 ≤ n ∧ n < 2 ^ 62 ∧ Φ d M2
      | _ => False) s.xs
def wIf (s : Sm) : Co → Env → MM → (Bool → MM → Prop) → Prop
  | .no, _, M, Φ => Φ true M
  | .so a, Γ, M, Φ => wE s a Γ M fun x M1 => match x with
    | .bl b => Φ b M1
    | _ => False
def wO (s : Sm) : Co → Env → MM → (Option Int → MM → Prop) → Prop
  | .no, _, M, Φ => Φ none M
  | .so a, Γ, M, Φ => wE s a Γ M fun x M1 => match x with
    | .int i => -(2 ^ 62) < i ∧ i < 2 ^ 62 ∧ Φ (some i) M1
    | _ => False
def wEs (s : Sm) : Cs → Env → MM → (List D → MM → Prop) → Prop
  | .nil, _, M, Φ => Φ [] M
  | .cons a r, Γ, M, Φ => wE s a Γ M fun x M1 => wEs s r Γ M1 fun xs M2 => Φ (x :: xs) M2
def wI (s : Sm) : I → Env → MM → (List D → (MM → Prop) → MM → Prop) → Prop
  | .seq a, Γ, M, Φ => wE s a Γ M fun x M1 => match seqOf M1 x with
    | some xs => Φ xs (stays M1 x) M1
    | none => False
  | .range1 a, Γ, M, Φ => wE s a Γ M fun x M1 => match x with
    | .int j => -(2 ^ 62) ≤ j ∧ j < 2 ^ 62 ∧ Φ (rngD 0 j.toNat) (fun _ => True) M1
    | _ => False
  | .range2 a b, Γ, M, Φ => wE s a Γ M fun x M1 => wE s b Γ M1 fun y M2 => match x, y with
    | .int i, .int j => -(2 ^ 62) ≤ i ∧ i < 2 ^ 62 ∧ -(2 ^ 62) ≤ j ∧ j < 2 ^ 62 ∧ Φ (rngD i (j - i).toNat) (fun _ => True) M2
    | _, _ => False
  | .zip st a b, Γ, M, Φ => wE s a Γ M fun x M1 => wE s b Γ M1 fun y M2 => match seqOf M2 x, seqOf M2 y with
    | some xs, some ys => (st = true → xs.length = ys.length) ∧ Φ (pairs xs ys) (fun M' => stays M2 x M' ∧ stays M2 y M') M2
    | _, _ => False
  | .enum a, Γ, M, Φ => wE s a Γ M fun x M1 => match seqOf M1 x with
    | some xs => Φ (numbered 0 xs) (stays M1 x) M1
    | none => False
def wG (s : Sm) : G → D → Env → MM → (Env → MM → Prop) → Prop
  | .name i, d, Γ, M, Φ => Φ (Γ.set i (some d)) M
  | .tup gs, d, Γ, M, Φ => match d with
    | .tup ds => wGs s gs ds Γ M Φ
    | _ => False
  | .sub o i, d, Γ, M, Φ => wE s o Γ M fun x M1 => wE s i Γ M1 fun y M2 => wSetI x y d M2 (Φ Γ)
  | .fld o f, d, Γ, M, Φ => wE s o Γ M fun x M1 => wSetF x f d M1 (Φ Γ)
def wGs (s : Sm) : Gs → List D → Env → MM → (Env → MM → Prop) → Prop
  | .nil, ds, Γ, M, Φ => match ds with
    | [] => Φ Γ M
    | _ => False
  | .cons g r, ds, Γ, M, Φ => match ds with
    | d :: ds' => wG s g d Γ M fun Γ1 M1 => wGs s r ds' Γ1 M1 Φ
    | [] => False
end
mutual
def wS (s : Sm) : S → WK → Env → MM → Prop
  | .asg g e, k, Γ, M => wE s e Γ M fun d M1 => wG s g d Γ M1 k.nx
  | .par2 i j a b, k, Γ, M => wE s a Γ M fun x M1 => wE s b Γ M1 fun y M2 => k.nx ((Γ.set i (some x)).set j (some y)) M2
  | .par3 i j l a b c, k, Γ, M => wE s a Γ M fun x M1 => wE s b Γ M1 fun y M2 => wE s c Γ M2 fun z M3 => k.nx (((Γ.set i (some x)).set j (some y)).set l (some z)) M3
  | .aug i op e, k, Γ, M => match getE Γ i with
    | some x => wE s e Γ M fun y M1 => wAug op x y M1 fun d M2 => k.nx (Γ.set i (some d)) M2
    | none => False
  | .augS o i op e, k, Γ, M => wE s o Γ M fun x M1 => wE s i Γ M1 fun y M2 => wIx x y M2 fun z M3 => wE s e Γ M3 fun w M4 => wAug op z w M4 fun d M5 => wSetI x y d M5 (k.nx Γ)
  | .expr e, k, Γ, M => wE s e Γ M fun _ M1 => k.nx Γ M1
  | .ret e, k, Γ, M => wE s e Γ M k.rt
  | .retN, k, Γ, M => k.rt .non M
  | .ite t a b, k, Γ, M => wE s t Γ M fun x M1 => match x with
    | .bl c => if c = true then wSs s a k Γ M1 else wSs s b k Γ M1
    | _ => False
  | .whl t b, k, Γ, M => ∃ W : Nat → Env → MM → Prop, (∃ m, W m Γ M) ∧ ∀ m Γ' M', W m Γ' M' → wE s t Γ' M' fun x M1 => match x with
    | .bl c => if c = true then wSs s b { nx := fun Γ2 M2 => ∃ m', m' < m ∧ W m' Γ2 M2, rt := k.rt, bk := k.nx, ct := fun Γ2 M2 => ∃ m', m' < m ∧ W m' Γ2 M2 } Γ' M1 else k.nx Γ' M1
    | _ => False
  | .for_ g src b, k, Γ, M => wI s src Γ M fun items st M1 =>
      forRun st k.nx (fun x Γ1 M2 j => wG s g x Γ1 M2 fun Γ2 M3 => wSs s b { nx := j, rt := k.rt, bk := k.nx, ct := j } Γ2 M3) items Γ M1
  | .brk, k, Γ, M => k.bk Γ M
  | .cont, k, Γ, M => k.ct Γ M
  | .pass, k, Γ, M => k.nx Γ M
  | .raise _ _, _, _, _ => False
  | .never, _, _, _ => False
def wSs (s : Sm) : Ss → WK → Env → MM → Prop
  | .nil, k, Γ, M => k.nx Γ M
  | .cons a r, k, Γ, M => wS s a { k with nx := fun Γ1 M1 => wSs s r k Γ1 M1 } Γ M
end
end Sw
set_option maxRecDepth 100000
set_option maxHeartbeats 4000000
/-! Sw: readings come to what code says. -/
namespace Sw
open PySem L2
variable {W : Ab} {J : JW}
/-! ### helpers -/
theorem Rp.isN {F : Hp} {v : V} {d : D} (h : Rp W F v d) : decide (v = .non) = isNon d := by
  cases h <;> rfl
theorem stp_foreign {F F' : Hp} {M M' : MM} {H H' : Hp} {p : Addr} {o : HO} (s : Stp F M H F' M' H') (h : H p = none) : Stp F M H F' M' (upd H' p o) :=
  ⟨s.f, fun a u e m => by rw [upd_ne (ne_of_none e h)]; exact s.k a u e m, s.nf, s.nm, fun a e => upd_some (s.t a e)⟩
theorem conc_foreign {F : Hp} {M : MM} {H : Hp} {p : Addr} {o : HO} (c : Conc W F M H) (hf : F p = none) (hm : M p = none) : Conc W F M (upd H p o) := by
  refine ⟨fun a u e => ?_, fun a u e => ?_⟩
  · rw [upd_ne (ne_of_none e hf)]; exact c.ex a u e
  · have ha : a ≠ p := fun z => by subst z; rw [hm] at e; cases e
    obtain ⟨q1, q2⟩ := c.cell a u e
    exact ⟨q1, q2.up (Ex.refl F) (upd_ne ha)⟩
/-- an object that has stood beside (neither known nor owned) is known, is owned -/
theorem Conc.adopt {F : Hp} {M : MM} {H : Hp} {p : Addr} {o : HO} (c : Conc W F M H) (hf : F p = none) (hm : M p = none) (e : H p = some o) : Conc W (upd F p o) M H := by
  refine ⟨fun a u q => ?_, fun a u q => ?_⟩
  · by_cases ha : a = p
    · subst ha; rw [upd_same] at q; rw [e]; exact q
    · rw [upd_ne ha] at q; exact c.ex a u q
  · have ha : a ≠ p := fun z => by subst z; rw [hm] at q; cases q
    obtain ⟨q1, q2⟩ := c.cell a u q
    exact ⟨by rw [upd_ne ha]; exact q1, q2.up (Ex.upd hf) rfl⟩
theorem Conc.adoptM {F : Hp} {M : MM} {H : Hp} {p : Addr} {x : Cell} (c : Conc W F M H) (hf : F p = none) (hm : M p = none) (ok : CellOk W F H p x) : Conc W F (mset M p x) H := by
  refine ⟨c.ex, fun a u q => ?_⟩
  by_cases ha : a = p
  · subst ha; rw [mset_same] at q; cases q; exact ⟨hf, ok⟩
  · rw [mset_ne ha] at q; exact c.cell a u q
theorem stp_adopt {F F' : Hp} {M M' : MM} {H H' : Hp} {p : Addr} {o : HO} (s : Stp F M H F' M' H') (h : H p = none) (hf : F' p = none) : Stp F M H (upd F' p o) M' H' :=
  ⟨s.f.trans (Ex.upd hf), s.k, fun a e f m => by rw [upd_ne (fun z => e (by rw [z]; exact h))]; exact s.nf a e f m, s.nm, s.t⟩
theorem stp_adoptM {F F' : Hp} {M M' : MM} {H H' : Hp} {p : Addr} {x : Cell} (s : Stp F M H F' M' H') (h : H p = none) : Stp F M H F' (mset M' p x) H' :=
  ⟨s.f, s.k, s.nf, fun a q => by
    by_cases ha : a = p
    · subst ha; exact .inr h
    · rw [mset_ne ha] at q; exact s.nm a q, s.t⟩
/-- a list that was just laid -/
theorem newL_ok {F : Hp} {M : MM} {H : Hp} {own : Bool} {vs : List V} {ds : List D} {Φ : D → MM → Prop} {Q : VK} (c : Conc W F M H) (r : Rps W F vs ds) (w : newL own ds M Φ)
    (k : ∀ v d F' M' H', Conc W F' M' H' → Stp F M H F' M' H' → Rp W F' v d → Φ d M' → Q v H') : ∀ p, H p = none → Q (.ref p) (upd H p (.lst vs)) := fun p hp => by
  obtain ⟨hz, w⟩ := w
  cases own with
  | true =>
    obtain ⟨c', s'⟩ := c.own (x := .lst ds) (o := .lst vs) hp ⟨vs, upd_same, r⟩
    exact k _ _ _ _ _ c' s' (.loc p) (w p (c.fresh hp).2)
  | false =>
    obtain ⟨c', s'⟩ := c.know hp (.lst vs)
    exact k _ _ _ _ _ c' s' (.lst upd_same (r.up s'.f)) w
theorem newT_ok {F : Hp} {M : MM} {H : Hp} {vs : List V} {ds : List D} {Φ : D → MM → Prop} {Q : VK} (c : Conc W F M H) (r : Rps W F vs ds) (w : Φ (.tup ds) M)
    (k : ∀ v d F' M' H', Conc W F' M' H' → Stp F M H F' M' H' → Rp W F' v d → Φ d M' → Q v H') : ∀ p, H p = none → Q (.ref p) (upd H p (.tup vs)) := fun p hp => by
  obtain ⟨c', s'⟩ := c.know hp (.tup vs)
  exact k _ _ _ _ _ c' s' (.tup (.inl (.inl upd_same)) (r.up s'.f)) w
/-- a list's or a tuple's items -/
theorem seq_ok {F : Hp} {M : MM} {H : Hp} {v : V} {d : D} {xs : List D} (c : Conc W F M H) (r : Rp W F v d) (e : seqOf M d = some xs) :
    ∃ a vs, v = .ref a ∧ Rps W F vs xs ∧ (SqL W.K H a vs ∨ (SqT W.K H a vs ∧ d = .tup xs)) := by
  cases r with
  | lst h q => cases e; exact ⟨_, _, rfl, q, .inl (.inl (.inl (c.ex _ _ h)))⟩
  | frl h q => cases e; exact ⟨_, _, rfl, q, .inl (c.ex.l h)⟩
  | tup h q => cases e; exact ⟨_, _, rfl, q, .inr ⟨c.ex.t h, rfl⟩⟩
  | loc a =>
    simp only [seqOf] at e
    split at e
    · rename_i ys hm
      cases e
      obtain ⟨_, vs, h1, h2⟩ := c.cell a _ hm
      exact ⟨a, vs, rfl, h2, .inl (.inl (.inl h1))⟩
    · cases e
  | _ => cases e
theorem seq_ok' {F : Hp} {M : MM} {H : Hp} {v : V} {d : D} {xs : List D} (c : Conc W F M H) (r : Rp W F v d) (e : seqOf M d = some xs) :
    ∃ a vs, v = .ref a ∧ Rps W F vs xs ∧ (SqL W.K H a vs ∨ SqT W.K H a vs) := by
  obtain ⟨a, vs, h1, h2, h3⟩ := seq_ok c r e
  rcases h3 with h3 | ⟨h3, _⟩
  · exact ⟨a, vs, h1, h2, .inl h3⟩
  · exact ⟨a, vs, h1, h2, .inr h3⟩
theorem lst_ok {F : Hp} {M : MM} {H : Hp} {v : V} {d : D} {xs : List D} (c : Conc W F M H) (r : Rp W F v d) (e : lstOf M d = some xs) :
    ∃ a vs, v = .ref a ∧ Rps W F vs xs ∧ H a = some (.lst vs) := by
  cases r with
  | lst h q => cases e; exact ⟨_, _, rfl, q, c.ex _ _ h⟩
  | loc a =>
    simp only [lstOf] at e
    split at e
    · rename_i ys hm
      cases e
      obtain ⟨_, vs, h1, h2⟩ := c.cell a _ hm
      exact ⟨a, vs, rfl, h2, h1⟩
    · cases e
  | _ => cases e
/-! ### by values -/
def SimV (W : Ab) (J : JW) (r : V → Hp → VK → Prop) (w : D → MM → (D → MM → Prop) → Prop) : Prop := ∀ {F M H x d Φ} {Q : VK}, J.J F M H → Conc W F M H → Rp W F x d → w d M Φ →
  (∀ v e F' M' H', Conc W F' M' H' → Stp F M H F' M' H' → Rp W F' v e → Φ e M' → Q v H') → r x H Q
def SimR (W : Ab) (J : JW) (r : R2) (w : D → D → MM → (D → MM → Prop) → Prop) : Prop := ∀ {F M H x y d e Φ} {Q : VK}, J.J F M H → Conc W F M H → Rp W F x d → Rp W F y e → w d e M Φ →
  (∀ v z F' M' H', Conc W F' M' H' → Stp F M H F' M' H' → Rp W F' v z → Φ z M' → Q v H') → r x y H Q
def SimL (W : Ab) (J : JW) (r : List V → Hp → VK → Prop) (w : List D → MM → (D → MM → Prop) → Prop) : Prop := ∀ {F M H vs ds Φ} {Q : VK}, J.J F M H → Conc W F M H → Rps W F vs ds → w ds M Φ →
  (∀ v e F' M' H', Conc W F' M' H' → Stp F M H F' M' H' → Rp W F' v e → Φ e M' → Q v H') → r vs H Q
/-! ### expressions -/
theorem sim_var {s : Sm} {i : Nat} : SimE W J (tVar i) (wE s (.var i)) := fun {F M H σ Γ Φ Q} j c e w k => by
  simp only [wE] at w
  split at w
  · rename_i d hd
    obtain ⟨v, h1, h2⟩ := e.at_ i d (getE_some hd)
    exact ⟨v, h1, k v d F M H c Stp.refl h2 w⟩
  · exact w.elim
theorem sim_cst {s : Sm} {v : V} {d : D} (h : ∀ F : Hp, Rp W F v d) : SimE W J (tC v) (wE s (.cst d)) := fun {F M H σ Γ Φ Q} j c e w k => by
  simp only [wE] at w
  exact k v d F M H c Stp.refl (h F) w
theorem sim_op {s : Sm} {ta tb : TE} {a b : C} {r : R2} {own : Bool} {op : Operator} (ha : SimE W J ta (wE s a)) (hb : SimE W J tb (wE s b)) (hr : SimR W J r (wBin own op)) : SimE W J (tOp r ta tb) (wE s (.bin own op a b)) :=
  fun {F M H σ Γ Φ Q} j c e w k => by
  simp only [wE] at w
  refine ha j c e w fun x d F1 M1 H1 c1 s1 r1 w1 => ?_
  refine hb (J.step j s1) c1 (e.up s1.f) w1 fun y d2 F2 M2 H2 c2 s2 r2 w2 => ?_
  exact hr (J.step (J.step j s1) s2) c2 (r1.up s2.f) r2 w2 fun v z F3 M3 H3 c3 s3 => k v z F3 M3 H3 c3 ((s1.trans s2).trans s3)
theorem sim_cmp {s : Sm} {ta tb : TE} {a b : C} {r : R2} {op : CmpOp} (ha : SimE W J ta (wE s a)) (hb : SimE W J tb (wE s b)) (hr : SimR W J r (wCmp op)) : SimE W J (tOp r ta tb) (wE s (.cmp op a b)) :=
  fun {F M H σ Γ Φ Q} j c e w k => by
  simp only [wE] at w
  refine ha j c e w fun x d F1 M1 H1 c1 s1 r1 w1 => ?_
  refine hb (J.step j s1) c1 (e.up s1.f) w1 fun y d2 F2 M2 H2 c2 s2 r2 w2 => ?_
  exact hr (J.step (J.step j s1) s2) c2 (r1.up s2.f) r2 w2 fun v z F3 M3 H3 c3 s3 => k v z F3 M3 H3 c3 ((s1.trans s2).trans s3)
theorem sim_ix {s : Sm} {ta tb : TE} {a b : C} {r : R2} (ha : SimE W J ta (wE s a)) (hb : SimE W J tb (wE s b)) (hr : SimR W J r wIx) : SimE W J (tOp r ta tb) (wE s (.ix a b)) :=
  fun {F M H σ Γ Φ Q} j c e w k => by
  simp only [wE] at w
  refine ha j c e w fun x d F1 M1 H1 c1 s1 r1 w1 => ?_
  refine hb (J.step j s1) c1 (e.up s1.f) w1 fun y d2 F2 M2 H2 c2 s2 r2 w2 => ?_
  exact hr (J.step (J.step j s1) s2) c2 (r1.up s2.f) r2 w2 fun v z F3 M3 H3 c3 s3 => k v z F3 M3 H3 c3 ((s1.trans s2).trans s3)
theorem sim_neg {s : Sm} {ta : TE} {a : C} (ha : SimE W J ta (wE s a)) : SimE W J (tUn (rU fun i => .int (-i)) ta) (wE s (.neg a)) := fun {F M H σ Γ Φ Q} j c e w k => by
  simp only [wE] at w
  refine ha j c e w fun x d F1 M1 H1 c1 s1 r1 w1 => ?_
  cases r1 with
  | int i => exact ⟨i, rfl, k _ _ F1 M1 H1 c1 s1 (.int _) w1⟩
  | _ => exact w1.elim
theorem sim_not {s : Sm} {ta : TE} {a : C} (ha : SimE W J ta (wE s a)) : SimE W J (tNotV ta) (wE s (.not a)) := fun {F M H σ Γ Φ Q} j c e w k => by
  simp only [wE] at w
  refine ha j c e w fun x d F1 M1 H1 c1 s1 r1 w1 => ?_
  cases r1 with
  | bl b => exact ⟨b, rfl, k _ _ F1 M1 H1 c1 s1 (.bl _) w1⟩
  | _ => exact w1.elim
theorem sim_and {s : Sm} {ta tb : TE} {a b : C} (ha : SimE W J ta (wE s a)) (hb : SimE W J tb (wE s b)) : SimE W J (tAndV ta tb) (wE s (.and a b)) := fun {F M H σ Γ Φ Q} j c e w k => by
  simp only [wE] at w
  refine ha j c e w fun x d F1 M1 H1 c1 s1 r1 w1 => ?_
  cases r1 with
  | bl b =>
    refine ⟨b, rfl, ?_⟩
    cases b with
    | true => exact hb (J.step j s1) c1 (e.up s1.f) w1 fun v z F3 M3 H3 c3 s3 => k v z F3 M3 H3 c3 (s1.trans s3)
    | false => exact k _ _ F1 M1 H1 c1 s1 (.bl _) w1
  | _ => exact w1.elim
theorem sim_or {s : Sm} {ta tb : TE} {a b : C} (ha : SimE W J ta (wE s a)) (hb : SimE W J tb (wE s b)) : SimE W J (tOrV ta tb) (wE s (.or a b)) := fun {F M H σ Γ Φ Q} j c e w k => by
  simp only [wE] at w
  refine ha j c e w fun x d F1 M1 H1 c1 s1 r1 w1 => ?_
  cases r1 with
  | bl b =>
    refine ⟨b, rfl, ?_⟩
    cases b with
    | false => exact hb (J.step j s1) c1 (e.up s1.f) w1 fun v z F3 M3 H3 c3 s3 => k v z F3 M3 H3 c3 (s1.trans s3)
    | true => exact k _ _ F1 M1 H1 c1 s1 (.bl _) w1
  | _ => exact w1.elim
/-- a test: code whose value is a truth -/
def wT (s : Sm) (a : C) : WT := fun Γ M Φ => wE s a Γ M fun x M1 => match x with
  | .bl b => Φ b M1
  | _ => False
theorem simT_val {s : Sm} {ta : TE} {a : C} (ha : SimE W J ta (wE s a)) : SimT W J (tB ta) (wT s a) := fun {F M H σ Γ Φ Q} j c e w k => by
  unfold wT at w
  refine ha j c e w fun x d F1 M1 H1 c1 s1 r1 w1 => ?_
  cases r1 with
  | bl b => exact ⟨b, rfl, k _ F1 M1 H1 c1 s1 w1⟩
  | _ => exact w1.elim
theorem simT_test {s : Sm} {ta : TE} {a : C} (ha : SimE W J ta (wE s a)) : SimT W J (tTest ta) (wT s a) := simT_val ha
theorem simT_not {s : Sm} {t : TT} {a : C} (ha : SimT W J t (wT s a)) : SimT W J (tNot t) (wT s (.not a)) := fun {F M H σ Γ Φ Q} j c e w k => by
  unfold wT at w
  simp only [wE] at w
  refine ha (Φ := fun b M1 => Φ (!b) M1) j c e ?_ fun b F1 M1 H1 c1 s1 w1 => k _ F1 M1 H1 c1 s1 w1
  unfold wT
  have e1 : (fun (x : D) (M1 : MM) => (match x with
      | .bl b => Φ (!b) M1
      | _ => False : Prop)) = fun (x : D) (M1 : MM) => (match x with
      | .bl b => (match D.bl (!b) with
        | .bl b => Φ b M1
        | _ => False : Prop)
      | _ => False : Prop) := by
    funext x M1
    cases x <;> rfl
  rw [e1]
  exact w
theorem simT_and {s : Sm} {t u : TT} {a b : C} (ha : SimT W J t (wT s a)) (hb : SimT W J u (wT s b)) : SimT W J (tAnd t u) (wT s (.and a b)) := fun {F M H σ Γ Φ Q} j c e w k => by
  unfold wT at w
  simp only [wE] at w
  refine ha (Φ := fun b' M1 => if b' = true then wT s b Γ M1 Φ else Φ false M1) j c e w fun b' F1 M1 H1 c1 s1 w1 => ?_
  cases b' with
  | true => exact hb (J.step j s1) c1 (e.up s1.f) w1 fun v F3 M3 H3 c3 s3 => k v F3 M3 H3 c3 (s1.trans s3)
  | false => exact k _ F1 M1 H1 c1 s1 w1
theorem simT_or {s : Sm} {t u : TT} {a b : C} (ha : SimT W J t (wT s a)) (hb : SimT W J u (wT s b)) : SimT W J (tOr t u) (wT s (.or a b)) := fun {F M H σ Γ Φ Q} j c e w k => by
  unfold wT at w
  simp only [wE] at w
  refine ha (Φ := fun b' M1 => if b' = true then Φ true M1 else wT s b Γ M1 Φ) j c e w fun b' F1 M1 H1 c1 s1 w1 => ?_
  cases b' with
  | false => exact hb (J.step j s1) c1 (e.up s1.f) w1 fun v F3 M3 H3 c3 s3 => k v F3 M3 H3 c3 (s1.trans s3)
  | true => exact k _ F1 M1 H1 c1 s1 w1
theorem sim_ife {s : Sm} {t : TT} {ta tb : TE} {u a b : C} (ht : SimT W J t (wT s u)) (ha : SimE W J ta (wE s a)) (hb : SimE W J tb (wE s b)) : SimE W J (tIf t ta tb) (wE s (.ife u a b)) := fun {F M H σ Γ Φ Q} j c e w k => by
  simp only [wE] at w
  refine ht (Φ := fun b' M1 => if b' = true then wE s a Γ M1 Φ else wE s b Γ M1 Φ) j c e w fun b' F1 M1 H1 c1 s1 w1 => ?_
  cases b' with
  | true => exact ha (J.step j s1) c1 (e.up s1.f) w1 fun v z F3 M3 H3 c3 s3 => k v z F3 M3 H3 c3 (s1.trans s3)
  | false => exact hb (J.step j s1) c1 (e.up s1.f) w1 fun v z F3 M3 H3 c3 s3 => k v z F3 M3 H3 c3 (s1.trans s3)
theorem sim_chain {s : Sm} {ta tb tc : TE} {a b cc : C} {r r' : R2} {op op' : CmpOp} (ha : SimE W J ta (wE s a)) (hb : SimE W J tb (wE s b)) (hc : SimE W J tc (wE s cc)) (hr : SimR W J r (wCmp op)) (hr' : SimR W J r' (wCmp op')) :
    SimE W J (tChain r r' ta tb tc) (wE s (.chain op op' a b cc)) := fun {F M H σ Γ Φ Q} j c e w k => by
  simp only [wE] at w
  refine ha j c e w fun x d F1 M1 H1 c1 s1 r1 w1 => ?_
  refine hb (J.step j s1) c1 (e.up s1.f) w1 fun y d2 F2 M2 H2 c2 s2 r2 w2 => ?_
  refine hr (J.step (J.step j s1) s2) c2 (r1.up s2.f) r2 w2 fun v z F3 M3 H3 c3 s3 r3 w3 => ?_
  have s13 := (s1.trans s2).trans s3
  cases r3 with
  | bl b' =>
    refine ⟨b', rfl, ?_⟩
    cases b' with
    | true =>
      refine hc (J.step j s13) c3 (e.up s13.f) w3 fun v z F4 M4 H4 c4 s4 r4 w4 => ?_
      exact hr' (J.step (J.step j s13) s4) c4 ((r2.up s3.f).up s4.f) r4 w4 fun v z F5 M5 H5 c5 s5 => k v z F5 M5 H5 c5 ((s13.trans s4).trans s5)
    | false => exact k _ _ F3 M3 H3 c3 s13 (.bl _) w3
  | _ => exact w3.elim
theorem simA_nil {s : Sm} : SimA W J tNil (wEs s .nil) := fun {F M H σ Γ Φ Q} j c e w k => by
  simp only [wEs] at w
  exact k _ _ F M H c Stp.refl .nil w
theorem simA_cons {s : Sm} {ta : TE} {tr : TA} {a : C} {r : Cs} (ha : SimE W J ta (wE s a)) (hr : SimA W J tr (wEs s r)) : SimA W J (tCons ta tr) (wEs s (.cons a r)) := fun {F M H σ Γ Φ Q} j c e w k => by
  simp only [wEs] at w
  refine ha j c e w fun x d F1 M1 H1 c1 s1 r1 w1 => ?_
  exact hr (J.step j s1) c1 (e.up s1.f) w1 fun xs ds F2 M2 H2 c2 s2 r2 w2 => k _ _ F2 M2 H2 c2 (s1.trans s2) (.cons (r1.up s2.f) r2) w2
theorem sim_tup {s : Sm} {t : TA} {es : Cs} (h : SimA W J t (wEs s es)) : SimE W J (tTup t) (wE s (.tup es)) := fun {F M H σ Γ Φ Q} j c e w k => by
  simp only [wE] at w
  refine h j c e w fun vs ds F1 M1 H1 c1 s1 r1 w1 => ?_
  obtain ⟨hz, w1⟩ := w1
  exact ⟨by rw [r1.length]; exact hz, newT_ok c1 r1 w1 fun v z F3 M3 H3 c3 s3 => k v z F3 M3 H3 c3 (s1.trans s3)⟩
theorem sim_lst {s : Sm} {own : Bool} {t : TA} {es : Cs} (h : SimA W J t (wEs s es)) : SimE W J (tLst t) (wE s (.lst own es)) := fun {F M H σ Γ Φ Q} j c e w k => by
  simp only [wE] at w
  refine h j c e w fun vs ds F1 M1 H1 c1 s1 r1 w1 => ?_
  exact ⟨by rw [r1.length]; exact w1.1, newL_ok c1 r1 w1 fun v z F3 M3 H3 c3 s3 => k v z F3 M3 H3 c3 (s1.trans s3)⟩
theorem sim_bi {s : Sm} {own : Bool} {b : Bi} {t : TA} {es : Cs} {r : List V → Hp → VK → Prop} (h : SimA W J t (wEs s es)) (hr : SimL W J r (wBi own b)) : SimE W J (tCB r t) (wE s (.bi own b es)) := fun {F M H σ Γ Φ Q} j c e w k => by
  simp only [wE] at w
  refine h j c e w fun vs ds F1 M1 H1 c1 s1 r1 w1 => ?_
  exact hr (J.step j s1) c1 r1 w1 fun v z F3 M3 H3 c3 s3 => k v z F3 M3 H3 c3 (s1.trans s3)
end Sw
set_option maxRecDepth 100000
set_option maxHeartbeats 4000000
/-! Sw: operators, comparisons, places, calls of built-ins by values. -/
namespace Sw
open PySem L2
variable {W : Ab} {J : JW}
theorem dp_ok {K : PySem.W.Frag} {F H : Hp} (x : Ex F H) (hK : W.K = K) :
    (∀ (d : D) (v : V) (p : PyData), Rp W F v d → toPy d = some p → Dp K H v p) ∧ (∀ (ds : List D) (vs : List V) (ps : List PyData), Rps W F vs ds → toPys ds = some ps → DpAll K H vs ps) := by
  subst hK
  have main : ∀ n : Nat, (∀ (d : D) (v : V) (p : PyData), sizeOf d < n → Rp W F v d → toPy d = some p → Dp W.K H v p) ∧ (∀ (ds : List D) (vs : List V) (ps : List PyData), sizeOf ds < n → Rps W F vs ds → toPys ds = some ps → DpAll W.K H vs ps) := by
    intro n
    induction n with
    | zero => exact ⟨fun _ _ _ h => absurd h (Nat.not_lt_zero _), fun _ _ _ h => absurd h (Nat.not_lt_zero _)⟩
    | succ n ih =>
      refine ⟨fun d v p hs r e => ?_, fun ds vs ps hs r e => ?_⟩
      · cases r with
        | non => simp [toPy] at e; subst e; exact .non
        | bl b => simp [toPy] at e; subst e; exact .bl b
        | int i => simp [toPy] at e; subst e; exact .int i
        | str z => simp [toPy] at e; subst e; exact .str z
        | @lst a vs ds h q =>
          simp only [toPy, Option.map_eq_some_iff] at e
          obtain ⟨ps, e1, rfl⟩ := e
          exact .lst (.inl (.inl (x _ _ h))) (ih.2 ds vs ps (by simp at hs; omega) q e1)
        | @tup a vs ds h q =>
          simp only [toPy, Option.map_eq_some_iff] at e
          obtain ⟨ps, e1, rfl⟩ := e
          exact .tup (x.t h) (ih.2 ds vs ps (by simp at hs; omega) q e1)
        | _ => simp [toPy] at e
      · cases r with
        | nil => simp [toPys] at e; subst e; exact .nil
        | @cons v vs d ds h q =>
          simp only [toPys] at e
          split at e
          · rename_i a b e1 e2
            cases e
            exact .cons (ih.1 d v a (by simp at hs; omega) h e1) (ih.2 ds vs b (by simp at hs; omega) q e2)
          · cases e
  exact ⟨fun d v p r e => (main (sizeOf d + 1)).1 d v p (Nat.lt_succ_self _) r e, fun ds vs ps r e => (main (sizeOf ds + 1)).2 ds vs ps (Nat.lt_succ_self _) r e⟩
/-- a value's data, a cell's list too -/
theorem dp_res {F H : Hp} {M : MM} {v : V} {d : D} {p : PyData} (c : Conc W F M H) (r : Rp W F v d) (e : toPy (res M d) = some p) : Dp W.K H v p := by
  cases r with
  | loc a =>
    simp only [res] at e
    split at e
    · rename_i xs hm
      simp only [toPy, Option.map_eq_some_iff] at e
      obtain ⟨ps, e1, rfl⟩ := e
      obtain ⟨_, vs, h1, h2⟩ := c.cell a _ hm
      exact .lst (.inl (.inl h1)) ((dp_ok c.ex rfl).2 xs vs ps h2 e1)
    · simp [toPy] at e
  | non => exact (dp_ok c.ex rfl).1 _ _ _ .non e
  | bl b => exact (dp_ok c.ex rfl).1 _ _ _ (.bl b) e
  | int i => exact (dp_ok c.ex rfl).1 _ _ _ (.int i) e
  | str z => exact (dp_ok c.ex rfl).1 _ _ _ (.str z) e
  | lst h q => exact (dp_ok c.ex rfl).1 _ _ _ (.lst h q) e
  | tup h q => exact (dp_ok c.ex rfl).1 _ _ _ (.tup h q) e
  | ty n => simp [res, toPy] at e
  | frl h q => simp [res, toPy] at e
  | dct h q z => simp [res, toPy] at e
  | obj h q z y => simp [res, toPy] at e
/-! ### operators -/
abbrev rOr (r r' : R2) : R2 := fun x y H Q => r x y H Q ∨ r' x y H Q
theorem simR_imp {r : R2} {w : D → D → MM → (D → MM → Prop) → Prop} (h : ∀ {F M H x y d e Φ} {Q : VK}, Conc W F M H → Rp W F x d → Rp W F y e → w d e M Φ →
  (∀ v z F' M' H', Conc W F' M' H' → Stp F M H F' M' H' → Rp W F' v z → Φ z M' → Q v H') → r x y H Q) : SimR W J r w := fun {F M H x y d e Φ Q} _ c => h c
def rAddStr : R2 := fun x y H Q => ∃ i j, x = .str i ∧ y = .str j ∧ i.length + j.length ≤ sizeLine ∧ Q (.str (i ++ j)) H
def rAddA (K : PySem.W.Frag) : R2 := rOr (rI0 fun i j => .int (i + j)) (rOr rAddStr (rOr (rCatA K) rCat))
theorem op_addA {X : Cx} : OpR X (binaryOp .Add) (rAddA X.K) := op_add.or (op_add_str.or (op_catA.or op_cat))
theorem Rps.nil_iff {F : Hp} {vs : List V} {ds : List D} (h : Rps W F vs ds) : vs = [] ↔ ds = [] := by
  have := h.length
  constructor
  · intro e; subst e; exact List.length_eq_zero_iff.mp this.symm
  · intro e; subst e; exact List.length_eq_zero_iff.mp this
theorem sim_addA {own : Bool} : SimR W J (rAddA W.K) (wBin own .Add) := simR_imp fun {F M H x y d e Φ Q} c rx ry w k => by
  have cat : ∀ xs ys, lstOf M d = some xs → lstOf M e = some ys → xs.length + ys.length ≤ sizeLine ∧ newL own (xs ++ ys) M Φ → rAddA W.K x y H Q := fun xs ys e1 e2 w => by
    obtain ⟨a, vs, rfl, q1, h1⟩ := lst_ok c rx e1
    obtain ⟨b, us, rfl, q2, h2⟩ := lst_ok c ry e2
    exact .inr (.inr (.inr ⟨a, b, vs, us, rfl, rfl, h1, h2, by rw [q1.length, q2.length]; exact w.1, newL_ok c (q1.append q2) w.2 k⟩))
  unfold wBin at w
  simp only at w
  split at w
  · cases rx; cases ry
    exact .inl ⟨_, _, rfl, rfl, k _ _ _ _ _ c Stp.refl (.int _) w⟩
  · cases rx; cases ry
    exact .inr (.inl ⟨_, _, rfl, rfl, w.1, k _ _ _ _ _ c Stp.refl (.str _) w.2⟩)
  · rename_i xs ys
    cases rx with
    | tup h1 q1 =>
    cases ry with
    | tup h2 q2 =>
    refine .inr (.inr (.inl ⟨_, _, _, _, rfl, rfl, c.ex.t h1, c.ex.t h2, by rw [q1.length, q2.length]; exact w.1, fun z => ?_, fun z1 z2 => ?_, fun z1 z2 => ?_⟩))
    · have := q1.nil_iff.mp z
      subst this
      exact k _ _ _ _ _ c Stp.refl (.tup h2 q2) w.2
    · have := q2.nil_iff.mp z2
      subst this
      rw [List.append_nil] at w
      exact k _ _ _ _ _ c Stp.refl (.tup h1 q1) w.2
    · exact newT_ok c (q1.append q2) w.2 k
  · split at w
    · rename_i xs ys e1 e2
      exact cat _ _ e1 e2 w
    · exact w.elim
theorem sim_subA {own : Bool} : SimR W J (rI0 fun i j => .int (i - j)) (wBin own .Sub) := simR_imp fun {F M H x y d e Φ Q} c rx ry w k => by
  unfold wBin at w
  simp only at w
  split at w
  · cases rx; cases ry
    exact ⟨_, _, rfl, rfl, k _ _ _ _ _ c Stp.refl (.int _) w⟩
  · exact w.elim
def rMulA : R2 := rOr (rI CMul fun i j => .int (i * j)) (rOr (rI CMulW fun i j => .int (i * j)) rRep)
theorem op_mulA {X : Cx} : OpR X (binaryOp .Mult) rMulA := op_mul.or (op_mulW.or op_rep)
theorem sim_mulA {own : Bool} : SimR W J rMulA (wBin own .Mult) := simR_imp fun {F M H x y d e Φ Q} c rx ry w k => by
  unfold wBin at w
  simp only at w
  split at w
  · cases rx; cases ry
    rcases w.1 with h | h
    · exact .inl ⟨_, _, rfl, rfl, h, k _ _ _ _ _ c Stp.refl (.int _) w.2⟩
    · exact .inr (.inl ⟨_, _, rfl, rfl, h, k _ _ _ _ _ c Stp.refl (.int _) w.2⟩)
  · rename_i xs n
    cases rx with
    | lst h1 q1 =>
    cases ry
    obtain ⟨w1, w2, w3, w4⟩ := w
    exact .inr (.inr ⟨_, _, _, rfl, rfl, c.ex _ _ h1, w1, w2, by rw [q1.length]; exact w3,
      newL_ok c (Rps.flat (by simp) fun i vs ds h1 h2 => by
        rw [List.getElem?_replicate] at h1 h2
        split at h1
        · rename_i hi
          rw [if_pos hi] at h2
          cases h1; cases h2; exact q1
        · cases h1) w4 k⟩)
  · exact w.elim
theorem sim_fdivA {own : Bool} : SimR W J (rI CDivW fun i j => .int (i / j)) (wBin own .FloorDiv) := simR_imp fun {F M H x y d e Φ Q} c rx ry w k => by
  unfold wBin at w
  simp only at w
  split at w
  · cases rx; cases ry
    exact ⟨_, _, rfl, rfl, w.1, k _ _ _ _ _ c Stp.refl (.int _) w.2⟩
  · exact w.elim
theorem sim_modA {own : Bool} : SimR W J (rI (fun _ j => 0 < j) fun i j => .int (i % j)) (wBin own .Mod) := simR_imp fun {F M H x y d e Φ Q} c rx ry w k => by
  unfold wBin at w
  simp only at w
  split at w
  · cases rx; cases ry
    exact ⟨_, _, rfl, rfl, w.1, k _ _ _ _ _ c Stp.refl (.int _) w.2⟩
  · exact w.elim
theorem sim_powA {own : Bool} : SimR W J (rI CPow fun i j => .int (i ^ j.toNat)) (wBin own .Pow) := simR_imp fun {F M H x y d e Φ Q} c rx ry w k => by
  unfold wBin at w
  simp only at w
  split at w
  · cases rx; cases ry
    exact ⟨_, _, rfl, rfl, w.1, k _ _ _ _ _ c Stp.refl (.int _) w.2⟩
  · exact w.elim
/-! ### comparisons -/
theorem sim_lt : SimR W J (rI0 fun i j => .bl (decide (i < j))) (wCmp .Lt) := simR_imp fun {F M H x y d e Φ Q} c rx ry w k => by
  unfold wCmp at w
  simp only at w
  split at w
  · cases rx; cases ry
    exact ⟨_, _, rfl, rfl, k _ _ _ _ _ c Stp.refl (.bl _) w⟩
  · exact w.elim
theorem sim_le : SimR W J (rI0 fun i j => .bl (decide (i ≤ j))) (wCmp .LtE) := simR_imp fun {F M H x y d e Φ Q} c rx ry w k => by
  unfold wCmp at w
  simp only at w
  split at w
  · cases rx; cases ry
    exact ⟨_, _, rfl, rfl, k _ _ _ _ _ c Stp.refl (.bl _) w⟩
  · exact w.elim
theorem sim_gt : SimR W J (rI0 fun i j => .bl (decide (j < i))) (wCmp .Gt) := simR_imp fun {F M H x y d e Φ Q} c rx ry w k => by
  unfold wCmp at w
  simp only at w
  split at w
  · cases rx; cases ry
    exact ⟨_, _, rfl, rfl, k _ _ _ _ _ c Stp.refl (.bl _) w⟩
  · exact w.elim
theorem sim_ge : SimR W J (rI0 fun i j => .bl (decide (j ≤ i))) (wCmp .GtE) := simR_imp fun {F M H x y d e Φ Q} c rx ry w k => by
  unfold wCmp at w
  simp only at w
  split at w
  · cases rx; cases ry
    exact ⟨_, _, rfl, rfl, k _ _ _ _ _ c Stp.refl (.bl _) w⟩
  · exact w.elim
def rEqA (K : PySem.W.Frag) : R2 := rOr rEq (rEqD K)
def rNeA (K : PySem.W.Frag) : R2 := rOr rNe (rNeD K)
theorem op_eqA {X : Cx} (hu : X.A.units + 64 < cLine) : OpR X (compareOp .Eq) (rEqA X.K) := op_eq.or (op_eqD hu)
theorem op_neA {X : Cx} (hu : X.A.units + 64 < cLine) : OpR X (compareOp .NotEq) (rNeA X.K) := op_ne.or (op_neD hu)
theorem sim_eqA : SimR W J (rEqA W.K) (wCmp .Eq) := simR_imp fun {F M H x y d e Φ Q} c rx ry w k => by
  unfold wCmp at w
  simp only at w
  split at w
  · cases rx; cases ry
    exact .inl ⟨rfl, k _ _ _ _ _ c Stp.refl (by simp only [V.int.injEq]; exact .bl _) w⟩
  · cases rx; cases ry
    exact .inl ⟨rfl, k _ _ _ _ _ c Stp.refl (by simp only [V.bl.injEq]; exact .bl _) w⟩
  · cases rx; cases ry
    exact .inl ⟨rfl, k _ _ _ _ _ c Stp.refl (by simp only [V.str.injEq]; exact .bl _) w⟩
  · unfold pEq at w
    split at w
    · rename_i a b e1 e2
      exact .inr ⟨a, b, dp_res c rx e1, dp_res c ry e2, w.1, w.2.1, k _ _ _ _ _ c Stp.refl (.bl _) w.2.2⟩
    · exact w.elim
theorem sim_neA : SimR W J (rNeA W.K) (wCmp .NotEq) := simR_imp fun {F M H x y d e Φ Q} c rx ry w k => by
  unfold wCmp at w
  simp only at w
  split at w
  · cases rx; cases ry
    exact .inl ⟨rfl, k _ _ _ _ _ c Stp.refl (by simp only [V.int.injEq]; exact .bl _) w⟩
  · cases rx; cases ry
    exact .inl ⟨rfl, k _ _ _ _ _ c Stp.refl (by simp only [V.bl.injEq]; exact .bl _) w⟩
  · cases rx; cases ry
    exact .inl ⟨rfl, k _ _ _ _ _ c Stp.refl (by simp only [V.str.injEq]; exact .bl _) w⟩
  · unfold pEq at w
    split at w
    · rename_i a b e1 e2
      exact .inr ⟨a, b, dp_res c rx e1, dp_res c ry e2, w.1, w.2.1, k _ _ _ _ _ c Stp.refl (.bl _) w.2.2⟩
    · exact w.elim
def rIsN : R2 := fun x y H Q => y = .non ∧ Q (.bl (decide (x = .non))) H
def rNotN : R2 := fun x y H Q => y = .non ∧ Q (.bl (!decide (x = .non))) H
theorem sim_is : SimR W J rIsN (wCmp .Is) := simR_imp fun {F M H x y d e Φ Q} c rx ry w k => by
  unfold wCmp at w
  simp only at w
  split at w
  · cases ry
    exact ⟨rfl, k _ _ _ _ _ c Stp.refl (by rw [rx.isN]; exact .bl _) w⟩
  · exact w.elim
theorem sim_isnot : SimR W J rNotN (wCmp .IsNot) := simR_imp fun {F M H x y d e Φ Q} c rx ry w k => by
  unfold wCmp at w
  simp only at w
  split at w
  · cases ry
    exact ⟨rfl, k _ _ _ _ _ c Stp.refl (by rw [rx.isN]; exact .bl _) w⟩
  · exact w.elim
/-! ### places, slices -/
theorem atI_rel {F : Hp} {vs : List V} {ds : List D} {i : Int} {d : D} (r : Rps W F vs ds) (e : atI ds i = some d) : ∃ v, atI vs i = some v ∧ Rp W F v d := by
  unfold atI at e ⊢
  rw [r.length]
  cases q : ixN ds.length i with
  | none => rw [q] at e; cases e
  | some j =>
    rw [q] at e
    exact r.get (show ds[j]? = some d from e)
theorem sim_ixA : SimR W J (rIx W.K) wIx := simR_imp fun {F M H x y d e Φ Q} c rx ry w k => by
  unfold wIx at w
  split at w
  · cases ry
    split at w
    · rename_i xs e1
      unfold atD at w
      split at w
      · rename_i z e2
        obtain ⟨a, vs, rfl, q, h⟩ := seq_ok' c rx e1
        obtain ⟨v, e3, rv⟩ := atI_rel q e2
        have kk := k _ _ _ _ _ c Stp.refl rv w
        rcases h with h | h
        · exact .inl ⟨a, vs, _, v, rfl, rfl, h, e3, kk⟩
        · exact .inr (.inl ⟨a, vs, _, v, rfl, rfl, h, e3, kk⟩)
      · exact w.elim
    · exact w.elim
  · exact w.elim
theorem cut_rel {F : Hp} {vs : List V} {ds : List D} (r : Rps W F vs ds) (lo hi : Option Int) : Rps W F (cutV vs lo hi) (cutD ds lo hi) := by
  unfold cutV cutD
  rw [r.length]
  exact (r.drop _).take _
def rSlAll (K : PySem.W.Frag) : V → Option Int → Option Int → Hp → VK → Prop := fun x lo hi H Q => rSlL K x lo hi H Q ∨ rSlA K x lo hi H Q
theorem sl_all {X : Cx} : SlR X (rSlAll X.K) := sl_list.or sl_tupA
theorem cut_whole {n : Nat} {lo hi : Option Int} {α : Type} (xs : List α) (h : HT.sIx xs.length 0 lo = 0 ∧ HT.sIx xs.length xs.length hi = xs.length) :
    (xs.drop (HT.sIx xs.length 0 lo)).take (HT.sIx xs.length xs.length hi - HT.sIx xs.length 0 lo) = xs := by
  rw [h.1, h.2]
  simp
theorem sim_sl {own : Bool} {F : Hp} {M : MM} {H : Hp} {x : V} {d : D} {lo hi : Option Int} {Φ : D → MM → Prop} {Q : VK} (c : Conc W F M H) (rx : Rp W F x d) (w : wSl own d lo hi M Φ)
    (k : ∀ v e F' M' H', Conc W F' M' H' → Stp F M H F' M' H' → Rp W F' v e → Φ e M' → Q v H') : rSlAll W.K x lo hi H Q := by
  unfold wSl at w
  split at w
  · rename_i xs
    cases rx with
    | tup h q =>
    refine .inr ⟨_, _, rfl, c.ex.t h, fun z => ?_, fun z => newT_ok c (cut_rel q lo hi) w k⟩
    have e : cutD xs lo hi = xs := cut_whole (n := 0) xs (by rw [← q.length]; exact z)
    rw [e] at w
    exact k _ _ _ _ _ c Stp.refl (.tup h q) w
  · rename_i hne
    split at w
    · rename_i xs e1
      obtain ⟨a, vs, rfl, q, h⟩ := seq_ok c rx e1
      rcases h with h | ⟨_, h⟩
      · exact .inl ⟨a, vs, rfl, h, newL_ok c (cut_rel q lo hi) w k⟩
      · exact absurd h (hne _)
    · exact w.elim
/-- a slice's part: within the machine's small ints or so -/
theorem simO_no {s : Sm} : ∀ {F M H σ Γ Φ} {Q : Option Int → Hp → Prop}, J.J F M H → Conc W F M H → EnvOk W F σ Γ → wO s .no Γ M Φ →
  (∀ b F' M' H', Conc W F' M' H' → Stp F M H F' M' H' → Φ b M' → Q b H') → tNoPart σ H Q := fun {F M H σ Γ Φ Q} j c e w k => by
  simp only [wO] at w
  exact k _ F M H c Stp.refl w
theorem simO_so {s : Sm} {ta : TE} {a : C} (ha : SimE W J ta (wE s a)) : ∀ {F M H σ Γ Φ} {Q : Option Int → Hp → Prop}, J.J F M H → Conc W F M H → EnvOk W F σ Γ → wO s (.so a) Γ M Φ →
  (∀ b F' M' H', Conc W F' M' H' → Stp F M H F' M' H' → Φ b M' → Q b H') → tPart ta σ H Q := fun {F M H σ Γ Φ Q} j c e w k => by
  simp only [wO] at w
  refine ha j c e w fun x d F1 M1 H1 c1 s1 r1 w1 => ?_
  cases r1 with
  | int i => exact ⟨i, rfl, k _ F1 M1 H1 c1 s1 w1.2.2⟩
  | _ => exact w1.elim
theorem sim_slc {s : Sm} {own : Bool} {ta : TE} {tl th : TO} {a : C} {lo hi : Co} (ha : SimE W J ta (wE s a))
    (hl : ∀ {F M H σ Γ Φ} {Q : Option Int → Hp → Prop}, J.J F M H → Conc W F M H → EnvOk W F σ Γ → wO s lo Γ M Φ → (∀ b F' M' H', Conc W F' M' H' → Stp F M H F' M' H' → Φ b M' → Q b H') → tl σ H Q)
    (hh : ∀ {F M H σ Γ Φ} {Q : Option Int → Hp → Prop}, J.J F M H → Conc W F M H → EnvOk W F σ Γ → wO s hi Γ M Φ → (∀ b F' M' H', Conc W F' M' H' → Stp F M H F' M' H' → Φ b M' → Q b H') → th σ H Q) :
    SimE W J (tSl (rSlAll W.K) ta tl th) (wE s (.slc own a lo hi)) := fun {F M H σ Γ Φ Q} j c e w k => by
  simp only [wE] at w
  refine ha j c e w fun x d F1 M1 H1 c1 s1 r1 w1 => ?_
  refine hl (J.step j s1) c1 (e.up s1.f) w1 fun l F2 M2 H2 c2 s2 w2 => ?_
  have s12 := s1.trans s2
  refine hh (J.step j s12) c2 (e.up s12.f) w2 fun h F3 M3 H3 c3 s3 w3 => ?_
  exact sim_sl c3 ((r1.up s2.f).up s3.f) w3 fun v z F4 M4 H4 c4 s4 => k v z F4 M4 H4 c4 ((s12.trans s3).trans s4)
end Sw
set_option maxRecDepth 100000
set_option maxHeartbeats 4000000
/-! Sw: sum of a list or a tuple of ints. -/
namespace Sw
open PySem PySem.Spec PyProof.Rows L2
theorem sum_tup {prog : Program} {w : World} {A : Around} {E : Value → Shared → Prop} {s : Shared} {l : Addr} {its : List Value} {ns : List Int} {Q : Value → Shared → Prop} (hh : A.handled = none) (hl : s.heap.IsTuple l its.toArray) (hi : IntsAre its ns)
    (h : ∀ h' tk t', (∀ b o, s.heap.get? b = some o → h'.get? b = some o) → Q (.int ns.sum t') { s with heap := h', toks := tk }) : wpAny (model prog w) A (call (.builtin "sum") [.ref l]) Q E s := by
  obtain ⟨xs, e⟩ := hi.allInts.items
  have hn : numsOf (intItems xs).toList = ns := by rw [← e]; exact hi.numsOf
  rw [nums_intItems] at hn
  rw [e] at hl
  have hll : l < s.heap.objs.size := by
    obtain ⟨o, ho, _⟩ := id hl
    exact Heap.lt_size ho
  refine call_sum_walkG (wpAny_pyIter_tuple hl ?_)
  refine ⟨_, _, _, _, _, _, numAt xs, rfl, Walks.tuple (A := A.in1) hh s.heap.objs.size l (Nat.ne_of_lt hll) (intItems xs), ⟨?_, ?_⟩, fun b hb => ?_, (fun _ _ => intItems_at), fun h' tk t' hk => ?_⟩
  · exact ⟨_, Heap.get?_push_size _ rfl, rfl, rfl⟩
  · obtain ⟨o, ho, r⟩ := hl
    exact ⟨o, Heap.get?_push_of_some _ ho, r⟩
  · show b < (s.heap.push _).objs.size
    rw [Heap.size_push]
    simp only [List.mem_cons, List.not_mem_nil, or_false] at hb
    rcases hb with rfl | rfl
    · exact Nat.lt_succ_self _
    · exact Nat.lt_succ_of_lt hll
  · have := h h' tk t' fun b o e => hk b o (fun m => by
      have := Heap.lt_size e
      have hb : b = s.heap.objs.size := by simpa using m
      exact absurd this (by rw [hb]; exact Nat.lt_irrefl _)) (Heap.get?_push_of_some _ e)
    have e3 : preSum (numAt xs) (intItems xs).size = ns.sum := by
      rw [preSum_eq, List.take_of_length_le (by simp [intItems]), hn]
    rw [e3]
    exact this
def rSumA (K : PySem.W.Frag) : List V → Hp → VK → Prop := fun vs H Q => ∃ (a : Addr) (ns : List Int), vs = [V.ref a] ∧ (SqL K H a (ns.map V.int) ∨ SqT K H a (ns.map V.int)) ∧ Q (.int ns.sum) H
theorem cr_sumA {X : Cx} (hc : X.calm = true) : CallR X (.builtin "sum") (rSumA X.K) := by
  intro pins s σ H vs us Q I r h
  obtain ⟨a, ns, rfl, hs, q⟩ := h
  rw [Vals.ref1 r]
  rcases hs with hs | hs
  · exact cr_sum hc pins s σ H _ _ Q I (by first | exact (Vals.ref1 r ▸ r) | exact .cons rfl .nil) ⟨a, ns, rfl, hs, q⟩
  · obtain ⟨its, rv, hl, _⟩ := I.tuple hs
    exact sum_tup (I.ok.hd hc) hl rv.ints fun h' tk t' hk => ⟨.int _, H, I.kept hk, ⟨_, rfl⟩, q⟩
end Sw
set_option maxRecDepth 100000
set_option maxHeartbeats 4000000
/-! Sw: calls of built-ins, isinstance, fields, stores. -/
namespace Sw
open PySem L2
variable {W : Ab} {J : JW}
theorem simL_imp {r : List V → Hp → VK → Prop} {w : List D → MM → (D → MM → Prop) → Prop} (h : ∀ {F M H vs ds Φ} {Q : VK}, Conc W F M H → Rps W F vs ds → w ds M Φ →
  (∀ v e F' M' H', Conc W F' M' H' → Stp F M H F' M' H' → Rp W F' v e → Φ e M' → Q v H') → r vs H Q) : SimL W J r w := fun {F M H vs ds Φ Q} _ c => h c
theorem Rps.one {F : Hp} {vs : List V} {d : D} (r : Rps W F vs [d]) : ∃ v, vs = [v] ∧ Rp W F v d := by
  cases r with
  | cons a q => cases q; exact ⟨_, rfl, a⟩
theorem Rps.two {F : Hp} {vs : List V} {d e : D} (r : Rps W F vs [d, e]) : ∃ v u, vs = [v, u] ∧ Rp W F v d ∧ Rp W F u e := by
  cases r with
  | cons a q => obtain ⟨u, rfl, b⟩ := q.one; exact ⟨_, _, rfl, a, b⟩
theorem intsOf_eq : ∀ {ds : List D} {is : List Int}, intsOf ds = some is → ds = is.map D.int
  | [], is, e => by cases e; rfl
  | d :: ds, is, e => by
    cases d <;> simp only [intsOf] at e
    all_goals first | (cases e; done) | skip
    split at e
    · rename_i js h
      cases e
      rw [intsOf_eq h]; rfl
    · cases e
theorem blsOf_eq : ∀ {ds : List D} {is : List Bool}, blsOf ds = some is → ds = is.map D.bl
  | [], is, e => by cases e; rfl
  | d :: ds, is, e => by
    cases d <;> simp only [blsOf] at e
    all_goals first | (cases e; done) | skip
    split at e
    · rename_i js h
      cases e
      rw [blsOf_eq h]; rfl
    · cases e
theorem intsOf_map (is : List Int) : intsOf (is.map D.int) = some is := by
  induction is with
  | nil => rfl
  | cons i r ih => simp [intsOf, ih]
theorem blsOf_map (is : List Bool) : blsOf (is.map D.bl) = some is := by
  induction is with
  | nil => rfl
  | cons i r ih => simp [blsOf, ih]
/-- what a built-in call asks of the values -/
def rBi (K : PySem.W.Frag) : Bi → List V → Hp → VK → Prop
  | .len => fun xs H Q => ∃ p ys, xs = [.ref p] ∧ (SqL K H p ys ∨ SqT K H p ys) ∧ Q (.int ys.length) H
  | .abs_ => fun xs H Q => ∃ i, xs = [.int i] ∧ Q (.int (if i < 0 then -i else i)) H
  | .int_ => fun xs H Q => (∃ i, xs = [.int i] ∧ Q (.int i) H) ∨ ∃ k, xs = [.bl k] ∧ Q (.int (if k then 1 else 0)) H
  | .min2 => fun xs H Q => ∃ i j, xs = [.int i, .int j] ∧ Q (.int (if j < i then j else i)) H
  | .max2 => fun xs H Q => ∃ i j, xs = [.int i, .int j] ∧ Q (.int (if j > i then j else i)) H
  | .sum => rSumA K
  | .maxL => rMax K
  | .minL => rMin K
  | .all => rAll K
  | .any => rAny K
  | .tuple => fun xs H Q => ∃ p ys, xs = [.ref p] ∧ ((SqL K H p ys ∧ ∀ l, H l = none → Q (.ref l) (upd H l (.tup ys))) ∨ (SqT K H p ys ∧ Q (.ref p) H))
  | .list => fun xs H Q => ∃ p ys, xs = [.ref p] ∧ (SqL K H p ys ∨ SqT K H p ys) ∧ ∀ l, H l = none → Q (.ref l) (upd H l (.lst ys))
  | .sorted => rSortedI K
  | _ => fun _ _ _ => False
def biName : Bi → Str
  | .len => "len" | .abs_ => "abs" | .int_ => "int" | .min2 => "min" | .max2 => "max" | .sum => "sum" | .all => "all" | .any => "any" | .tuple => "tuple" | .list => "list"
  | .sorted => "sorted" | .range2 => "range" | .range1 => "range" | .maxL => "max" | .minL => "min"
/-- a type that is called, or a function -/
def biTy : Bi → Option String
  | .int_ => some "int" | .tuple => some "tuple" | .list => some "list"
  | _ => none
def biId : Bi → String
  | .len => "len" | .abs_ => "abs" | .min2 => "min" | .max2 => "max" | .sum => "sum" | .all => "all" | .any => "any" | .sorted => "sorted" | .maxL => "max" | .minL => "min"
  | _ => ""
def biVal (b : Bi) : Value := match biTy b with
  | some t => .type t
  | none => .builtin (biId b)
theorem callR_false {X : Cx} {f : Value} : CallR X f (fun _ _ _ => False) := fun _ _ _ _ _ _ _ _ _ h => h.elim
theorem bi_call {X : Cx} (hc : X.calm = true) : ∀ b : Bi, CallR X (biVal b) (rBi X.K b)
  | .len => call_len_seq
  | .abs_ => call_abs
  | .int_ => call_int1
  | .min2 => call_min2 hc
  | .max2 => call_max2 hc
  | .sum => cr_sumA hc
  | .all => cr_all hc
  | .any => cr_any hc
  | .tuple => call_tuple_of
  | .list => call_list_of
  | .sorted => cr_sortedI
  | .range2 => callR_false
  | .range1 => callR_false
  | .maxL => cr_max hc
  | .minL => cr_min hc
theorem bi_boot : ∀ b : Bi, (b = .range1 ∨ b = .range2) ∨ bootBuiltins (biName b) = some (biVal b)
  | .len => .inr boot_len
  | .abs_ => .inr (by decide +kernel)
  | .int_ => .inr (by decide +kernel)
  | .min2 => .inr (by decide +kernel)
  | .max2 => .inr (by decide +kernel)
  | .sum => .inr (by decide +kernel)
  | .all => .inr (by decide +kernel)
  | .any => .inr (by decide +kernel)
  | .tuple => .inr (by decide +kernel)
  | .list => .inr (by decide +kernel)
  | .sorted => .inr (by decide +kernel)
  | .range2 => .inl (.inr rfl)
  | .range1 => .inl (.inl rfl)
  | .maxL => .inr (by decide +kernel)
  | .minL => .inr (by decide +kernel)
theorem sim_biA {own : Bool} : ∀ b : Bi, SimL W J (rBi W.K b) (wBi own b) := fun b => simL_imp fun {F M H vs ds Φ Q} c r w k => by
  unfold wBi at w
  split at w
  · split at w
    · rename_i xs e1
      obtain ⟨v, rfl, r1⟩ := r.one
      obtain ⟨a, us, rfl, q, h⟩ := seq_ok' c r1 e1
      exact ⟨a, us, rfl, h, by rw [q.length]; exact k _ _ _ _ _ c Stp.refl (.int _) w⟩
    · exact w.elim
  · obtain ⟨v, rfl, r1⟩ := r.one
    cases r1
    exact ⟨_, rfl, k _ _ _ _ _ c Stp.refl (.int _) w⟩
  · obtain ⟨v, rfl, r1⟩ := r.one
    cases r1
    exact .inl ⟨_, rfl, k _ _ _ _ _ c Stp.refl (.int _) w⟩
  · obtain ⟨v, rfl, r1⟩ := r.one
    cases r1
    exact .inr ⟨_, rfl, k _ _ _ _ _ c Stp.refl (.int _) w⟩
  · obtain ⟨v, u, rfl, r1, r2⟩ := r.two
    cases r1; cases r2
    exact ⟨_, _, rfl, k _ _ _ _ _ c Stp.refl (.int _) w⟩
  · obtain ⟨v, u, rfl, r1, r2⟩ := r.two
    cases r1; cases r2
    exact ⟨_, _, rfl, k _ _ _ _ _ c Stp.refl (.int _) w⟩
  · split at w
    · rename_i xs e1
      split at w
      · rename_i is e2
        obtain ⟨v, rfl, r1⟩ := r.one
        obtain ⟨a, us, rfl, q, h⟩ := seq_ok' c r1 e1
        have := intsOf_eq e2
        subst this
        have := q.of_ints
        subst this
        exact ⟨_, _, rfl, h, k _ _ _ _ _ c Stp.refl (.int _) w⟩
      · exact w.elim
    · exact w.elim
  · split at w
    · rename_i is e1
      obtain ⟨v, rfl, r1⟩ := r.one
      cases r1 with
      | lst h q =>
      have := blsOf_eq e1
      subst this
      have := q.of_bls
      subst this
      exact ⟨_, _, rfl, .inl (.inl (c.ex _ _ h)), k _ _ _ _ _ c Stp.refl (.bl _) w⟩
    · exact w.elim
  · split at w
    · rename_i is e1
      obtain ⟨v, rfl, r1⟩ := r.one
      cases r1 with
      | lst h q =>
      have := blsOf_eq e1
      subst this
      have := q.of_bls
      subst this
      exact ⟨_, _, rfl, .inl (.inl (c.ex _ _ h)), k _ _ _ _ _ c Stp.refl (.bl _) w⟩
    · exact w.elim
  · split at w
    · rename_i xs e1
      obtain ⟨v, rfl, r1⟩ := r.one
      obtain ⟨a, us, rfl, q, h⟩ := seq_ok c r1 e1
      rcases h with h | ⟨h, z⟩
      · exact ⟨a, us, rfl, .inl ⟨h, newT_ok c q w k⟩⟩
      · subst z
        exact ⟨a, us, rfl, .inr ⟨h, k _ _ _ _ _ c Stp.refl r1 w⟩⟩
    · exact w.elim
  · split at w
    · rename_i xs e1
      obtain ⟨v, rfl, r1⟩ := r.one
      obtain ⟨a, us, rfl, q, h⟩ := seq_ok' c r1 e1
      exact ⟨a, us, rfl, h, newL_ok c q w k⟩
    · exact w.elim
  · split at w
    · exact w.elim
    · rename_i hnt
      unfold wInts at w
      split at w
      · rename_i xs e1
        split at w
        · rename_i is e2
          obtain ⟨v, rfl, r1⟩ := r.one
          obtain ⟨a, us, rfl, q, h⟩ := seq_ok c r1 e1
          have := intsOf_eq e2
          subst this
          have := q.of_ints
          subst this
          rcases h with h | ⟨_, h⟩
          · exact ⟨a, is, rfl, h, fun ns' p hp hs hn => newL_ok c (Rps.ints ns') (w ns' hp hs) k p hn⟩
          · exact absurd h (hnt _)
        · exact w.elim
      · exact w.elim
  · split at w
    · exact w.elim
    · rename_i hnt
      unfold wInts at w
      split at w
      · rename_i xs e1
        split at w
        · rename_i is e2
          obtain ⟨v, rfl, r1⟩ := r.one
          obtain ⟨a, us, rfl, q, h⟩ := seq_ok c r1 e1
          have := intsOf_eq e2
          subst this
          have := q.of_ints
          subst this
          rcases h with h | ⟨_, h⟩
          · exact ⟨a, is, rfl, h, w.1, fun m hm hy => k _ _ _ _ _ c Stp.refl (.int _) (w.2 m hm hy)⟩
          · exact absurd h (hnt _)
        · exact w.elim
      · exact w.elim
  · split at w
    · exact w.elim
    · rename_i hnt
      unfold wInts at w
      split at w
      · rename_i xs e1
        split at w
        · rename_i is e2
          obtain ⟨v, rfl, r1⟩ := r.one
          obtain ⟨a, us, rfl, q, h⟩ := seq_ok c r1 e1
          have := intsOf_eq e2
          subst this
          have := q.of_ints
          subst this
          rcases h with h | ⟨_, h⟩
          · exact ⟨a, is, rfl, h, w.1, fun m hm hy => k _ _ _ _ _ c Stp.refl (.int _) (w.2 m hm hy)⟩
          · exact absurd h (hnt _)
        · exact w.elim
      · exact w.elim
  · exact w.elim
/-! ### isinstance, built-in types -/
theorem tyM_ok {F : Hp} {M : MM} {H : Hp} {v : V} {d : D} {t : String} (c : Conc W F M H) (r : Rp W F v d) (e : tyM M d = some t) : TyX W.K H v (.type t) := by
  have lst : ∀ {a : Addr} {vs : List V}, H a = some (.lst vs) → TyX W.K H (.ref a) (.type "list") := fun h => .base (.lst h)
  cases r with
  | non => cases e; exact .base .non
  | bl b => cases e; exact .base (.bl b)
  | int i => cases e; exact .base (.int i)
  | str x => cases e; exact .base (.str x)
  | ty n => cases e
  | lst h q => cases e; exact lst (c.ex _ _ h)
  | frl h q =>
    cases e
    rcases c.ex.l h with (h | ⟨o, h⟩) | ⟨o, its, n, h1, h2, _⟩
    · exact lst h
    · exact .base (.frz h)
    · exact .kList h1 h2
  | tup h q =>
    cases e
    rcases c.ex.t h with (h | ⟨o, h⟩) | ⟨o, its, n, h1, h2, _⟩
    · exact .base (.tup h)
    · exact .fTuple h
    · exact .kTuple h1 h2
  | dct h q z => cases e; exact .base (.dK (c.ex _ _ h))
  | obj h q z y => cases e
  | loc a =>
    simp only [tyM] at e
    split at e
    · rename_i xs hm
      cases e
      obtain ⟨_, vs, h1, _⟩ := c.cell a _ hm
      exact lst h1
    · rename_i xs hm
      cases e
      obtain ⟨_, vs, h1, _⟩ := c.cell a _ hm
      exact .base (.dK h1)
    · cases e
/-- the tuple of the types is laid by the call, or one type -/
def rIsA (K : PySem.W.Frag) : List V → Hp → VK → Prop := fun xs H Q => rIsi K xs H Q ∨ rIsiT K xs H Q
theorem call_isA {X : Cx} : CallR X (.builtin "isinstance") (rIsA X.K) := by
  intro pins s σ H xs us Q I r h
  rcases h with h | h
  · exact call_isi pins s σ H xs us Q I r h
  · exact call_isiT pins s σ H xs us Q I r h
def knownTy : List String := ["NoneType", "bool", "int", "str", "list", "tuple", "dict"]
theorem kit_known : (knownTy.all fun a => knownTy.all fun b => kitB a b == some (isTy a b)) = true := by decide +kernel
theorem kit_at {K : PySem.W.Frag} {a b : String} (ha : a ∈ knownTy) (hb : b ∈ knownTy) : PySem.W.kitOne K (.type a) (.type b) = some (isTy a b) :=
  kit_ty (beq_iff_eq.mp (List.all_eq_true.mp (List.all_eq_true.mp kit_known a ha) b hb))
theorem tyM_known {M : MM} {d : D} {t : String} (e : tyM M d = some t) : t ∈ knownTy := by
  cases d <;> simp only [tyM, tyD] at e
  case loc a =>
    split at e
    · cases e; decide
    · cases e; decide
    · cases e
  all_goals first | (cases e; done) | (cases e; decide)
theorem kit_anyA {K : PySem.W.Frag} {a : String} (ha : a ∈ knownTy) : ∀ ts : List String, (∀ t ∈ ts, t ∈ knownTy) → PySem.W.kitAny K (.type a) (ts.map Value.type) = some (ts.any fun u => isTy a u)
  | [], _ => rfl
  | t :: ts, h => by
    have h1 := kit_at (K := K) ha (h t List.mem_cons_self)
    have h2 := kit_anyA (K := K) ha ts fun u hu => h u (List.mem_cons_of_mem _ hu)
    unfold PySem.W.kitAny
    rw [List.any_cons]
    cases e : isTy a t with
    | true => simp [h1, e]
    | false => simp [h1, e, h2]
end Sw
set_option maxRecDepth 100000
set_option maxHeartbeats 4000000
/-! Sw: isinstance, fields, walks, comprehensions. -/
namespace Sw
open PySem L2
variable {W : Ab} {J : JW}
theorem sim_isi1 {s : Sm} {ta : TE} {a : C} {t : String} (ha : SimE W J ta (wE s a)) (ht : t ∈ knownTy) : SimE W J (tCB (rIsA W.K) (tCons ta (tCons (tC (.ty t)) tNil))) (wE s (.isi a [t])) := fun {F M H σ Γ Φ Q} j c e w k => by
  simp only [wE] at w
  refine ha j c e w fun x d F1 M1 H1 c1 s1 r1 w1 => ?_
  unfold wIsi at w1
  split at w1
  · rename_i u e1
    exact .inl ⟨x, .ty t, .type u, .type t, _, rfl, .ty t, tyM_ok c1 r1 e1, kit_at (tyM_known e1) ht, k _ _ _ _ _ c1 s1 (.bl _) (by simpa using w1)⟩
  · exact w1.elim
def tTys : List String → TA
  | [] => tNil
  | t :: ts => tCons (tC (.ty t)) (tTys ts)
theorem tTys_ok {σ : St} {H : Hp} : ∀ {ts : List String} {Q : List V → Hp → Prop}, Q (ts.map V.ty) H → tTys ts σ H Q
  | [], _, h => h
  | t :: ts, Q, h => tTys_ok (ts := ts) (Q := fun xs H2 => Q (V.ty t :: xs) H2) h
theorem clsV_all : ∀ ts : List String, Paired ClsV (ts.map V.ty) (ts.map Value.type)
  | [] => .nil
  | t :: ts => .cons (.ty t) (clsV_all ts)
theorem sim_isiT {s : Sm} {ta : TE} {a : C} {ts : List String} (ha : SimE W J ta (wE s a)) (ht : ∀ t ∈ ts, t ∈ knownTy) (hl : ts.length ≤ 100) : SimE W J (tCB (rIsA W.K) (tCons ta (tCons (tTup (tTys ts)) tNil))) (wE s (.isi a ts)) := fun {F M H σ Γ Φ Q} j c e w k => by
  simp only [wE] at w
  refine ha j c e w fun x d F1 M1 H1 c1 s1 r1 w1 => ?_
  unfold wIsi at w1
  split at w1
  · rename_i u e1
    show tTys ts σ H1 fun xs H2 => xs.length ≤ sizeLine ∧ ∀ p, H2 p = none → _
    refine tTys_ok ⟨?_, fun p hp => ?_⟩
    · rw [List.length_map]; exact Nat.le_trans hl (by decide)
    · obtain ⟨c2, s2⟩ := c1.know hp (.tup (ts.map V.ty))
      exact .inr ⟨x, p, ts.map V.ty, .type u, ts.map Value.type, _, rfl, upd_same, clsV_all ts, tyM_ok c2 (r1.up s2.f) e1, kit_anyA (tyM_known e1) ts ht, k _ _ _ _ _ c2 (s1.trans s2) (.bl _) w1⟩
  · exact w1.elim
/-! ### fields -/
theorem look_rel {F : Hp} {f : Str} : ∀ {vfs : List (Str × V)} {fs : List (Str × D)} {d : D}, vfs.map (·.1) = fs.map (·.1) → Rps W F (vfs.map (·.2)) (fs.map (·.2)) → lookF f fs = some d → ∃ v, vfs.lookup f = some v ∧ Rp W F v d
  | [], [], _, _, _, e => by cases e
  | [], (_, _) :: _, _, h, _, _ => by cases h
  | (_, _) :: _, [], _, h, _, _ => by cases h
  | (g, x) :: vfs, (g', y) :: fs, d, h, r, e => by
    simp only [List.map_cons, List.cons.injEq] at h
    obtain ⟨rfl, h⟩ := h
    cases r with
    | cons a q =>
    simp only [lookF] at e
    by_cases hg : g = f
    · subst hg
      rw [if_pos rfl] at e
      cases e
      exact ⟨x, by simp [List.lookup], a⟩
    · rw [if_neg hg] at e
      obtain ⟨v, h1, h2⟩ := look_rel h q e
      refine ⟨v, ?_, h2⟩
      have : (f == g) = false := beq_eq_false_iff_ne.mpr (Ne.symm hg)
      simp only [List.lookup, this]
      exact h1
theorem look_none {f : Str} : ∀ {vfs : List (Str × V)} {fs : List (Str × D)}, vfs.map (·.1) = fs.map (·.1) → lookF f fs = none → vfs.lookup f = none
  | [], [], _, _ => rfl
  | [], (_, _) :: _, h, _ => by cases h
  | (_, _) :: _, [], h, _ => by cases h
  | (g, x) :: vfs, (g', y) :: fs, h, e => by
    simp only [List.map_cons, List.cons.injEq] at h
    obtain ⟨rfl, h⟩ := h
    simp only [lookF] at e
    by_cases hg : g = f
    · subst hg
      rw [if_pos rfl] at e
      cases e
    · rw [if_neg hg] at e
      have : (f == g) = false := beq_eq_false_iff_ne.mpr (Ne.symm hg)
      simp only [List.lookup, this]
      exact look_none h e
theorem sim_fld {s : Sm} {to : TE} {o : C} {f : Str} (ho : SimE W J to (wE s o)) (hf : f ∈ W.flds) : SimE W J (tFld W.K to f) (wE s (.fld o f)) := fun {F M H σ Γ Φ Q} j c e w k => by
  simp only [wE] at w
  refine ho j c e w fun x d F1 M1 H1 c1 s1 r1 w1 => ?_
  unfold wFld at w1
  split at w1
  · split at w1
    · rename_i fs z e1
      cases r1 with
      | @obj a C dx cn vfs fs hc h1 h2 h3 =>
      obtain ⟨v, h4, h5⟩ := look_rel h2 h3 e1
      exact ⟨a, C, dx, vfs, v, rfl, c1.ex _ _ h1, W.okC _ _ hc, W.noat _ _ _ hc hf, h4, k _ _ _ _ _ c1 s1 h5 w1⟩
    · exact w1.elim
  · rename_i a
    split at w1
    · rename_i cn fs hm
      split at w1
      · rename_i z e1
        cases r1
        obtain ⟨_, C, dx, vfs, hc, h1, h2, h3⟩ := c1.cell a _ hm
        obtain ⟨v, h4, h5⟩ := look_rel h2 h3 e1
        exact ⟨a, C, dx, vfs, v, rfl, h1, W.okC _ _ hc, W.noat _ _ _ hc hf, h4, k _ _ _ _ _ c1 s1 h5 w1⟩
      · exact w1.elim
    · exact w1.elim
  · exact w1.elim
theorem setF_keys {f : Str} {v : V} {d : D} : ∀ {vfs : List (Str × V)} {fs : List (Str × D)}, vfs.map (·.1) = fs.map (·.1) → (putF f v vfs).map (·.1) = (setF f d fs).map (·.1)
  | [], [], _ => rfl
  | [], (_, _) :: _, h => by cases h
  | (_, _) :: _, [], h => by cases h
  | (g, x) :: vfs, (g', y) :: fs, h => by
    simp only [List.map_cons, List.cons.injEq] at h
    obtain ⟨rfl, h⟩ := h
    by_cases hg : g = f
    · simp [putF, setF, hg, h]
    · simp [putF, setF, hg, setF_keys (f := f) (v := v) (d := d) h]
theorem setF_vals {F : Hp} {f : Str} {v : V} {d : D} (r : Rp W F v d) : ∀ {vfs : List (Str × V)} {fs : List (Str × D)}, vfs.map (·.1) = fs.map (·.1) → Rps W F (vfs.map (·.2)) (fs.map (·.2)) → Rps W F ((putF f v vfs).map (·.2)) ((setF f d fs).map (·.2))
  | [], [], _, _ => .cons r .nil
  | [], (_, _) :: _, h, _ => by cases h
  | (_, _) :: _, [], h, _ => by cases h
  | (g, x) :: vfs, (g', y) :: fs, h, q => by
    simp only [List.map_cons, List.cons.injEq] at h
    obtain ⟨rfl, h⟩ := h
    cases q with
    | cons a q =>
    by_cases hg : g = f
    · simp only [putF, setF, hg, if_pos, List.map_cons]; exact .cons r q
    · simp only [putF, setF, if_neg hg, List.map_cons]; exact .cons a (setF_vals r h q)
/-! ### stores to places -/
theorem ixN_len {α β : Type} {xs : List α} {ys : List β} (h : xs.length = ys.length) (i : Int) : ixN xs.length i = ixN ys.length i := by rw [h]
theorem setI_ok {F : Hp} {M : MM} {H : Hp} {o i v : V} {od id d : D} {Φ : MM → Prop} {Q : Hp → Prop} (c : Conc W F M H) (ro : Rp W F o od) (ri : Rp W F i id) (rv : Rp W F v d) (w : wSetI od id d M Φ)
    (k : ∀ F' M' H', Conc W F' M' H' → Stp F M H F' M' H' → Φ M' → Q H') : rSetL o i v H Q := by
  unfold wSetI at w
  split at w
  · rename_i a n
    split at w
    · rename_i xs hm
      split at w
      · rename_i jj e1
        cases ro; cases ri
        obtain ⟨_, vs, h1, h2⟩ := c.cell a _ hm
        obtain ⟨c', s'⟩ := c.put (x := .lst (xs.set jj d)) (o := .lst (vs.set jj v)) hm ⟨_, upd_same, h2.set rv jj⟩
        exact ⟨a, vs, n, jj, rfl, rfl, h1, by rw [h2.length]; exact e1, k _ _ _ c' s' w⟩
      · exact w.elim
    · exact w.elim
  · exact w.elim
/-! ### targets -/
theorem simG_name {s : Sm} {i : Nat} : SimG W J (gName i) (wG s (.name i)) := fun {F M H σ Γ v d Φ Q} j c e r w k => by
  simp only [wG] at w
  exact k _ _ F M H c Stp.refl (e.set r i) w
def SimGs (W : Ab) (J : JW) (t : TGs) (w : List D → Env → MM → (Env → MM → Prop) → Prop) : Prop := ∀ {F M H σ Γ vs ds Φ} {Q : St → Hp → Prop}, J.J F M H → Conc W F M H → EnvOk W F σ Γ → Rps W F vs ds → w ds Γ M Φ →
  (∀ σ' Γ' F' M' H', Conc W F' M' H' → Stp F M H F' M' H' → EnvOk W F' σ' Γ' → Φ Γ' M' → Q σ' H') → t vs σ H Q
theorem simGs_nil {s : Sm} : SimGs W J gNil (wGs s .nil) := fun {F M H σ Γ vs ds Φ Q} j c e r w k => by
  simp only [wGs] at w
  cases r with
  | nil => exact ⟨rfl, k _ _ F M H c Stp.refl e w⟩
  | cons _ _ => exact w.elim
theorem simGs_cons {s : Sm} {t : TG} {u : TGs} {g : G} {r : Gs} (h1 : SimG W J t (wG s g)) (h2 : SimGs W J u (wGs s r)) : SimGs W J (gCons t u) (wGs s (.cons g r)) := fun {F M H σ Γ vs ds Φ Q} j c e r w k => by
  simp only [wGs] at w
  cases r with
  | nil => exact w.elim
  | cons a q =>
    refine ⟨_, _, rfl, h1 j c e a w fun σ' Γ' F' M' H' c' s' e' w' => ?_⟩
    exact h2 (J.step j s') c' e' (q.up s'.f) w' fun σ2 Γ2 F2 M2 H2 c2 s2 => k σ2 Γ2 F2 M2 H2 c2 (s'.trans s2)
theorem simG_tup {s : Sm} {t : TGs} {gs : Gs} {n : Nat} (h : SimGs W J t (wGs s gs)) (hn : ∀ {ds Γ M Φ}, wGs s gs ds Γ M Φ → ds.length = n) : SimG W J (gTup W.K n t) (wG s (.tup gs)) := fun {F M H σ Γ v d Φ Q} j c e r w k => by
  simp only [wG] at w
  split at w
  · rename_i ds
    cases r with
    | tup h1 q =>
    exact ⟨_, _, rfl, c.ex.t h1, by rw [q.length]; exact hn w, h j c e q w k⟩
  · exact w.elim
theorem simG_sub {s : Sm} {to ti : TE} {o i : C} (ho : SimE W J to (wE s o)) (hi : SimE W J ti (wE s i)) : SimG W J (gSub to ti rSetL) (wG s (.sub o i)) := fun {F M H σ Γ v d Φ Q} j c e r w k => by
  simp only [wG] at w
  refine ho j c e w fun x d1 F1 M1 H1 c1 s1 r1 w1 => ?_
  refine hi (J.step j s1) c1 (e.up s1.f) w1 fun y d2 F2 M2 H2 c2 s2 r2 w2 => ?_
  have s12 := s1.trans s2
  exact setI_ok c2 (r1.up s2.f) r2 (r.up s12.f) w2 fun F3 M3 H3 c3 s3 w3 => k _ _ F3 M3 H3 c3 (s12.trans s3) (e.up (s12.trans s3).f) w3
/-! ### walks -/
/-- an iterator that gives the values ds, while the words of st hold; at each turn the state may have gone on -/
structure ItOk (W : Ab) (F0 : Hp) (M0 : MM) (H0 : Hp) (J : It) (ds : List D) (st : MM → Prop) : Prop where
  go : ∀ i F M H, i < ds.length → Conc W F M H → Stp F0 M0 H0 F M H → st M → J.go i H
  stop : ∀ F M H, Conc W F M H → Stp F0 M0 H0 F M H → st M → J.stop ds.length H
  yld : ∀ i F M H x H', i < ds.length → Conc W F M H → Stp F0 M0 H0 F M H → st M → J.yld i H x H' → ∃ F' d, Conc W F' M H' ∧ Stp F M H F' M H' ∧ Rp W F' x d ∧ ds[i]? = some d
def SimI (W : Ab) (J : JW) (t : TI) (w : Env → MM → (List D → (MM → Prop) → MM → Prop) → Prop) : Prop := ∀ {F M H σ Γ Φ} {R : It → Hp → Prop}, J.J F M H → Conc W F M H → EnvOk W F σ Γ → w Γ M Φ →
  (∀ ds st It F' M' H', Conc W F' M' H' → Stp F M H F' M' H' → ItOk W F' M' H' It ds st → Φ ds st M' → R It H') → t σ H R
theorem stays_ok {F : Hp} {M : MM} {H : Hp} {v : V} {d : D} {xs : List D} (c : Conc W F M H) (r : Rp W F v d) (e : seqOf M d = some xs) {F' : Hp} {M' : MM} {H' : Hp} (c' : Conc W F' M' H') (s' : Stp F M H F' M' H') (st : stays M d M') :
    seqOf M' d = some xs ∧ Rp W F' v d := by
  refine ⟨?_, r.up s'.f⟩
  cases d with
  | loc a =>
    simp only [seqOf] at e ⊢
    split at e
    · rename_i ys hm
      cases e
      simp only [stays, hm] at st
      rw [st]
    · cases e
  | lst _ => exact e
  | frl _ => exact e
  | tup _ => exact e
  | _ => cases e
def iSeq (K : PySem.W.Frag) (tl : TE) : TI := fun σ H R => iList K tl σ H R ∨ iTup K tl σ H R
def iSeqV (K : PySem.W.Frag) (tl : TE) : TI := fun σ H R => tl σ H fun x H1 => (∃ a, x = .ref a ∧ (∃ xs, SqL K H1 a xs) ∧ R (Itl K a) H1) ∨ (∃ a, x = .ref a ∧ (∃ xs, SqT K H1 a xs) ∧ R (Itt K a) H1)
theorem it_list {X : Cx} {tg : Expr} {P0 : List (Addr × Obj)} {σ0 : St} {G : Hp} {z : Shared} {R : It → Hp → Prop} {b : Addr} {ys : List V} (I : Inv X P0 σ0 G z) (h : SqL X.K G b ys) (q : R (Itl X.K b) G) :
    wpAny (model X.prog X.w) X.A (pyIter (.ref b)) (PIE X P0 σ0 tg R) X.xe z := by
  obtain ⟨us, _, pl, _⟩ := I.list h
  have fr : G z.heap.objs.size = none := I.hok.fresh (Nat.le_refl _)
  have I2 : Inv X P0 σ0 G { z with heap := z.heap.push { cls := .type "list_iterator", data := .fields #[.ref b, .int 0 0] } } := I.kept (t' := z.toks) fun c o e => Heap.get?_push_of_some _ e
  exact wpAny_pyIter_list pl.isList ⟨_, [z.heap.objs.size], _, _, G, rfl, I2, turn_list b _, ⟨_, Heap.get?_push_size _ rfl, rfl, rfl⟩,
    fun c hc => (List.mem_singleton.mp hc) ▸ I.fpOk (Nat.le_refl _) fr, q⟩
theorem it_tup {X : Cx} {tg : Expr} {P0 : List (Addr × Obj)} {σ0 : St} {G : Hp} {z : Shared} {R : It → Hp → Prop} {b : Addr} {ys : List V} (I : Inv X P0 σ0 G z) (h : SqT X.K G b ys) (q : R (Itt X.K b) G) :
    wpAny (model X.prog X.w) X.A (pyIter (.ref b)) (PIE X P0 σ0 tg R) X.xe z := by
  obtain ⟨us, _, pl, _⟩ := I.tuple h
  have fr : G z.heap.objs.size = none := I.hok.fresh (Nat.le_refl _)
  have I2 : Inv X P0 σ0 G { z with heap := z.heap.push { cls := .type "tuple_iterator", data := .fields #[.ref b, .int 0 0] } } := I.kept (t' := z.toks) fun c o e => Heap.get?_push_of_some _ e
  exact wpAny_pyIter_tuple (show z.heap.IsTuple b us.toArray from pl) ⟨_, [z.heap.objs.size], _, _, G, rfl, I2, turn_tuple b _, ⟨_, Heap.get?_push_size _ rfl, rfl, rfl⟩,
    fun c hc => (List.mem_singleton.mp hc) ▸ I.fpOk (Nat.le_refl _) fr, q⟩
theorem pi_seq {X : Cx} {tg l : Expr} {tl : TE} (hl : PE X l tl) : PI X tg l (iSeqV X.K tl) := by
  refine ⟨fun pins s σ H R I h => thn (hl.run pins s σ H _ I h) fun v s1 ⟨x, H1, I1, r1, q1⟩ => ?_⟩
  rcases q1 with ⟨a, rfl, ⟨xs, hx⟩, q⟩ | ⟨a, rfl, ⟨xs, hx⟩, q⟩
  · cases r1
    exact it_list I1 hx q
  · cases r1
    exact it_tup I1 hx q
theorem itl_ok {F0 : Hp} {M0 : MM} {H0 : Hp} {a : Addr} {d : D} {ds : List D} (c0 : Conc W F0 M0 H0) (r : Rp W F0 (.ref a) d) (e : seqOf M0 d = some ds) (hl : ∀ xs, d ≠ .tup xs) : ItOk W F0 M0 H0 (Itl W.K a) ds (stays M0 d) := by
  have now : ∀ {F M H}, Conc W F M H → Stp F0 M0 H0 F M H → stays M0 d M → ∃ vs, SqL W.K H a vs ∧ Rps W F vs ds := fun {F M H} c s st => by
    obtain ⟨e', r'⟩ := stays_ok c0 r e c s st
    obtain ⟨b, vs, h1, h2, h3⟩ := seq_ok c r' e'
    cases h1
    rcases h3 with h3 | ⟨_, h3⟩
    · exact ⟨vs, h3, h2⟩
    · exact absurd h3 (hl _)
  refine ⟨fun i F M H hi c s st => ?_, fun F M H c s st => ?_, fun i F M H x H' hi c s st y => ?_⟩
  · obtain ⟨vs, h1, h2⟩ := now c s st
    exact ⟨vs, vs[i]'(by rw [h2.length]; exact hi), h1, by simp [h2.length, hi]⟩
  · obtain ⟨vs, h1, h2⟩ := now c s st
    exact ⟨vs, h1, by rw [h2.length]; exact Nat.le_refl _⟩
  · obtain ⟨vs, h1, h2⟩ := now c s st
    obtain ⟨rfl, y2⟩ := y
    obtain ⟨z, e1, r1⟩ := h2.getV (y2 vs h1)
    exact ⟨F, z, c, Stp.refl, r1, e1⟩
theorem itt_ok {F0 : Hp} {M0 : MM} {H0 : Hp} {a : Addr} {vs : List V} {ds : List D} {st : MM → Prop} (h1 : SqT W.K F0 a vs) (h2 : Rps W F0 vs ds) : ItOk W F0 M0 H0 (Itt W.K a) ds st := by
  refine ⟨fun i F M H hi c s _ => ?_, fun F M H c s _ => ?_, fun i F M H x H' hi c s _ y => ?_⟩
  · exact ⟨vs, vs[i]'(by rw [h2.length]; exact hi), c.ex.t (s.f.t h1), by simp [h2.length, hi]⟩
  · exact ⟨vs, c.ex.t (s.f.t h1), by rw [h2.length]; exact Nat.le_refl _⟩
  · obtain ⟨rfl, y2⟩ := y
    obtain ⟨z, e1, r1⟩ := h2.getV (y2 vs (c.ex.t (s.f.t h1)))
    exact ⟨F, z, c, Stp.refl, r1.up s.f, e1⟩
theorem simI_seq {s : Sm} {tl : TE} {a : C} (ha : SimE W J tl (wE s a)) : SimI W J (iSeqV W.K tl) (wI s (.seq a)) := fun {F M H σ Γ Φ R} j c e w k => by
  simp only [wI] at w
  refine ha j c e w fun x d F1 M1 H1 c1 s1 r1 w1 => ?_
  split at w1
  · rename_i xs e1
    have r1' := r1
    cases r1 with
    | @tup p vs ds h q =>
      cases e1
      exact .inr ⟨p, rfl, ⟨vs, c1.ex.t h⟩, k xs _ _ F1 M1 H1 c1 s1 (itt_ok h q) w1⟩
    | @lst p vs ds h q =>
      obtain ⟨b, us, h1, h2, h3⟩ := seq_ok c1 r1' e1
      cases h1
      refine .inl ⟨p, rfl, ⟨vs, .inl (.inl (c1.ex _ _ h))⟩, k xs _ _ F1 M1 H1 c1 s1 (itl_ok c1 r1' e1 fun _ z => nomatch z) w1⟩
    | @frl p vs ds h q =>
      refine .inl ⟨p, rfl, ⟨vs, c1.ex.l h⟩, k xs _ _ F1 M1 H1 c1 s1 (itl_ok c1 r1' e1 fun _ z => nomatch z) w1⟩
    | loc p =>
      obtain ⟨b, us, h1, h2, h3⟩ := seq_ok c1 r1' e1
      cases h1
      rcases h3 with h3 | ⟨_, h3⟩
      · exact .inl ⟨p, rfl, ⟨us, h3⟩, k xs _ _ F1 M1 H1 c1 s1 (itl_ok c1 r1' e1 fun _ z => nomatch z) w1⟩
      · cases h3
    | _ => cases e1
  · exact w1.elim
theorem rngD_at (a : Int) (n i : Nat) (h : i < n) : (rngD a n)[i]? = some (.int (a + i)) := by
  induction n generalizing a i with
  | zero => exact absurd h (Nat.not_lt_zero _)
  | succ n ih =>
    cases i with
    | zero => simp [rngD]
    | succ i =>
      simp only [rngD, List.getElem?_cons_succ]
      rw [ih (a + 1) i (Nat.lt_of_succ_lt_succ h)]
      congr 2
      omega
theorem rngD_len (a : Int) (n : Nat) : (rngD a n).length = n := by
  induction n generalizing a with
  | zero => rfl
  | succ n ih => simp [rngD, ih]
theorem itr_ok {F0 : Hp} {M0 : MM} {H0 : Hp} {a : Int} {n : Nat} {st : MM → Prop} : ItOk W F0 M0 H0 (Itr a n) (rngD a n) st := by
  refine ⟨fun i F M H hi c s _ => ?_, fun F M H c s _ => ?_, fun i F M H x H' hi c s _ y => ?_⟩
  · rw [rngD_len] at hi; exact hi
  · rw [rngD_len]; exact Nat.le_refl _
  · rw [rngD_len] at hi
    obtain ⟨rfl, rfl⟩ := y
    exact ⟨F, _, c, Stp.refl, .int _, rngD_at a n i hi⟩
theorem simI_range1 {s : Sm} {ta : TE} {a : C} (ha : SimE W J ta (wE s a)) : SimI W J (iRng1 (tCons ta tNil)) (wI s (.range1 a)) := fun {F M H σ Γ Φ R} j c e w k => by
  simp only [wI] at w
  refine ha j c e w fun x d F1 M1 H1 c1 s1 r1 w1 => ?_
  cases r1 with
  | int i => exact ⟨i, rfl, w1.1, w1.2.1, k _ _ _ F1 M1 H1 c1 s1 itr_ok w1.2.2⟩
  | _ => exact w1.elim
theorem simI_range2 {s : Sm} {ta tb : TE} {a b : C} (ha : SimE W J ta (wE s a)) (hb : SimE W J tb (wE s b)) : SimI W J (iRng2 (tCons ta (tCons tb tNil))) (wI s (.range2 a b)) := fun {F M H σ Γ Φ R} j c e w k => by
  simp only [wI] at w
  refine ha j c e w fun x d F1 M1 H1 c1 s1 r1 w1 => ?_
  refine hb (J.step j s1) c1 (e.up s1.f) w1 fun y d2 F2 M2 H2 c2 s2 r2 w2 => ?_
  split at w2
  · cases r1; cases r2
    exact ⟨_, _, rfl, ⟨w2.1, w2.2.1, w2.2.2.1, w2.2.2.2.1⟩, k _ _ _ F2 M2 H2 c2 (s1.trans s2) itr_ok w2.2.2.2.2⟩
  · exact w2.elim
end Sw
set_option maxRecDepth 100000
set_option maxHeartbeats 4000000
/-! Sw: zip of lists and tuples in any mix, strict or not, by the machine. -/
namespace SwZ
open PySem L2
open PySem.Sem (wp)
def IsSq (m : Bool) (h : Heap) (a : Addr) (items : Array Value) : Prop := ∃ o, h.get? a = some o ∧ o.cls = .type (if m then "tuple" else "list") ∧ ∃ n, o.data = .seq items n
def IsIt (m : Bool) (h : Heap) (a l : Addr) (i : Nat) : Prop := ∃ o, h.get? a = some o ∧ o.cls = .type (if m then "tuple_iterator" else "list_iterator") ∧ o.data = .fields #[.ref l, .int i 0]
def Zp (sb : Bool) (h : Heap) (z TI TO : Addr) (f0 : Value) : Prop := h.get? z = some { cls := .type "zip", dict := none, data := .fields #[f0, .bool false, .bool sb, .ref TI, .ref TO], slots := #[] }
theorem IsSq.but {m h h' a b items} (x : IsSq m h a items) (hs : Heap.ExtBut b h h') (hab : a ≠ b) : IsSq m h' a items := let ⟨o, ho, r⟩ := x; ⟨o, hs a o hab ho, r⟩
theorem IsIt.but {m h h' a b l i} (x : IsIt m h a l i) (hs : Heap.ExtBut b h h') (hab : a ≠ b) : IsIt m h' a l i := let ⟨o, ho, r⟩ := x; ⟨o, hs a o hab ho, r⟩
theorem IsIt.on {m h h' a l i} (x : IsIt m h a l i) (k : ∀ o, h.get? a = some o → h'.get? a = some o) : IsIt m h' a l i := let ⟨o, ho, r⟩ := x; ⟨o, k o ho, r⟩
theorem IsIt.lt {m h a l i} (x : IsIt m h a l i) : a < h.objs.size := let ⟨o, ho, _⟩ := x; Heap.lt_size ho
section
variable {prog : Program} {w : World} {A : Around} {E : Value → Shared → Prop} {s : Shared}
theorem draw_item {m : Bool} {it l : Addr} {i : Nat} {items : Array Value} {x : Value} {Q : Value → Shared → Prop} (hit : IsIt m s.heap it l i) (hl : IsSq m s.heap l items) (hx : items[i]? = some x)
    (hQ : ∀ h', IsIt m h' it l (i + 1) → Heap.SameBut it s.heap h' → Q x { s with heap := h' }) : wpAny (model prog w) A (Builtin.SmallTypes.nextOf (.ref it)) Q E s := by
  cases m with
  | true => exact wpAny_nextOf_tuple_item (show s.heap.IsTupleIter it l i from hit) (show s.heap.IsTuple l items from hl) hx hQ
  | false => exact wpAny_nextOf_list_item (show s.heap.IsListIter it l i from hit) (show s.heap.IsList l items from hl) hx hQ
theorem draw_end {m : Bool} {it l : Addr} {i : Nat} {items : Array Value} {Q : Value → Shared → Prop} (hh : A.handled = none) (hit : IsIt m s.heap it l i) (hl : IsSq m s.heap l items) (hx : items[i]? = none)
    (hE : ∀ h' e, Heap.ExtBut it s.heap h' → (∃ o, h'.get? e = some o ∧ o.cls = .type "StopIteration") → E (.ref e) { s with heap := h' }) : wpAny (model prog w) A (Builtin.SmallTypes.nextOf (.ref it)) Q E s := by
  cases m with
  | true => exact RZ.nextOf_tuple_end hh (show s.heap.IsTupleIter it l i from hit) (show s.heap.IsTuple l items from hl) hx hE
  | false => exact wpAny_nextOf_list_end hh (show s.heap.IsListIter it l i from hit) (show s.heap.IsList l items from hl) hx hE
theorem drawS_item {m : Bool} {it l : Addr} {i : Nat} {items : Array Value} {x : Value} {Q : Option Value → Shared → Prop} (hit : IsIt m s.heap it l i) (hl : IsSq m s.heap l items) (hx : items[i]? = some x)
    (hQ : ∀ h', IsIt m h' it l (i + 1) → Heap.SameBut it s.heap h' → Q (some x) { s with heap := h' }) : wpAny (model prog w) A (Builtin.SmallTypes.nextOrEnd (.ref it)) Q E s := by
  unfold Builtin.SmallTypes.nextOrEnd
  exact wpAny_bind (wpAny_attempt (draw_item hit hl hx fun h' a b => wpAny_pure (hQ h' a b)))
theorem drawS_end {m : Bool} {it l : Addr} {i : Nat} {items : Array Value} {Q : Option Value → Shared → Prop} (hh : A.handled = none) (hit : IsIt m s.heap it l i) (hl : IsSq m s.heap l items) (hx : items[i]? = none)
    (hQ : ∀ h', Heap.ExtBut it s.heap h' → Q none { s with heap := h' }) : wpAny (model prog w) A (Builtin.SmallTypes.nextOrEnd (.ref it)) Q E s := by
  unfold Builtin.SmallTypes.nextOrEnd
  refine wpAny_bind (wpAny_attempt (draw_end hh hit hl hx fun h' e k he => ?_))
  obtain ⟨o, ho, hc⟩ := he
  exact wpAny_bind (wpAny_isInstance (T := "StopIteration") (b := true) ⟨o, ho, hc⟩ isSubtype_stop (wpAny_pure (hQ h' k)))
end
/-- the zip's own cells stand apart -/
structure Apart (z TI TO i1 i2 l1 l2 : Addr) : Prop where
  TIz : TI ≠ z
  TOz : TO ≠ z
  i1z : i1 ≠ z
  i2z : i2 ≠ z
  TITO : TI ≠ TO
  TIi1 : TI ≠ i1
  TIi2 : TI ≠ i2
  TOi1 : TO ≠ i1
  TOi2 : TO ≠ i2
  i12 : i1 ≠ i2
  l1z : l1 ≠ z
  l1TO : l1 ≠ TO
  l1i1 : l1 ≠ i1
  l1i2 : l1 ≠ i2
  l2z : l2 ≠ z
  l2TO : l2 ≠ TO
  l2i1 : l2 ≠ i1
  l2i2 : l2 ≠ i2
section
variable {prog : Program} {w : World} {A : Around} {E : Value → Shared → Prop} {s : Shared}
/-- the two draws of a turn, by the flag -/
def draw2 (sb : Bool) (it : Value) : Sem (Option Value) := if sb then Builtin.SmallTypes.nextOrEnd it else (do return some (← Builtin.SmallTypes.nextOf it))
theorem draw2_item {sb m : Bool} {it l : Addr} {i : Nat} {items : Array Value} {x : Value} {Q : Option Value → Shared → Prop} (hit : IsIt m s.heap it l i) (hl : IsSq m s.heap l items) (hx : items[i]? = some x)
    (hQ : ∀ h', IsIt m h' it l (i + 1) → Heap.SameBut it s.heap h' → Q (some x) { s with heap := h' }) : wpAny (model prog w) A (draw2 sb (.ref it)) Q E s := by
  cases sb with
  | true => exact drawS_item hit hl hx hQ
  | false => exact wpAny_bind (draw_item hit hl hx fun h' a b => wpAny_pure (hQ h' a b))
theorem zip_item {sb m1 m2 : Bool} {z TI TO i1 i2 l1 l2 : Addr} {k1 k2 : Nat} {xs ys : Array Value} {x y a b : Value} {Q : Value → Shared → Prop} (D : Apart z TI TO i1 i2 l1 l2)
    (hz : Zp sb s.heap z TI TO .none) (hTI : IsPair s.heap TI (.ref i1) (.ref i2)) (hTO : IsPair s.heap TO a b)
    (h1 : IsIt m1 s.heap i1 l1 k1) (h2 : IsIt m2 s.heap i2 l2 k2) (hl1 : IsSq m1 s.heap l1 xs) (hl2 : IsSq m2 s.heap l2 ys) (hx : xs[k1]? = some x) (hy : ys[k2]? = some y)
    (hQ : ∀ h', Zp sb h' z TI TO (rawInt s.heap.objs.size) → IsPair h' TO x y → IsIt m1 h' i1 l1 (k1 + 1) → IsIt m2 h' i2 l2 (k2 + 1) → IsPair h' s.heap.objs.size x y → h'.objs.size = s.heap.objs.size + 1 →
      (∀ c o, c ≠ z → c ≠ TO → c ≠ i1 → c ≠ i2 → s.heap.get? c = some o → h'.get? c = some o) → Q (.ref s.heap.objs.size) { s with heap := h' }) :
    wpAny (model prog w) A (Builtin.«zip.__next__» ⟨[.ref z], []⟩) (fun fin s' => ∃ v, fin = .done (.ret v) ∧ Q v s') E s := by
  have hz' := hz
  unfold Zp at hz'
  refine wpAny_bind (m := field (.ref z) 2) (wpAny_field hz' rfl (x := .bool sb) rfl ?_)
  refine wpAny_bind (m := field (.ref z) 3) (wpAny_field hz' rfl (x := .ref TI) rfl (wpAny_bind (wpAny_seqItems hTI rfl ?_)))
  refine wpAny_bind (m := Builtin.SmallTypes.ownedTupleIsFree (.ref z)) ?_
  unfold Builtin.SmallTypes.ownedTupleIsFree
  refine wpAny_bind (wpAny_field hz' rfl (x := .none) rfl (wpAny_pure ?_))
  simp only [if_true]
  refine wpAny_bind (wpAny_rule (wpAny_bind (wpAny_field hz' rfl (x := .ref TO) rfl (wpAny_bind (wpAny_setField_rec hz' (by simp) fun g1 hz1 e1 => ?_)))))
  have hz1 : Zp sb g1 z TI TO .ellipsis := hz1
  refine wpAny_bind ?_
  simp only [List.zipIdx_cons, List.zipIdx_nil, List.forIn_cons, List.forIn_nil]
  refine wpAny_bind (wpAny_bind (wpAny_onRaise ?_))
  have swap : (Value.bool sb == Value.bool true) = sb := by cases sb <;> rfl
  rw [swap]
  refine draw2_item (s := { s with heap := g1 }) (h1.but e1.extBut D.i1z) (hl1.but e1.extBut D.l1z) hx fun g2 h1b e2 => ?_
  have pTO2 : IsPair g2 TO a b := e2.extBut _ _ D.TOi1 (e1.extBut _ _ D.TOz hTO)
  refine wpAny_bind (wpAny_seqItems pTO2 rfl (wpAny_bind (wpAny_updateSeq_pair pTO2 fun g3 hTO3 e3 => ?_)))
  have pTO3 : IsPair g3 TO x b := hTO3
  refine wpAny_bind (wpAny_letGo (wpAny_pure (wpAny_bind (wpAny_bind (wpAny_onRaise ?_)))))
  refine draw2_item (s := { s with heap := g3 }) (((h2.but e1.extBut D.i2z).but e2.extBut D.i12.symm).but e3.extBut D.TOi2.symm) (((hl2.but e1.extBut D.l2z).but e2.extBut D.l2i1).but e3.extBut D.l2TO) hy fun g4 h2b e4 => ?_
  have pTO4 : IsPair g4 TO x b := e4.extBut _ _ D.TOi2 pTO3
  refine wpAny_bind (wpAny_seqItems pTO4 rfl (wpAny_bind (wpAny_updateSeq_pair pTO4 fun g5 hTO5 e5 => ?_)))
  have pTO5 : IsPair g5 TO x y := hTO5
  refine wpAny_bind (wpAny_letGo (wpAny_pure (wpAny_pure (wpAny_bind (wpAny_seqItems pTO5 rfl (wpAny_bind (wpAny_newTuple ?_)))))))
  have hsz : g5.objs.size = s.heap.objs.size := by rw [e5.1, e4.1, e3.1, e2.1, e1.1]
  have hz5 : Zp sb g5 z TI TO .ellipsis := e5.extBut _ _ D.TOz.symm (e4.extBut _ _ D.i2z.symm (e3.extBut _ _ D.TOz.symm (e2.extBut _ _ D.i1z.symm hz1)))
  have keep : ∀ c o, c ≠ z → c ≠ TO → c ≠ i1 → c ≠ i2 → s.heap.get? c = some o → g5.get? c = some o := fun c o c1 c2 c3 c4 e =>
    e5.extBut _ _ c2 (e4.extBut _ _ c4 (e3.extBut _ _ c2 (e2.extBut _ _ c3 (e1.extBut _ _ c1 e))))
  have q1 : IsIt m1 g5 i1 l1 (k1 + 1) := ((h1b.but e3.extBut D.TOi1.symm).but e4.extBut D.i12).but e5.extBut D.TOi1.symm
  have q2 : IsIt m2 g5 i2 l2 (k2 + 1) := h2b.but e5.extBut D.TOi2.symm
  have lz : z < g5.objs.size := Heap.lt_size hz5
  refine wpAny_bind (m := Builtin.SmallTypes.ownedTupleHandOut (.ref z) (.ref g5.objs.size)) ?_
  unfold Builtin.SmallTypes.ownedTupleHandOut
  have hz6 : (g5.push { cls := .type "tuple", data := .seq #[x, y] }).get? z = some { cls := .type "zip", dict := none, data := .fields #[.ellipsis, .bool false, .bool sb, .ref TI, .ref TO], slots := #[] } := Heap.get?_push_of_some _ hz5
  refine wpAny_bind (wpAny_setField_rec hz6 (by simp) fun g7 hz7 e7 => ?_)
  have hz7' : Zp sb g7 z TI TO (rawInt g5.objs.size) := hz7
  refine wpAny_setField_rec hz7' (by simp) fun g8 hz8 e8 => ?_
  have hz8' : Zp sb g8 z TI TO (rawInt g5.objs.size) := hz8
  have up : ∀ c o, c ≠ z → g5.get? c = some o → g8.get? c = some o := fun c o c1 e => e8.extBut _ _ c1 (e7.extBut _ _ c1 (Heap.get?_push_of_some _ e))
  have new : IsPair g8 g5.objs.size x y := e8.extBut _ _ (Nat.ne_of_gt lz) (e7.extBut _ _ (Nat.ne_of_gt lz) (Heap.get?_push_size _ rfl))
  have s8 : g8.objs.size = g5.objs.size + 1 := by rw [e8.1, e7.1, Heap.size_push]
  rw [hsz] at hz8' new s8
  refine wpAny_pure ⟨_, rfl, ?_⟩
  show Q (.ref g5.objs.size) _
  rw [hsz]
  exact hQ g8 hz8' (up _ _ D.TOz pTO5) (q1.on fun o e => up _ o D.i1z e) (q2.on fun o e => up _ o D.i2z e) new s8 fun c o c1 c2 c3 c4 e => up c o c1 (keep c o c1 c2 c3 c4 e)
theorem zip_end {sb m1 m2 : Bool} {z TI TO i1 i2 l1 l2 : Addr} {k1 k2 : Nat} {xs ys : Array Value} {a b : Value} {Q : Fin → Shared → Prop} (hh : A.handled = none) (D : Apart z TI TO i1 i2 l1 l2)
    (hz : Zp sb s.heap z TI TO .none) (hTI : IsPair s.heap TI (.ref i1) (.ref i2)) (hTO : IsPair s.heap TO a b)
    (h1 : IsIt m1 s.heap i1 l1 k1) (h2 : IsIt m2 s.heap i2 l2 k2) (hl1 : IsSq m1 s.heap l1 xs) (hl2 : IsSq m2 s.heap l2 ys) (hend : xs[k1]? = none ∨ ys[k2]? = none) (hst : sb = true → xs[k1]? = none ∧ ys[k2]? = none)
    (hE : ∀ h' e, (∀ c o, c ≠ z → c ≠ TO → c ≠ i1 → c ≠ i2 → s.heap.get? c = some o → h'.get? c = some o) → (∃ o, h'.get? e = some o ∧ o.cls = .type "StopIteration") → E (.ref e) { s with heap := h' }) :
    wpAny (model prog w) A (Builtin.«zip.__next__» ⟨[.ref z], []⟩) Q E s := by
  have hz' := hz
  unfold Zp at hz'
  refine wpAny_bind (m := field (.ref z) 2) (wpAny_field hz' rfl (x := .bool sb) rfl ?_)
  refine wpAny_bind (m := field (.ref z) 3) (wpAny_field hz' rfl (x := .ref TI) rfl (wpAny_bind (wpAny_seqItems hTI rfl ?_)))
  refine wpAny_bind (m := Builtin.SmallTypes.ownedTupleIsFree (.ref z)) ?_
  unfold Builtin.SmallTypes.ownedTupleIsFree
  refine wpAny_bind (wpAny_field hz' rfl (x := .none) rfl (wpAny_pure ?_))
  simp only [if_true]
  refine wpAny_bind (wpAny_rule (wpAny_bind (wpAny_field hz' rfl (x := .ref TO) rfl (wpAny_bind (wpAny_setField_rec hz' (by simp) fun g1 hz1 e1 => ?_)))))
  have hz1 : Zp sb g1 z TI TO .ellipsis := hz1
  refine wpAny_bind ?_
  simp only [List.zipIdx_cons, List.zipIdx_nil, List.forIn_cons, List.forIn_nil]
  refine wpAny_bind (wpAny_bind (wpAny_onRaise ?_))
  have swap : (Value.bool sb == Value.bool true) = sb := by cases sb <;> rfl
  rw [swap]
  cases sb with
  | true =>
    obtain ⟨n1, n2⟩ := hst rfl
    refine drawS_end (s := { s with heap := g1 }) hh (h1.but e1.extBut D.i1z) (hl1.but e1.extBut D.l1z) n1 fun g2 e2 => ?_
    have hz2 : Zp true g2 z TI TO .ellipsis := e2 _ _ D.i1z.symm hz1
    refine wpAny_bind (wpAny_setField_rec hz2 (by simp) fun g3 hz3 e3 => ?_)
    refine wpAny_bind ?_
    refine wpAny_bind ?_
    simp only [List.drop_succ_cons, List.drop_zero, List.zipIdx_cons, List.zipIdx_nil, List.forIn_cons, List.forIn_nil]
    refine wpAny_bind (wpAny_bind ?_)
    have i2g3 : IsIt m2 g3 i2 l2 k2 := ((h2.but e1.extBut D.i2z).but e2 D.i12.symm).but e3.extBut D.i2z
    have l2g3 : IsSq m2 g3 l2 ys := ((hl2.but e1.extBut D.l2z).but e2 D.l2i1).but e3.extBut D.l2z
    refine drawS_end (s := { s with heap := g3 }) hh i2g3 l2g3 n2 fun g4 e4 => ?_
    refine wpAny_pure (wpAny_pure (wpAny_bind (wpAny_rule ?_)))
    unfold Builtin.SmallTypes.stopIteration
    simp only [newExc, newTuple]
    refine wpAny_bind (wpAny_bind (wpAny_newObj_type ?_ (by size_fits)))
    refine wpAny_bind (m := firstArgMember _ _) (wpAny_of_eq (a := Value.none) (by first | rfl | (simp only [firstArgMember]; rfl)) ?_)
    refine wpAny_newObj_type ?_ (by size_fits)
    simp only [raiseNew]
    refine wpAny_bind (wpAny_handled ?_)
    first | rw [show A.in1.handled = none from hh] | rw [hh]
    refine wpAny_bind (wpAny_pure (wpAny_throw ?_))
    refine hE _ _ (fun c o c1 _ c3 c4 x => Heap.get?_push_of_some _ (Heap.get?_push_of_some _ (e4 _ _ c4 (e3.extBut _ _ c1 (e2 _ _ c3 (e1.extBut _ _ c1 x)))))) ⟨_, Heap.get?_push_size _ rfl, rfl⟩
  | false =>
    cases hx : xs[k1]? with
    | none =>
      refine wpAny_bind (draw_end (s := { s with heap := g1 }) hh (h1.but e1.extBut D.i1z) (hl1.but e1.extBut D.l1z) hx fun g2 e e2 he => ?_)
      obtain ⟨oe, hoe, hce⟩ := he
      have hz2 : Zp false g2 z TI TO .ellipsis := e2 _ _ D.i1z.symm hz1
      have hez : e ≠ z := fun x => by subst x; unfold Zp at hz2; rw [hz2] at hoe; cases hoe; simp at hce
      refine wpAny_setField_rec hz2 (by simp) fun g3 _ e3 => hE g3 e (fun c o c1 _ c3 _ x => e3.extBut _ _ c1 (e2 _ _ c3 (e1.extBut _ _ c1 x))) ⟨oe, e3.extBut _ _ hez hoe, hce⟩
    | some x =>
      have hy : ys[k2]? = none := by rcases hend with h | h; rw [hx] at h; cases h; exact h
      refine wpAny_bind (draw_item (s := { s with heap := g1 }) (h1.but e1.extBut D.i1z) (hl1.but e1.extBut D.l1z) hx fun g2 h1b e2 => wpAny_pure ?_)
      have pTO2 : IsPair g2 TO a b := e2.extBut _ _ D.TOi1 (e1.extBut _ _ D.TOz hTO)
      refine wpAny_bind (wpAny_seqItems pTO2 rfl (wpAny_bind (wpAny_updateSeq_pair pTO2 fun g3 hTO3 e3 => ?_)))
      refine wpAny_bind (wpAny_letGo (wpAny_pure (wpAny_bind (wpAny_bind (wpAny_onRaise ?_)))))
      refine wpAny_bind (draw_end (s := { s with heap := g3 }) hh (((h2.but e1.extBut D.i2z).but e2.extBut D.i12.symm).but e3.extBut D.TOi2.symm) (((hl2.but e1.extBut D.l2z).but e2.extBut D.l2i1).but e3.extBut D.l2TO) hy fun g4 e e4 he => ?_)
      obtain ⟨oe, hoe, hce⟩ := he
      have hz4 : Zp false g4 z TI TO .ellipsis := e4 _ _ D.i2z.symm (e3.extBut _ _ D.TOz.symm (e2.extBut _ _ D.i1z.symm hz1))
      have hez : e ≠ z := fun x => by subst x; unfold Zp at hz4; rw [hz4] at hoe; cases hoe; simp at hce
      refine wpAny_setField_rec hz4 (by simp) fun g5 _ e5 => hE g5 e (fun c o c1 c2 c3 c4 x => e5.extBut _ _ c1 (e4 _ _ c4 (e3.extBut _ _ c2 (e2.extBut _ _ c3 (e1.extBut _ _ c1 x))))) ⟨oe, e5.extBut _ _ hez hoe, hce⟩
end
end SwZ
namespace SwZ
open PySem L2
abbrev sKw : List (Str × Value) := [(Str.ofString "strict", .bool true)]
theorem typeCallS (a b : Value) : checkTypeCall "zip" ⟨[a, b], sKw⟩ = pure () := by kernel_rfl
theorem newCallS (a b : Value) : checkBuiltinCall "zip.__new__" ⟨[.type "zip", a, b], sKw⟩ = pure () := by kernel_rfl
abbrev zT (h : Heap) (o1 o2 : Obj) : Heap := ((h.push o1).push o2).push { cls := .type "tuple", data := .seq #[.ref h.objs.size, .ref (h.push o1).objs.size] }
abbrev zO (h : Heap) (o1 o2 : Obj) : Heap := (zT h o1 o2).push { cls := .type "tuple", data := .seq #[.none, .none] }
abbrev zZ (sb : Bool) (h : Heap) (o1 o2 : Obj) : Heap := (zO h o1 o2).push { cls := .type "zip", data := .fields #[.none, .bool false, .bool sb, .ref ((h.push o1).push o2).objs.size, .ref (zT h o1 o2).objs.size] }
theorem meets_new {v1 v2 : Value} {o1 o2 : Obj} {H1 H2 : Heap → Prop} (B1 : Begins v1 o1 H1) (B2 : Begins v2 o2 H2) :
    Meets (Builtin.«zip.__new__» ⟨[.type "zip", v1, v2], sKw⟩) (fun _ R s => (H1 s.heap ∧ H2 s.heap) ∧ R (.ok (.ret (.ref (zO s.heap o1 o2).objs.size))) { s with heap := zZ true s.heap o1 o2 }) :=
  .of_wp fun prog w A R s h => by
    obtain ⟨hp, g, d, tk, os⟩ := s; obtain ⟨⟨h1, h2⟩, h⟩ := h
    have hsub := sub_zip
    have q1 : ∀ {A' : Around} {E : Value → Shared → Prop} {Q : Value → Shared → Prop}, Q (.ref hp.objs.size) ⟨(hp.push o1), g, d, tk, os⟩ → wpAny (model prog w) A' (pyIter v1) Q E ⟨hp, g, d, tk, os⟩ :=
      fun q => B1.iter prog w _ _ ⟨hp, g, d, tk, os⟩ _ (B1.keeps _ _ h1 fun b o' e => e) q
    have q2 : ∀ {A' : Around} {E : Value → Shared → Prop} {Q : Value → Shared → Prop}, Q (.ref (hp.push o1).objs.size) ⟨((hp.push o1).push o2), g, d, tk, os⟩ → wpAny (model prog w) A' (pyIter v2) Q E ⟨(hp.push o1), g, d, tk, os⟩ :=
      fun q => B2.iter prog w _ _ ⟨(hp.push o1), g, d, tk, os⟩ _ (B2.keeps _ _ h2 fun b o' e => (Heap.get?_push_of_some _ e)) q
    wp_walk using q1, q2
    exact ⟨_, rfl, h⟩
theorem init_meets {self a b : Value} : Meets (Builtin.«object.__init__» ⟨[self, a, b], sKw⟩) (fun _ R s => s.TypeIs self "zip" ∧ R (.ok (.ret .none)) s) := by
  refine Meets.of_wp fun prog w A R s hs => ?_
  obtain ⟨hT, hq⟩ := hs
  have hl := F.called_zip.init.lookup
  have hm := F.called_zip.made
  have hne : (some "zip.__new__" != some "object.__new__") = true := by decide
  repeat (any_goals (first | assumption | wp_step))
  exact ⟨_, rfl, hq⟩
theorem argsOkS (a b c : Value) : argsOk "object.__init__" ⟨[a, b, c], sKw⟩ := by unfold argsOk; kernel_rfl
section
variable {prog : Program} {w : World} {A : Around} {E : Value → Shared → Prop} {s : Shared}
theorem call_zipS {v1 v2 : Value} {o1 o2 : Obj} {H1 H2 : Heap → Prop} {Q : Value → Shared → Prop} (B1 : Begins v1 o1 H1) (B2 : Begins v2 o2 H2) (h1 : H1 s.heap) (h2 : H2 s.heap)
    (h : Q (.ref (zO s.heap o1 o2).objs.size) { s with heap := zZ true s.heap o1 o2 }) : wpAny (model prog w) A (call (.type "zip") [v1, v2] sKw) Q E s := by
  have ft := F.called_zip
  obtain ⟨c, tl, hmro⟩ := ft.mro
  have hmade := ft.made
  have hsub := ft.sub
  have hct := typeCallS v1 v2
  refine wpAny_call (codeAny_of_tree ?_)
  show wpAny _ _ (callAny (.type "zip") _) _ _ _
  refine wpAny_pure ⟨Code.quiet_builtin _ (by decide +kernel), codeAny_builtin F.entry_type_call ?_⟩
  rw [Around.under_plain (weight_type_call_type "zip" [v1, v2] sKw) (units_type_call_type "zip" [v1, v2] sKw)]
  have n1 := ft.notType
  have n2 := ft.canCreate
  repeat (any_goals (first | assumption | wp_step))
  show codeAny (model prog w) A.in1 (.call (.builtin "zip.__new__") ⟨[.type "zip", v1, v2], sKw⟩) _ s
  refine codeAny_mono (R := fun r s1 => ∃ v, r = Except.ok (Flow.ret v) ∧ s1.TypeIs v "zip" ∧ Q v s1) (codeAny_call_builtin ft.plain F.entry_zip_new (wpAny_of_eq (newCallS v1 v2) (meets_new B1 B2 prog w A.in1 (fun r s1 => ∃ v, r = .ok (.ret v) ∧ s1.TypeIs v "zip" ∧ Q v s1) s ⟨⟨h1, h2⟩, ?_⟩))) fun r s1 hr => ?_
  · have gZ : (zZ true s.heap o1 o2).get? (zO s.heap o1 o2).objs.size = some _ := Heap.get?_push_size _ rfl
    exact ⟨_, rfl, ⟨_, gZ, rfl⟩, h⟩
  · obtain ⟨v, rfl, hT, hq⟩ := hr
    have hli := ft.init.lookup
    have hbi := ft.init.bind v
    repeat (any_goals (first | assumption | wp_step))
    show codeAny (model prog w) _ (.call (.builtin "object.__init__") ⟨[v, v1, v2], sKw⟩) _ s1
    refine codeAny_mono (R := fun r s2 => r = Except.ok (Flow.ret .none) ∧ Q v s2) (codeAny_call_builtin ft.init.plain F.entry_object_init (ft.init.check _ _ _ _ _ _ _ _ hT (argsOkS v v1 v2) (init_meets prog w A.in1 (fun r s2 => r = .ok (.ret .none) ∧ Q v s2) s1 ⟨hT, rfl, hq⟩))) fun r2 s2 hr2 => ?_
    obtain ⟨rfl, hq2⟩ := hr2
    repeat (any_goals (first | assumption | wp_step))
end
end SwZ
set_option maxRecDepth 100000
set_option maxHeartbeats 4000000
/-! Sw: zip walked. -/
namespace Sw
open PySem L2 SwZ
/-- a list or a tuple (m) -/
def SqX (K : PySem.W.Frag) (m : Bool) (H : Hp) (a : Addr) (xs : List V) : Prop := match m with
  | true => SqT K H a xs
  | false => SqL K H a xs
def ItzM (K : PySem.W.Frag) (sb m1 m2 : Bool) (a b : Addr) : It :=
  ⟨fun i H => ∃ (xs ys : List V) (x y : V), SqX K m1 H a xs ∧ SqX K m2 H b ys ∧ xs[i]? = some x ∧ ys[i]? = some y,
    fun i H v H' => ∃ T x y, v = .ref T ∧ H T = none ∧ H' = upd H T (.tup [x, y]) ∧ (∀ xs, SqX K m1 H a xs → xs[i]? = some x) ∧ ∀ ys, SqX K m2 H b ys → ys[i]? = some y,
    fun i H => ∃ xs ys : List V, SqX K m1 H a xs ∧ SqX K m2 H b ys ∧ (xs.length ≤ i ∨ ys.length ≤ i) ∧ (sb = true → xs.length ≤ i ∧ ys.length ≤ i)⟩
section
variable {X : Cx} {pins : List (Addr × Obj)} {σ : St} {H : Hp} {s : Shared}
theorem sqx {m : Bool} {a : Addr} {xs : List V} (I : Inv X pins σ H s) (h : SqX X.K m H a xs) : ∃ its : List Value, Vals xs its ∧ IsSq m s.heap a its.toArray ∧ xs.length ≤ sizeLine := by
  cases m with
  | true =>
    obtain ⟨us, r, pl, z⟩ := I.tuple h
    exact ⟨us, r, (show s.heap.IsTuple a us.toArray from pl), z⟩
  | false =>
    obtain ⟨us, r, pl, z⟩ := I.list h
    exact ⟨us, r, (show s.heap.IsList a us.toArray from pl.isList), z⟩
theorem sqx_inj {m : Bool} {a : Addr} {xs ys : List V} (I : Inv X pins σ H s) (h : SqX X.K m H a xs) (h' : SqX X.K m H a ys) : xs = ys := by
  cases m with
  | true => exact I.tuple_inj h h'
  | false => exact I.list_inj h h'
end
theorem pyNext_item {prog : Program} {w : World} {A : Around} {E : Value → Shared → Prop} {s : Shared} {sb m1 m2 : Bool} {z TI TO i1 i2 l1 l2 : Addr} {k1 k2 : Nat} {xs ys : Array Value} {x y a b : Value} {Q : Option Value → Shared → Prop} (D : Apart z TI TO i1 i2 l1 l2)
    (hz : Zp sb s.heap z TI TO .none) (hTI : IsPair s.heap TI (.ref i1) (.ref i2)) (hTO : IsPair s.heap TO a b)
    (h1 : IsIt m1 s.heap i1 l1 k1) (h2 : IsIt m2 s.heap i2 l2 k2) (hl1 : IsSq m1 s.heap l1 xs) (hl2 : IsSq m2 s.heap l2 ys) (hx : xs[k1]? = some x) (hy : ys[k2]? = some y)
    (hQ : ∀ h', Zp sb h' z TI TO (rawInt s.heap.objs.size) → IsPair h' TO x y → IsIt m1 h' i1 l1 (k1 + 1) → IsIt m2 h' i2 l2 (k2 + 1) → IsPair h' s.heap.objs.size x y → h'.objs.size = s.heap.objs.size + 1 →
      (∀ c o, c ≠ z → c ≠ TO → c ≠ i1 → c ≠ i2 → s.heap.get? c = some o → h'.get? c = some o) → Q (some (.ref s.heap.objs.size)) { s with heap := h' }) : wpAny (model prog w) A (pyNext (.ref z)) Q E s := by
  have hT : s.TypeIs (.ref z) "zip" := ⟨_, hz, rfl⟩
  unfold pyNext
  exact wpAny_bind (wpAny_attempt (wpAny_callSpecial?_slot (name := Str.ofString "__next__") hT F.slot_zip_next (wpAny_call_entry F.slot_zip_next hT F.entry_zip_next
    (zip_item D hz hTI hTO h1 h2 hl1 hl2 hx hy fun h' a1 a2 a3 a4 a5 a6 a7 => wpAny_pure (hQ h' a1 a2 a3 a4 a5 a6 a7)) (F.args_zip_next_1 _))))
theorem pyNext_end {prog : Program} {w : World} {A : Around} {E : Value → Shared → Prop} {s : Shared} {sb m1 m2 : Bool} {z TI TO i1 i2 l1 l2 : Addr} {k1 k2 : Nat} {xs ys : Array Value} {a b : Value} {Q : Option Value → Shared → Prop} (hh : A.handled = none) (D : Apart z TI TO i1 i2 l1 l2)
    (hz : Zp sb s.heap z TI TO .none) (hTI : IsPair s.heap TI (.ref i1) (.ref i2)) (hTO : IsPair s.heap TO a b)
    (h1 : IsIt m1 s.heap i1 l1 k1) (h2 : IsIt m2 s.heap i2 l2 k2) (hl1 : IsSq m1 s.heap l1 xs) (hl2 : IsSq m2 s.heap l2 ys) (hend : xs[k1]? = none ∨ ys[k2]? = none) (hst : sb = true → xs[k1]? = none ∧ ys[k2]? = none)
    (hQ : ∀ h', (∀ c o, c ≠ z → c ≠ TO → c ≠ i1 → c ≠ i2 → s.heap.get? c = some o → h'.get? c = some o) → Q none { s with heap := h' }) : wpAny (model prog w) A (pyNext (.ref z)) Q E s := by
  have hT : s.TypeIs (.ref z) "zip" := ⟨_, hz, rfl⟩
  unfold pyNext
  refine wpAny_bind (wpAny_attempt (wpAny_callSpecial?_slot (name := Str.ofString "__next__") hT F.slot_zip_next (wpAny_call_entry F.slot_zip_next hT F.entry_zip_next
    (zip_end hh D hz hTI hTO h1 h2 hl1 hl2 hend hst fun h' e hk he => ?_) (F.args_zip_next_1 _))))
  obtain ⟨o, ho, hc⟩ := he
  exact wpAny_bind (wpAny_isInstance (T := "StopIteration") (b := true) ⟨o, ho, hc⟩ isSubtype_stop (wpAny_pure (hQ _ hk)))
theorem letGo_zip {prog : Program} {w : World} {A : Around} {E : Value → Shared → Prop} {s : Shared} {sb : Bool} {elts : List Expr} {x1} {pos : Pos} {z TI TO T : Addr} {Q : Unit → Shared → Prop} (hz : Zp sb s.heap z TI TO (rawInt T))
    (hQ : ∀ h', Zp sb h' z TI TO .none → Heap.SameBut z s.heap h' → Q () { s with heap := h' }) : wpAny (model prog w) A (letOwnedTupleGo (.Tuple elts x1 pos) (.ref z) (.ref T)) Q E s := by
  have hz' := hz
  unfold Zp at hz'
  unfold letOwnedTupleGo
  refine wpAny_bind (wpAny_load hz' ?_)
  dsimp only
  rw [if_pos (by simp)]
  refine wpAny_bind (wpAny_rule ?_)
  exact wpAny_setField_rec hz' (by simp) fun h' q1 q2 => hQ h' q1 q2
theorem pyIter_zip {prog : Program} {w : World} {A : Around} {E : Value → Shared → Prop} {s : Shared} {sb : Bool} {z TI TO : Addr} {f0 : Value} {Q : Value → Shared → Prop} (hz : Zp sb s.heap z TI TO f0) (h : Q (.ref z) s) : wpAny (model prog w) A (pyIter (.ref z)) Q E s := by
  have hT : s.TypeIs (.ref z) "zip" := ⟨_, hz, rfl⟩
  refine wpAny_pyIter_slot hT F.slot_zip_iter (wpAny_call_entry F.slot_zip_iter hT F.entry_zip_iter ?_ (F.args_zip_iter_1 _))
  exact wpAny_pure ⟨_, rfl, "zip", _, hT, F.slot_zip_next.lookup, h⟩
theorem turn_zipM {P : Program} {w : World} {K : PySem.W.Frag} {elts : List Expr} {kk : Nat} {tpos : Pos} {sb m1 m2 : Bool} {a b z TI TO i1 i2 : Addr} (D : Apart z TI TO i1 i2 a b) :
    Turn P w K (.Tuple elts kk tpos) (ItzM K sb m1 m2 a b) [z, TI, TO, i1, i2] z (fun i h => Zp sb h z TI TO .none ∧ IsPair h TI (.ref i1) (.ref i2) ∧ (∃ x y, IsPair h TO x y) ∧ IsIt m1 h i1 a i ∧ IsIt m2 h i2 b i) where
  mem := by simp
  obj := fun i h st c hc => by
    obtain ⟨hz, hTI, ⟨x, y, hTO⟩, ⟨o1, e1, _, d1⟩, ⟨o2, e2, _, d2⟩⟩ := st
    simp only [List.mem_cons, List.not_mem_nil, or_false] at hc
    rcases hc with rfl | rfl | rfl | rfl | rfl
    · exact ⟨_, hz, fun v q => nomatch q⟩
    · exact ⟨_, hTI, fun v q => nomatch q⟩
    · exact ⟨_, hTO, fun v q => nomatch q⟩
    · exact ⟨o1, e1, fun v q => by rw [d1] at q; cases q⟩
    · exact ⟨o2, e2, fun v q => by rw [d2] at q; cases q⟩
  keep := fun i h h' st k => by
    obtain ⟨hz, hTI, ⟨x, y, hTO⟩, h1, h2⟩ := st
    exact ⟨k _ (by simp) _ hz, k _ (by simp) _ hTI, ⟨x, y, k _ (by simp) _ hTO⟩, h1.on (k _ (by simp)), h2.on (k _ (by simp))⟩
  item := by
    intro X hP hw hK hc i pins s σ H E I hf st hg
    subst hP hw hK
    obtain ⟨hz, hTI, ⟨x0, y0, hTO⟩, h1, h2⟩ := st
    obtain ⟨xs, ys, x, y, hqx, hqy, hx, hy⟩ := hg
    obtain ⟨us, ru, p1, _⟩ := sqx I hqx
    obtain ⟨ws, rw', p2, _⟩ := sqx I hqy
    obtain ⟨u, hu, r1⟩ := ru.get hx
    obtain ⟨v, hv, r2⟩ := rw'.get hy
    have lz : z < s.heap.objs.size := Heap.lt_size hz
    refine pyNext_item D hz hTI hTO h1 h2 p1 p2 (x := u) (y := v) (by simpa using hu) (by simpa using hv) fun h' z' TO' j1 j2 hT hsz hk => ?_
    refine ⟨_, rfl, letGo_zip (s := { s with heap := h' }) z' fun h'' z'' sb2 => ?_⟩
    have hT2 : h''.get? s.heap.objs.size = some { cls := .type "tuple", data := .seq #[u, v] } := (sb2.2 _ (Nat.ne_of_gt lz)).trans hT
    have new : ObjOk X.prog X.w (upd H s.heap.objs.size (.tup [x, y])) h'' s.heap.objs.size (.tup [x, y]) := ⟨by show 2 ≤ sizeLine; decide, [u, v], .cons r1 (.cons r2 .nil), ⟨_, hT2, rfl, _, rfl⟩⟩
    have I1 : Inv X pins σ (upd H s.heap.objs.size (.tup [x, y])) { s with heap := h'' } :=
      I.turnedNew (t' := s.toks) (ch := [z, TI, TO, i1, i2]) (fun c o hb q => (sb2.2 c (fun q' => hb (by simp [q']))).trans (hk c o (fun q' => hb (by simp [q'])) (fun q' => hb (by simp [q'])) (fun q' => hb (by simp [q'])) (fun q' => hb (by simp [q'])) q)) hf (Nat.le_refl _) new
    have old : ∀ c ∈ [z, TI, TO, i1, i2], c < s.heap.objs.size := fun c hcm => by
      simp only [List.mem_cons, List.not_mem_nil, or_false] at hcm
      rcases hcm with rfl | rfl | rfl | rfl | rfl
      · exact lz
      · exact Heap.lt_size hTI
      · exact Heap.lt_size hTO
      · exact h1.lt
      · exact h2.lt
    refine ⟨.ref s.heap.objs.size, _, I1, rfl, ⟨_, x, y, rfl, I.hok.fresh (Nat.le_refl _), rfl, fun l hl => by rw [sqx_inj I hl hqx]; exact hx, fun l hl => by rw [sqx_inj I hl hqy]; exact hy⟩, ⟨z'', ?_, ⟨u, v, ?_⟩, ?_, ?_⟩, fun c hcm => ?_⟩
    · exact (sb2.2 _ D.TIz).trans (hk _ _ D.TIz D.TITO D.TIi1 D.TIi2 hTI)
    · exact (sb2.2 _ D.TOz).trans TO'
    · exact j1.on fun o q => (sb2.2 _ D.i1z).trans q
    · exact j2.on fun o q => (sb2.2 _ D.i2z).trans q
    · rw [upd_ne (Nat.ne_of_lt (old c hcm))]
      exact (hf c hcm).1
  done := by
    intro X hP hw hK hc i pins s σ H E I hf st hg
    subst hP hw hK
    obtain ⟨hz, hTI, ⟨x0, y0, hTO⟩, h1, h2⟩ := st
    obtain ⟨xs, ys, hqx, hqy, hend, hst⟩ := hg
    obtain ⟨us, ru, p1, _⟩ := sqx I hqx
    obtain ⟨ws, rw', p2, _⟩ := sqx I hqy
    have l1 := ru.length
    have l2 := rw'.length
    refine pyNext_end (I.ok.hd hc) D hz hTI hTO h1 h2 p1 p2 ?_ ?_ fun h' hk => ⟨rfl, I.turnedL (t' := s.toks) (ch := [z, TI, TO, i1, i2]) (fun c o hb q =>
      hk c o (fun q' => hb (by simp [q'])) (fun q' => hb (by simp [q'])) (fun q' => hb (by simp [q'])) (fun q' => hb (by simp [q'])) q) hf⟩
    · rcases hend with q | q
      · exact .inl (by simp; omega)
      · exact .inr (by simp; omega)
    · intro q
      obtain ⟨q1, q2⟩ := hst q
      exact ⟨by simp; omega, by simp; omega⟩
  self := fun A i s Q E st h => pyIter_zip st.1 h
theorem callWith_typeK {M : Model} {A : Around} {E : Value → Shared → Prop} {s : Shared} {env : PySem.Env} {pos : Pos} {T : String} {e : Expr} {rest : List Expr} {kws : List Keyword} {Q : Value → Shared → Prop}
    (h : wpAny M A (spliced (backTo pos (starEach (e :: rest) env))) (fun vs s₁ => wpAny M A (evalAll ((backToKw pos (keywordEach kws env)).map (·.2)))
      (fun kvs s₂ => wpAny M A (call (.type T) vs (((backToKw pos (keywordEach kws env)).filterMap (·.1)).zip kvs)) Q E s₂) E s₁) E s)
    (he : backTo pos (starEach (e :: rest) env) = (false, eval e env) :: backTo pos (starEach rest env)) (hp : (backTo pos (starEach (e :: rest) env)).any (·.1) = false)
    (hall : (backToKw pos (keywordEach kws env)).all (·.1.isSome) = true) (hkw : (backToKw pos (keywordEach kws env)).any (·.1.isNone) = false) :
    wpAny M A (callWith pos (.type T) [] (backTo pos (starEach (e :: rest) env)) (backToKw pos (keywordEach kws env))) Q E s := by
  have h' : wpAny M A (evalArgs (.type T) true (backTo pos (starEach (e :: rest) env)) (backToKw pos (keywordEach kws env))) (fun a s₁ => wpAny M A (call (.type T) ([] ++ a.pos) a.kw) Q E s₁) E s := by
    rw [he] at h ⊢
    exact PyProof.Rows.evalArgs_kwB hall h
  unfold callWith
  refine wpAny_bind (wpAny_holding (wpAny_mono h' (fun a s1 k => wpAny_bind (wpAny_standAt ?_)) fun _ _ x => x))
  simp only [hp, hkw, Bool.or_false]
  refine wpAny_bind (wpAny_pure ?_)
  exact wpAny_bind (wpAny_mono k (fun r s2 hr => wpAny_bind (wpAny_holding (wpAny_point (wpAny_pure hr)))) fun _ _ x => x)
def iZipM (K : PySem.W.Frag) (sb : Bool) (ta : TA) : TI := fun σ H R => ta σ H fun vs H1 => ∃ a b xs ys m1 m2, vs = [.ref a, .ref b] ∧ SqX K m1 H1 a xs ∧ SqX K m2 H1 b ys ∧ R (ItzM K sb m1 m2 a b) H1
def bgO (m : Bool) (a : Addr) : Obj := { cls := .type (if m then "tuple_iterator" else "list_iterator"), data := .fields #[.ref a, .int 0 0] }
theorem begins {m : Bool} (a : Addr) (items : Array Value) : Begins (.ref a) (bgO m a) fun h => IsSq m h a items := by
  cases m with
  | true => exact begins_tuple a items
  | false => exact begins_list a items
theorem apN (n a b : Nat) (la : a < n) (lb : b < n) : (n + 2 ≠ n + 4 ∧ n + 3 ≠ n + 4 ∧ n ≠ n + 4 ∧ n + 1 ≠ n + 4 ∧ n + 2 ≠ n + 3 ∧ n + 2 ≠ n ∧ n + 2 ≠ n + 1 ∧ n + 3 ≠ n ∧ n + 3 ≠ n + 1 ∧ n ≠ n + 1) ∧
    (a ≠ n + 4 ∧ a ≠ n + 3 ∧ a ≠ n ∧ a ≠ n + 1) ∧ (b ≠ n + 4 ∧ b ≠ n + 3 ∧ b ≠ n ∧ b ≠ n + 1) := by omega
theorem apart_of {n a b : Nat} (la : a < n) (lb : b < n) : Apart (n + 4) (n + 2) (n + 3) n (n + 1) a b := by
  obtain ⟨⟨h1, h2, h3, h4, h5, h6, h7, h8, h9, h10⟩, ⟨g1, g2, g3, g4⟩, f1, f2, f3, f4⟩ := apN n a b la lb
  exact ⟨h1, h2, h3, h4, h5, h6, h7, h8, h9, h10, g1, g2, g3, g4, f1, f2, f3, f4⟩
theorem zip_begun {X : Cx} {pins : List (Addr × Obj)} {σ : St} {H : Hp} {s : Shared} {tg : Expr} {elts : List Expr} {kk : Nat} {tpos : Pos} (htg : tg = .Tuple elts kk tpos) {R : It → Hp → Prop} {sb m1 m2 : Bool} {a b : Addr} {xs ys : List V}
    (I : Inv X pins σ H s) (h1 : SqX X.K m1 H a xs) (h2 : SqX X.K m2 H b ys) (q : R (ItzM X.K sb m1 m2 a b) H) {g : Heap} {n : Nat} (hn : n = s.heap.objs.size)
    (gz : Zp sb g (n + 4) (n + 2) (n + 3) .none) (gT : IsPair g (n + 2) (.ref n) (.ref (n + 1))) (gO : IsPair g (n + 3) .none .none) (g1 : g.get? n = some (bgO m1 a)) (g2 : g.get? (n + 1) = some (bgO m2 b))
    (hk : ∀ c o, s.heap.get? c = some o → g.get? c = some o) : wpAny (model X.prog X.w) X.A (pyIter (.ref (n + 4))) (PIE X pins σ tg R) X.xe { s with heap := g } := by
  subst hn htg
  have I2 : Inv X pins σ H { s with heap := g } := I.kept (t' := s.toks) hk
  obtain ⟨us, _, p1, _⟩ := sqx I h1
  obtain ⟨ws, _, p2, _⟩ := sqx I h2
  obtain ⟨o1, e1, _⟩ := id p1
  obtain ⟨o2, e2, _⟩ := id p2
  have la := Heap.lt_size e1
  have lb := Heap.lt_size e2
  have D : Apart (s.heap.objs.size + 4) (s.heap.objs.size + 2) (s.heap.objs.size + 3) s.heap.objs.size (s.heap.objs.size + 1) a b := apart_of la lb
  refine pyIter_zip gz ⟨_, [s.heap.objs.size + 4, s.heap.objs.size + 2, s.heap.objs.size + 3, s.heap.objs.size, s.heap.objs.size + 1], _, _, H, rfl, I2, turn_zipM D, ⟨gz, gT, ⟨_, _, gO⟩, ⟨_, g1, by cases m1 <;> rfl, by cases m1 <;> rfl⟩, ⟨_, g2, by cases m2 <;> rfl, by cases m2 <;> rfl⟩⟩, fun c hc => ?_, q⟩
  have hle : s.heap.objs.size ≤ c := by
    simp only [List.mem_cons, List.not_mem_nil, or_false] at hc
    rcases hc with rfl | rfl | rfl | rfl | rfl
    · exact Nat.le_add_right _ _
    · exact Nat.le_add_right _ _
    · exact Nat.le_add_right _ _
    · exact Nat.le_refl _
    · exact Nat.le_add_right _ _
  exact I.fpOk hle (I.hok.fresh hle)
theorem pi_zipM {X : Cx} {e e2 : Expr} {ta : TA} {p pos tpos : Pos} {elts : List Expr} {kk : Nat} (hg : Gl X "zip") (hm : X.mg "zip" = none) (ha : PA X [e, e2] ta)
    (hs : starEach [e, e2] X.env = (false, eval e X.env) :: starEach [e2] X.env) (hs2 : starEach [e2] X.env = (false, eval e2 X.env) :: starEach [] X.env) :
    PI X (.Tuple elts kk tpos) (.Call (.Name "zip" p) [e, e2] [] pos) (iZipM X.K false ta) := by
  refine ⟨fun pins s σ H R I h => ?_⟩
  refine PyProof.Rows.Call_ (ld_blt I hg hm PyProof.Rows.boot_zip (PyProof.Rows.callWith_type1 (thn (ha.run pos pins s σ H _ I h) fun us s1 ⟨vs, H1, I1, r1, q1⟩ => ?_) hs (by rw [hs2]; rfl)))
  obtain ⟨a, b, xs, ys, m1, m2, rfl, h1, h2, q⟩ := q1
  obtain ⟨u1, u2, rfl, rr1, rr2⟩ := vals2 r1
  cases rr1
  cases rr2
  obtain ⟨us, _, p1, _⟩ := sqx I1 h1
  obtain ⟨ws, _, p2, _⟩ := sqx I1 h2
  exact zip_begins2 (begins a us.toArray) (begins b ws.toArray) p1 p2 fun h' gz gT gO g1 g2 _ hk => zip_begun rfl I1 h1 h2 q rfl gz gT gO g1 g2 hk
theorem pi_zipS {X : Cx} {e e2 : Expr} {ta : TA} {p pos tpos kp cp : Pos} {j : Nat} {elts : List Expr} {kk : Nat} (hg : Gl X "zip") (hm : X.mg "zip" = none) (ha : PA X [e, e2] ta)
    (hs : starEach [e, e2] X.env = (false, eval e X.env) :: starEach [e2] X.env) (hs2 : starEach [e2] X.env = (false, eval e2 X.env) :: starEach [] X.env) :
    PI X (.Tuple elts kk tpos) (.Call (.Name "zip" p) [e, e2] [⟨some "strict", .Constant (.bool true) j cp, kp⟩] pos) (iZipM X.K true ta) := by
  refine ⟨fun pins s σ H R I h => ?_⟩
  refine wpAny_Call_Name_kw (ld_blt I hg hm PyProof.Rows.boot_zip (callWith_typeK (thn (ha.run pos pins s σ H _ I h) fun us s1 ⟨vs, H1, I1, r1, q1⟩ => ?_) (by rw [hs]; rfl) (by rw [hs, hs2]; rfl) rfl rfl))
  refine PyProof.Rows.kws_cons (PyProof.Rows.Constant_bool (PyProof.Rows.kws_nil ?_))
  obtain ⟨a, b, xs, ys, m1, m2, rfl, h1, h2, q⟩ := q1
  obtain ⟨u1, u2, rfl, rr1, rr2⟩ := vals2 r1
  cases rr1
  cases rr2
  obtain ⟨us, _, p1, _⟩ := sqx I1 h1
  obtain ⟨ws, _, p2, _⟩ := sqx I1 h2
  show wpAny _ _ (call (.type "zip") [.ref a, .ref b] sKw) _ _ _
  have f1 : (bgO m1 a).isFreed = false := (begins a us.toArray).free
  have f2 : (bgO m2 b).isFreed = false := (begins b ws.toArray).free
  refine call_zipS (begins a us.toArray) (begins b ws.toArray) p1 p2 ?_
  have z1 : (s1.heap.push (bgO m1 a)).objs.size = s1.heap.objs.size + 1 := by rw [Heap.size_push]
  have z2 : ((s1.heap.push (bgO m1 a)).push (bgO m2 b)).objs.size = s1.heap.objs.size + 2 := by rw [Heap.size_push, z1]
  have z3 : (zT s1.heap (bgO m1 a) (bgO m2 b)).objs.size = s1.heap.objs.size + 3 := by rw [Heap.size_push, z2]
  have z4 : (zO s1.heap (bgO m1 a) (bgO m2 b)).objs.size = s1.heap.objs.size + 4 := by rw [Heap.size_push, z3]
  have gZ : (zZ true s1.heap (bgO m1 a) (bgO m2 b)).get? (zO s1.heap (bgO m1 a) (bgO m2 b)).objs.size = some { cls := .type "zip", data := .fields #[.none, .bool false, .bool true, .ref ((s1.heap.push (bgO m1 a)).push (bgO m2 b)).objs.size, .ref (zT s1.heap (bgO m1 a) (bgO m2 b)).objs.size] } := Heap.get?_push_size _ rfl
  have gO : (zZ true s1.heap (bgO m1 a) (bgO m2 b)).get? (zT s1.heap (bgO m1 a) (bgO m2 b)).objs.size = some { cls := .type "tuple", data := .seq #[.none, .none] } := Heap.get?_push_of_some _ (Heap.get?_push_size _ rfl)
  have gT : (zZ true s1.heap (bgO m1 a) (bgO m2 b)).get? ((s1.heap.push (bgO m1 a)).push (bgO m2 b)).objs.size = some { cls := .type "tuple", data := .seq #[.ref s1.heap.objs.size, .ref (s1.heap.push (bgO m1 a)).objs.size] } := Heap.get?_push_of_some _ (Heap.get?_push_of_some _ (Heap.get?_push_size _ rfl))
  have g1 : (zZ true s1.heap (bgO m1 a) (bgO m2 b)).get? s1.heap.objs.size = some (bgO m1 a) := Heap.get?_push_of_some _ (Heap.get?_push_of_some _ (Heap.get?_push_of_some _ (Heap.get?_push_of_some _ (Heap.get?_push_size _ f1))))
  have g2 : (zZ true s1.heap (bgO m1 a) (bgO m2 b)).get? (s1.heap.push (bgO m1 a)).objs.size = some (bgO m2 b) := Heap.get?_push_of_some _ (Heap.get?_push_of_some _ (Heap.get?_push_of_some _ (Heap.get?_push_size _ f2)))
  rw [z4, z3, z2] at gZ
  rw [z3] at gO
  rw [z2, z1] at gT
  rw [z1] at g2
  rw [z4]
  exact zip_begun rfl I1 h1 h2 q rfl gZ gT gO g1 g2 fun c o e => Heap.get?_push_of_some _ (Heap.get?_push_of_some _ (Heap.get?_push_of_some _ (Heap.get?_push_of_some _ (Heap.get?_push_of_some _ e))))
end Sw
set_option maxRecDepth 100000
set_option maxHeartbeats 4000000
/-! Sw: enumerate walked; zip and enumerate come to their pairs. -/
namespace Sw
open PySem L2 SwZ
def IteM (K : PySem.W.Frag) (m : Bool) (a : Addr) : It :=
  ⟨fun i H => ∃ (xs : List V) (x : V), SqX K m H a xs ∧ xs[i]? = some x, fun i H v H' => ∃ T x, v = .ref T ∧ H T = none ∧ H' = upd H T (.tup [.int (i : Nat), x]) ∧ ∀ xs, SqX K m H a xs → xs[i]? = some x,
    fun i H => ∃ xs : List V, SqX K m H a xs ∧ xs.length = i⟩
theorem draws_of {prog : Program} {w : World} {A : Around} (hh : A.handled = none) (m : Bool) (it l : Addr) (hne : l ≠ it) (items : Array Value) :
    Draws prog w A it [it, l] items.size (fun i v => items[i]? = some v) (fun i h => IsIt m h it l i ∧ IsSq m h l items) := by
  cases m with
  | true => exact Draws.tuple hh it l hne items
  | false => exact Draws.list hh it l hne items
theorem turn_enumM {P : Program} {w : World} {K : PySem.W.Frag} {elts : List Expr} {kk : Nat} {tpos : Pos} {m : Bool} {a e it : Addr} (hei : e ≠ it) (hea : e ≠ a) (hai : a ≠ it) :
    Turn P w K (.Tuple elts kk tpos) (IteM K m a) [e, it] e (fun i h => (∃ old, IsEnum h e it ((i : Nat) : Int) old) ∧ IsIt m h it a i) where
  mem := by simp
  obj := fun i h st b hb => by
    obtain ⟨⟨old, he⟩, ⟨o, ho, hc, hd⟩⟩ := st
    simp only [List.mem_cons, List.not_mem_nil, or_false] at hb
    rcases hb with rfl | rfl
    · exact ⟨_, he, fun v q => nomatch q⟩
    · exact ⟨o, ho, fun v q => by rw [hd] at q; cases q⟩
  keep := fun i h h' st k => let ⟨⟨old, he⟩, hi⟩ := st; ⟨⟨old, k e (by simp) _ he⟩, hi.on (k it (by simp))⟩
  item := by
    intro X hP hw hK hc i pins s σ H E I hf st hg
    subst hP hw hK
    obtain ⟨⟨old, he⟩, hit⟩ := st
    obtain ⟨xs, x, hq, hx⟩ := hg
    obtain ⟨us, ru, p, hz⟩ := sqx I hq
    obtain ⟨u, hu, r1⟩ := ru.get hx
    have hi : i < us.length := (List.getElem?_eq_some_iff.mp hu).1
    have Wk := WalksT.enumFrom (prog := X.prog) (w := X.w) (A := X.A) 0 (draws_of (A := X.A.in1) (I.ok.hd hc) m it a hai us.toArray) e hei (by simp [hei, hea]) (by simp)
    refine Wk.item i s _ _ (by simpa using hi) ⟨⟨old, by rw [Int.zero_add]; exact he⟩, hit, p⟩ fun T vals h' tk hv hT hTup hmid hk => ?_
    refine ⟨_, rfl, Wk.go _ _ _ i T { s with heap := h', toks := tk } _ _ hmid fun h'' st2 hk2 => ?_⟩
    obtain ⟨t, y, hy, rfl⟩ := hv
    have yu : y = u := by
      have : us[i]? = some y := by simpa using hy
      rw [hu] at this
      exact (Option.some.inj this).symm
    subst yu
    have hT' : T ∉ [e, it] := Wk.apart _ _ _ hmid
    obtain ⟨o, ho, hoc, n, hod⟩ := hTup
    have new : ObjOk X.prog X.w (upd H T (.tup [.int (i : Nat), x])) h'' T (.tup [.int (i : Nat), x]) :=
      ⟨by show 2 ≤ sizeLine; decide, [.int (0 + (i : Int)) t, y], .cons ⟨t, by rw [Int.zero_add]⟩ (.cons r1 .nil), ⟨o, hk2 T o hT' ho, hoc, n, hod⟩⟩
    have I1 : Inv X pins σ (upd H T (.tup [.int (i : Nat), x])) { s with heap := h'', toks := tk } := I.turnedNew (ch := [e, it]) (fun b ob hb q => hk2 b ob hb (hk b ob hb q)) hf hT new
    refine ⟨.ref T, _, I1, rfl, ⟨_, x, rfl, I.hok.fresh hT, rfl, fun ys hy => by rw [sqx_inj I hy hq]; exact hx⟩, ?_, fun b hb => ?_⟩
    · obtain ⟨⟨old2, q1⟩, q2, _⟩ := st2
      exact ⟨⟨old2, by rw [Int.zero_add] at q1; exact q1⟩, q2⟩
    · have hb' : b ≠ T := fun z => hT' (z ▸ hb)
      rw [upd_ne hb']
      exact (hf b hb).1
  done := by
    intro X hP hw hK hc i pins s σ H E I hf st hg
    subst hP hw hK
    obtain ⟨⟨old, he⟩, hit⟩ := st
    obtain ⟨xs, hq, hx⟩ := hg
    obtain ⟨us, ru, p, hz⟩ := sqx I hq
    have hl := ru.length
    have en : us.toArray.size = i := by simp; omega
    subst en
    have Wk := WalksT.enumFrom (prog := X.prog) (w := X.w) (A := X.A) 0 (draws_of (A := X.A.in1) (I.ok.hd hc) m it a hai us.toArray) e hei (by simp [hei, hea]) (by simp)
    exact Wk.done s _ _ ⟨⟨old, by rw [Int.zero_add]; exact he⟩, hit, p⟩ fun h' tk hk => ⟨rfl, I.turnedL (ch := [e, it]) (fun b ob hb q => hk b ob hb q) hf⟩
  self := fun A i s Q E st h => let ⟨⟨_, he⟩, _⟩ := st; wpAny_pyIter_enum he h
theorem meets_en1 {v : Value} {o : Obj} {H : Heap → Prop} (B : Begins v o H) :
    Meets (Builtin.«enumerate.__new__» ⟨[.type "enumerate", v], []⟩) (fun _ R s => H s.heap ∧
      R (.ok (.ret (.ref (s.heap.push o).objs.size))) { s with heap := (s.heap.push o).push { cls := .type "enumerate", data := .fields #[.none, .bool false, .ref s.heap.objs.size, rawInt 0, .none, .none] } }) :=
  .of_wp fun prog w A R s h => by
    obtain ⟨hp, g, d, tk, os⟩ := s; obtain ⟨h1, h⟩ := h
    have hsub := sub_enumerate
    have q1 : ∀ {A' : Around} {E : Value → Shared → Prop} {Q : Value → Shared → Prop}, Q (.ref hp.objs.size) ⟨hp.push o, g, d, tk, os⟩ → wpAny (model prog w) A' (pyIter v) Q E ⟨hp, g, d, tk, os⟩ :=
      fun q => B.iter prog w _ _ ⟨hp, g, d, tk, os⟩ _ h1 q
    wp_walk using q1
    refine wpAny_stack_any fun st => wpAny_pure ?_
    split
    · rename_i c _ _ _ _ _
      cases (c == Value.type "enumerate")
      · wp_walk using q1
        exact ⟨_, rfl, h⟩
      · wp_walk using q1
        exact ⟨_, rfl, h⟩
    · wp_walk using q1
      exact ⟨_, rfl, h⟩
def iEnumM (K : PySem.W.Frag) (ta : TA) : TI := fun σ H R => ta σ H fun vs H1 => ∃ a xs m, vs = [.ref a] ∧ SqX K m H1 a xs ∧ R (IteM K m a) H1
theorem pi_enumM {X : Cx} {e : Expr} {ta : TA} {p pos tpos : Pos} {elts : List Expr} {kk : Nat} (hg : Gl X "enumerate") (hm : X.mg "enumerate" = none) (ha : PA X [e] ta) (hs : starEach [e] X.env = (false, eval e X.env) :: starEach [] X.env) :
    PI X (.Tuple elts kk tpos) (.Call (.Name "enumerate" p) [e] [] pos) (iEnumM X.K ta) := by
  refine ⟨fun pins s σ H R I h => ?_⟩
  refine PyProof.Rows.Call_ (ld_blt I hg hm PyProof.Rows.boot_enumerate (PyProof.Rows.callWith_type1 (thn (ha.run pos pins s σ H _ I h) fun us s1 ⟨vs, H1, I1, r1, q1⟩ => ?_) hs rfl))
  obtain ⟨a, xs, m, rfl, h1, q⟩ := q1
  obtain ⟨u1, rfl, rr1⟩ := vals1 r1
  cases rr1
  obtain ⟨us, _, p1, _⟩ := sqx I1 h1
  obtain ⟨o1, e1, _⟩ := id p1
  have la : (a : Nat) < s1.heap.objs.size := Heap.lt_size e1
  have B := begins (m := m) a us.toArray
  refine callType_new F.called_enumerate (by decide) (F.typeCall_enumerate_1 _) (F.newCall_enumerate_1 _) (fun obj => F.args_object_init_2 obj _) F.entry_enumerate_new (meets_en1 B) ⟨p1, ?_⟩
  have hz : (s1.heap.push (bgO m a)).objs.size = s1.heap.objs.size + 1 := Heap.size_push ..
  have he := Heap.get?_push_size (s1.heap.push (bgO m a)) (o := { cls := .type "enumerate", data := .fields #[.none, .bool false, .ref s1.heap.objs.size, rawInt 0, .none, .none] }) rfl
  have hb := Heap.get?_push_of_some (h := s1.heap.push (bgO m a)) { cls := .type "enumerate", data := .fields #[.none, .bool false, .ref s1.heap.objs.size, rawInt 0, .none, .none] } (Heap.get?_push_size s1.heap (o := bgO m a) B.free)
  rw [hz] at he
  have I2 : Inv X pins σ H1 { s1 with heap := (s1.heap.push (bgO m a)).push { cls := .type "enumerate", data := .fields #[.none, .bool false, .ref s1.heap.objs.size, rawInt 0, .none, .none] } } := I1.kept (t' := s1.toks) fun b o e => Heap.get?_push_of_some _ (Heap.get?_push_of_some _ e)
  show _ ∧ _
  rw [hz]
  refine ⟨⟨_, he, rfl⟩, ?_⟩
  have n1 : ∀ n : Nat, n + 1 ≠ n := fun n => by omega
  have n2 : ∀ n x : Nat, x < n → n + 1 ≠ x := fun n x h => by omega
  have n3 : ∀ n x : Nat, x < n → x ≠ n := fun n x h => by omega
  refine wpAny_pyIter_enum he ⟨_, [s1.heap.objs.size + 1, s1.heap.objs.size], _, _, H1, rfl, I2, turn_enumM (n1 _) (n2 _ _ la) (n3 _ _ la), ⟨⟨.none, he⟩, ⟨_, hb, by cases m <;> rfl, by cases m <;> rfl⟩⟩, fun c hc => ?_, q⟩
  have hle : s1.heap.objs.size ≤ c := by
    simp only [List.mem_cons, List.not_mem_nil, or_false] at hc
    rcases hc with rfl | rfl
    · exact Nat.le_add_right _ _
    · exact Nat.le_refl _
  exact I1.fpOk hle (I1.hok.fresh hle)
end Sw
set_option maxRecDepth 100000
set_option maxHeartbeats 4000000
/-! Sw: zip and enumerate come to their pairs; comprehensions; statements. -/
namespace Sw
open PySem L2 SwZ
variable {W : Ab} {J : JW}
theorem seqX_ok {F0 : Hp} {M0 : MM} {H0 : Hp} {v : V} {d : D} {xs : List D} (c0 : Conc W F0 M0 H0) (r : Rp W F0 v d) (e : seqOf M0 d = some xs) :
    ∃ a m, v = .ref a ∧ ∀ {F M H}, Conc W F M H → Stp F0 M0 H0 F M H → stays M0 d M → ∃ vs, SqX W.K m H a vs ∧ Rps W F vs xs := by
  have r0 := r
  cases r with
  | @tup a vs ds h q =>
    cases e
    exact ⟨a, true, rfl, fun {F M H} c s _ => ⟨vs, c.ex.t (s.f.t h), q.up s.f⟩⟩
  | @lst a vs ds h q =>
    cases e
    exact ⟨a, false, rfl, fun {F M H} c s _ => ⟨vs, .inl (.inl (c.ex _ _ (s.f _ _ h))), q.up s.f⟩⟩
  | @frl a vs ds h q =>
    cases e
    exact ⟨a, false, rfl, fun {F M H} c s _ => ⟨vs, c.ex.l (s.f.l h), q.up s.f⟩⟩
  | loc a =>
    refine ⟨a, false, rfl, fun {F M H} c s st => ?_⟩
    obtain ⟨e', r'⟩ := stays_ok c0 r0 e c s st
    obtain ⟨b, vs, h1, h2, h3⟩ := seq_ok c r' e'
    cases h1
    rcases h3 with h3 | ⟨_, h3⟩
    · exact ⟨vs, h3, h2⟩
    · cases h3
  | _ => cases e
theorem pairs_at : ∀ {xs ys : List D} {i : Nat} {x y : D}, xs[i]? = some x → ys[i]? = some y → (pairs xs ys)[i]? = some (.tup [x, y])
  | [], _, _, _, _, h, _ => by simp at h
  | _ :: _, [], _, _, _, _, h => by simp at h
  | a :: xs, b :: ys, 0, x, y, h1, h2 => by simp at h1 h2; subst h1 h2; rfl
  | a :: xs, b :: ys, i + 1, x, y, h1, h2 => by
    simp only [pairs, List.getElem?_cons_succ]
    exact pairs_at (by simpa using h1) (by simpa using h2)
theorem pairs_len : ∀ (xs ys : List D), (pairs xs ys).length = min xs.length ys.length
  | [], _ => by simp [pairs]
  | _ :: _, [] => by simp [pairs]
  | a :: xs, b :: ys => by simp [pairs, pairs_len xs ys]
theorem numbered_at : ∀ {xs : List D} {n i : Nat} {x : D}, xs[i]? = some x → (numbered n xs)[i]? = some (.tup [.int ((n + i : Nat) : Int), x])
  | [], _, _, _, h => by simp at h
  | a :: xs, n, 0, x, h => by simp at h; subst h; simp [numbered]
  | a :: xs, n, i + 1, x, h => by
    simp only [numbered, List.getElem?_cons_succ]
    rw [numbered_at (by simpa using h), show n + 1 + i = n + (i + 1) by omega]
theorem numbered_len : ∀ (n : Nat) (xs : List D), (numbered n xs).length = xs.length
  | _, [] => rfl
  | n, a :: xs => by simp [numbered, numbered_len (n + 1) xs]
theorem simI_zip {s : Sm} {ta tb : TE} {a b : C} {sb : Bool} (ha : SimE W J ta (wE s a)) (hb : SimE W J tb (wE s b)) : SimI W J (iZipM W.K sb (tCons ta (tCons tb tNil))) (wI s (.zip sb a b)) := fun {F M H σ Γ Φ R} j c e w k => by
  simp only [wI] at w
  refine ha j c e w fun x d F1 M1 H1 c1 s1 r1 w1 => ?_
  refine hb (J.step j s1) c1 (e.up s1.f) w1 fun y d2 F2 M2 H2 c2 s2 r2 w2 => ?_
  have r1 := r1.up s2.f
  split at w2
  · rename_i xs ys e1 e2
    obtain ⟨p, m1, rfl, hp⟩ := seqX_ok c2 r1 e1
    obtain ⟨q, m2, rfl, hq⟩ := seqX_ok c2 r2 e2
    have st1 : ∀ {z : D} {us : List D}, seqOf M2 z = some us → stays M2 z M2 := fun {z us} ez => by
      cases z with
      | loc l =>
        simp only [seqOf] at ez
        split at ez
        · rename_i ks hm; simp only [stays, hm]
        · cases ez
      | _ => trivial
    obtain ⟨vs, v1, v2⟩ := hp c2 Stp.refl (st1 e1)
    obtain ⟨us, u1, u2⟩ := hq c2 Stp.refl (st1 e2)
    refine ⟨p, q, vs, us, m1, m2, rfl, v1, u1, k (pairs xs ys) _ _ F2 M2 H2 c2 (s1.trans s2) ⟨fun i F3 M3 H3 hi c3 s3 st => ?_, fun F3 M3 H3 c3 s3 st => ?_, fun i F3 M3 H3 x H' hi c3 s3 st y => ?_⟩ w2.2⟩
    · obtain ⟨vs, v1, v2⟩ := hp c3 s3 st.1
      obtain ⟨us, u1, u2⟩ := hq c3 s3 st.2
      have l1 := v2.length
      have l2 := u2.length
      rw [pairs_len] at hi
      exact ⟨vs, us, vs[i]'(by omega), us[i]'(by omega), v1, u1, List.getElem?_eq_getElem _, List.getElem?_eq_getElem _⟩
    · obtain ⟨vs, v1, v2⟩ := hp c3 s3 st.1
      obtain ⟨us, u1, u2⟩ := hq c3 s3 st.2
      have l1 := v2.length
      have l2 := u2.length
      rw [pairs_len]
      refine ⟨vs, us, v1, u1, by omega, fun z => ?_⟩
      have := w2.1 z
      omega
    · obtain ⟨vs, v1, v2⟩ := hp c3 s3 st.1
      obtain ⟨us, u1, u2⟩ := hq c3 s3 st.2
      obtain ⟨T, x0, y0, rfl, hT, rfl, hx, hy⟩ := y
      obtain ⟨d1, e3, r3⟩ := v2.getV (hx vs v1)
      obtain ⟨d2, e4, r4⟩ := u2.getV (hy us u1)
      obtain ⟨c4, s4⟩ := c3.know hT (.tup [x0, y0])
      exact ⟨_, _, c4, s4, .tup (.inl (.inl upd_same)) (.cons (r3.up s4.f) (.cons (r4.up s4.f) .nil)), pairs_at e3 e4⟩
  · exact w2.elim
theorem simI_enum {s : Sm} {ta : TE} {a : C} (ha : SimE W J ta (wE s a)) : SimI W J (iEnumM W.K (tCons ta tNil)) (wI s (.enum a)) := fun {F M H σ Γ Φ R} j c e w k => by
  simp only [wI] at w
  refine ha j c e w fun x d F2 M2 H2 c2 s2 r1 w2 => ?_
  split at w2
  · rename_i xs e1
    obtain ⟨p, m1, rfl, hp⟩ := seqX_ok c2 r1 e1
    have st1 : stays M2 d M2 := by
      cases d with
      | loc l =>
        simp only [seqOf] at e1
        split at e1
        · rename_i ks hm; simp only [stays, hm]
        · cases e1
      | _ => trivial
    obtain ⟨vs, v1, v2⟩ := hp c2 Stp.refl st1
    refine ⟨p, vs, m1, rfl, v1, k (numbered 0 xs) _ _ F2 M2 H2 c2 s2 ⟨fun i F3 M3 H3 hi c3 s3 st => ?_, fun F3 M3 H3 c3 s3 st => ?_, fun i F3 M3 H3 x H' hi c3 s3 st y => ?_⟩ w2⟩
    · obtain ⟨vs, v1, v2⟩ := hp c3 s3 st
      have l1 := v2.length
      rw [numbered_len] at hi
      exact ⟨vs, vs[i]'(by omega), v1, List.getElem?_eq_getElem _⟩
    · obtain ⟨vs, v1, v2⟩ := hp c3 s3 st
      have l1 := v2.length
      rw [numbered_len]
      exact ⟨vs, v1, l1⟩
    · obtain ⟨vs, v1, v2⟩ := hp c3 s3 st
      obtain ⟨T, x0, rfl, hT, rfl, hx⟩ := y
      obtain ⟨d1, e3, r3⟩ := v2.getV (hx vs v1)
      obtain ⟨c4, s4⟩ := c3.know hT (.tup [.int (i : Nat), x0])
      refine ⟨_, _, c4, s4, .tup (.inl (.inl upd_same)) (.cons (.int _) (.cons (r3.up s4.f) .nil)), ?_⟩
      have := numbered_at (n := 0) e3
      rw [Nat.zero_add] at this
      exact this
  · exact w2.elim
/-! ### comprehensions -/
theorem simE_lc {s : Sm} {own : Bool} {wi : TI} {g : TG} {tt : TT} {te : TE} {elt : C} {G0 : G} {src : I} {ifs : Co} {vs : List Nat} (hi : SimI W J wi (wI s src)) (hg : SimG W J g (wG s G0))
    (hw : ∀ v σ H Q, g v (L2.wipe σ vs) H Q → g v (L2.wipe σ vs) H fun σ2 H2 => L2.wipe σ2 vs = L2.wipe σ vs ∧ Q σ2 H2) (ht : SimT W J tt (wIf s ifs)) (he : SimE W J te (wE s elt)) :
    SimE W J (tLc wi g tt te vs) (wE s (.lc own elt G0 src ifs vs)) := fun {F M H σ Γ Φ Q} j c e w k => by
  simp only [wE] at w
  refine hi j c e w fun items st It F1 M1 H1 c1 s1 it w1 => ?_
  intro Dl hD
  obtain ⟨hz, w1⟩ := w1
  obtain ⟨hF1, hM1⟩ := c1.fresh hD
  have e1 := e.up s1.f
  have j1 := J.step j s1
  let step : D → MM → (Option D → MM → Prop) → Prop := fun x M2 k => wG s G0 x (wipeD Γ vs) M2 fun Γ1 M3 => wipeD Γ1 vs = wipeD Γ vs ∧ wIf s ifs Γ1 M3 fun b M4 => if b = true then wE s elt Γ1 M4 (fun d M5 => k (some d) M5) else k none M4
  let fin : List D → MM → Prop := fun ds M2 => newL own ds M2 Φ
  let St : Nat → Hp → Prop := fun i G => ∃ (F2 : Hp) (M2 : MM) (acc : List D) (us : List V), Conc W F2 M2 G ∧ Stp F1 M1 H1 F2 M2 G ∧ F2 Dl = none ∧ M2 Dl = none ∧ G Dl = some (.lst us) ∧ Rps W F2 us acc ∧ acc.length ≤ i ∧ i ≤ items.length ∧
    lcRun st step (items.drop i) acc M2 fin
  refine ⟨fun i m G => m = items.length - i ∧ St i G, ⟨_, rfl, F1, M1, [], [], conc_foreign c1 hF1 hM1, stp_foreign Stp.refl hD, hF1, hM1, upd_same, .nil, Nat.le_refl _, Nat.zero_le _, w1⟩, ?_⟩
  rintro i m G ⟨rfl, F2, M2, acc, us, c2, s2, f2, m2, g2, r2, hl, hi', run⟩
  by_cases hlt : i < items.length
  · obtain ⟨d, hd⟩ : ∃ d, items[i]? = some d := ⟨items[i], List.getElem?_eq_getElem hlt⟩
    have hdrop : items.drop i = d :: items.drop (i + 1) := by
      rw [List.drop_eq_getElem_cons hlt]
      congr 1
      rw [List.getElem?_eq_getElem hlt] at hd
      exact Option.some.inj hd
    rw [hdrop] at run
    obtain ⟨hst, run⟩ := run
    refine .inr ⟨it.go i F2 M2 G hlt c2 s2 hst, St (i + 1), fun H' n => ⟨items.length - (i + 1), by omega, rfl, n⟩, fun x H' y => ?_⟩
    obtain ⟨F3, d', c3, s3, r3, hd'⟩ := it.yld i F2 M2 G x H' hlt c2 s2 hst y
    rw [hd] at hd'
    cases hd'
    have s13 := s2.trans s3
    have gD : G Dl ≠ none := by rw [g2]; exact fun z => nomatch z
    have f3 : F3 Dl = none := s3.nf Dl gD f2 m2
    have h3 : H' Dl = some (.lst us) := s3.k Dl _ g2 m2
    refine hw x σ H' _ (hg (J.step j1 s13) c3 ((e1.up s13.f).wipe vs) r3 run fun σ4 Γ4 F4 M4 H4 c4 s4 e4 w4 => ?_)
    obtain ⟨_, w4⟩ := w4
    have s14 := s13.trans s4
    refine ht (J.step j1 s14) c4 e4 w4 fun b F5 M5 H5 c5 s5 w5 => ?_
    have s15 := s14.trans s5
    have s35 := s4.trans s5
    have f5 : F5 Dl = none := s35.nf Dl (by rw [h3]; exact fun z => nomatch z) f3 m2
    have noM : ∀ {F' M' H''}, Stp F3 M2 H' F' M' H'' → M' Dl = none := fun {F' M' H''} z => by
      cases q : M' Dl with
      | none => rfl
      | some u =>
        rcases z.nm Dl (by rw [q]; exact fun z => nomatch z) with a | a
        · exact absurd m2 a
        · rw [h3] at a; cases a
    cases b with
    | true =>
      refine he (J.step j1 s15) c5 (e4.up s5.f) w5 fun v d6 F6 M6 H6 c6 s6 r6 w6 => ?_
      have s36 := s35.trans s6
      have f6 : F6 Dl = none := s36.nf Dl (by rw [h3]; exact fun z => nomatch z) f3 m2
      have h6 : H6 Dl = some (.lst us) := s36.k Dl _ h3 m2
      refine ⟨us, h6, by rw [r2.length]; exact Nat.lt_of_le_of_lt hl (Nat.lt_trans hlt hz), F6, M6, acc ++ [d6], us ++ [v], conc_foreign c6 f6 (noM s36), stp_foreign (s15.trans s6) hD, f6, noM s36, upd_same, ((r2.up s3.f).up s36.f).append (.cons r6 .nil), by simp; omega, hlt, w6⟩
    | false =>
      have h5 : H5 Dl = some (.lst us) := s35.k Dl _ h3 m2
      have w5' : lcRun st step (items.drop (i + 1)) (acc ++ []) M5 fin := w5
      rw [List.append_nil] at w5'
      exact ⟨F5, M5, acc, us, c5, s15, f5, noM s35, h5, (r2.up s3.f).up s35.f, Nat.le_succ_of_le hl, hlt, w5'⟩
  · have hi2 : i = items.length := Nat.le_antisymm hi' (Nat.le_of_not_lt hlt)
    subst hi2
    rw [List.drop_length] at run
    obtain ⟨hst, run⟩ := run
    refine .inl ⟨it.stop F2 M2 G c2 s2 hst, ?_⟩
    have sH : Stp F M H F2 M2 G := s1.trans s2
    have hH : H Dl = none := by
      cases q : H Dl with
      | none => rfl
      | some u => exact absurd hD (s1.t Dl (by rw [q]; exact fun z => nomatch z))
    have hf : newL own acc M2 Φ := run
    obtain ⟨hsz, hf⟩ := hf
    cases own with
    | true => exact k (.ref Dl) (.loc Dl) F2 (mset M2 Dl (.lst acc)) G (c2.adoptM f2 m2 ⟨us, g2, r2⟩) (stp_adoptM sH hH) (.loc Dl) (hf Dl m2)
    | false => exact k (.ref Dl) (.lst acc) _ M2 G (c2.adopt f2 m2 g2) (stp_adopt sH hH f2) (.lst upd_same (r2.up (Ex.upd f2))) hf
end Sw
set_option maxRecDepth 100000
set_option maxHeartbeats 4000000
/-! Sw: statements. -/
namespace Sw
open PySem L2 SwZ
variable {W : Ab} {J : JW}
theorem simS_asg {s : Sm} {te : TE} {g : TG} {e : C} {g0 : G} (he : SimE W J te (wE s e)) (hg : SimG W J g (wG s g0)) : SimS W J (tAsg te g) (wS s (.asg g0 e)) := fun {F M H σ Γ k D} j c ev w ends => by
  simp only [wS] at w
  refine he j c ev w fun x d F1 M1 H1 c1 s1 r1 w1 => ?_
  exact hg (J.step j s1) c1 (ev.up s1.f) r1 w1 fun σ2 Γ2 F2 M2 H2 c2 s2 e2 w2 => ends.nx σ2 Γ2 F2 M2 H2 c2 (s1.trans s2) e2 w2
theorem simS_fld {s : Sm} {to te : TE} {o e : C} {f : Str} (ho : SimE W J to (wE s o)) (he : SimE W J te (wE s e)) (hf : f ∈ W.flds) : SimS W J (sFld W.K to te f) (wS s (.asg (.fld o f) e)) := fun {F M H σ Γ k D} j c ev w ends => by
  simp only [wS, wG] at w
  refine he j c ev w fun y d F1 M1 H1 c1 s1 r1 w1 => ?_
  refine ho (J.step j s1) c1 (ev.up s1.f) w1 fun x od F2 M2 H2 c2 s2 r2 w2 => ?_
  have s12 := s1.trans s2
  unfold wSetF at w2
  split at w2
  · rename_i a
    split at w2
    · rename_i cn fs hm
      cases r2
      obtain ⟨_, C, dx, vfs, hc, h1, h2, h3⟩ := c2.cell a _ hm
      obtain ⟨w3, w4⟩ := w2
      have hl : vfs.length = fs.length := by have := congrArg List.length h2; simpa using this
      obtain ⟨c', s'⟩ := c2.put (x := .ins cn (setF f d fs)) (o := .ins C dx (putF f y vfs)) hm ⟨C, dx, _, hc, upd_same, setF_keys h2, setF_vals (r1.up s2.f) h2 h3⟩
      exact ⟨a, C, dx, vfs, rfl, h1, W.okC _ _ hc, W.noat _ _ _ hc hf, by rw [hl]; exact w3, ends.nx _ Γ _ _ _ c' (s12.trans s') (ev.up (s12.trans s').f) w4⟩
    · exact w2.elim
  · exact w2.elim
theorem simS_par2 {s : Sm} {ta tb : TE} {a b : C} {i l : Nat} (ha : SimE W J ta (wE s a)) (hb : SimE W J tb (wE s b)) : SimS W J (tPar i l (tCons ta (tCons tb tNil))) (wS s (.par2 i l a b)) := fun {F M H σ Γ k D} j c ev w ends => by
  simp only [wS] at w
  refine ha j c ev w fun x d F1 M1 H1 c1 s1 r1 w1 => ?_
  refine hb (J.step j s1) c1 (ev.up s1.f) w1 fun y d2 F2 M2 H2 c2 s2 r2 w2 => ?_
  have s12 := s1.trans s2
  exact ⟨x, y, rfl, ends.nx _ _ F2 M2 H2 c2 s12 (((ev.up s12.f).set (r1.up s2.f) i).set r2 l) w2⟩
theorem simS_par3 {s : Sm} {ta tb tc : TE} {a b c0 : C} {i l m : Nat} (ha : SimE W J ta (wE s a)) (hb : SimE W J tb (wE s b)) (hc : SimE W J tc (wE s c0)) : SimS W J (tPar3 i l m (tCons ta (tCons tb (tCons tc tNil)))) (wS s (.par3 i l m a b c0)) := fun {F M H σ Γ k D} j c ev w ends => by
  simp only [wS] at w
  refine ha j c ev w fun x d F1 M1 H1 c1 s1 r1 w1 => ?_
  refine hb (J.step j s1) c1 (ev.up s1.f) w1 fun y d2 F2 M2 H2 c2 s2 r2 w2 => ?_
  have s12 := s1.trans s2
  refine hc (J.step j s12) c2 (ev.up s12.f) w2 fun z d3 F3 M3 H3 c3 s3 r3 w3 => ?_
  have s13 := s12.trans s3
  have s23 := s2.trans s3
  exact ⟨x, y, z, rfl, ends.nx _ _ F3 M3 H3 c3 s13 ((((ev.up s13.f).set (r1.up s23.f) i).set (r2.up s3.f) l).set r3 m) w3⟩
def rAug : Operator → R2
  | .Add => rI0 fun i j => .int (i + j)
  | .Sub => rI0 fun i j => .int (i - j)
  | .Mult => rI CMul fun i j => .int (i * j)
  | _ => fun _ _ _ _ => False
theorem op_aug {X : Cx} : ∀ op : Operator, OpR X (inplaceOp op) (rAug op)
  | .Add => iop_add
  | .Sub => iop_sub
  | .Mult => iop_mul
  | .MatMult => fun _ _ _ _ _ _ _ _ _ _ _ _ h => h.elim
  | .Div => fun _ _ _ _ _ _ _ _ _ _ _ _ h => h.elim
  | .Mod => fun _ _ _ _ _ _ _ _ _ _ _ _ h => h.elim
  | .Pow => fun _ _ _ _ _ _ _ _ _ _ _ _ h => h.elim
  | .LShift => fun _ _ _ _ _ _ _ _ _ _ _ _ h => h.elim
  | .RShift => fun _ _ _ _ _ _ _ _ _ _ _ _ h => h.elim
  | .BitOr => fun _ _ _ _ _ _ _ _ _ _ _ _ h => h.elim
  | .BitXor => fun _ _ _ _ _ _ _ _ _ _ _ _ h => h.elim
  | .BitAnd => fun _ _ _ _ _ _ _ _ _ _ _ _ h => h.elim
  | .FloorDiv => fun _ _ _ _ _ _ _ _ _ _ _ _ h => h.elim
theorem sim_aug (op : Operator) : SimR W J (rAug op) (wAug op) := simR_imp fun {F M H x y d e Φ Q} c rx ry w k => by
  unfold wAug at w
  split at w
  · split at w
    · cases rx; cases ry
      exact ⟨_, _, rfl, rfl, k _ _ _ _ _ c Stp.refl (.int _) w⟩
    · exact w.elim
  · split at w
    · cases rx; cases ry
      exact ⟨_, _, rfl, rfl, k _ _ _ _ _ c Stp.refl (.int _) w⟩
    · exact w.elim
  · split at w
    · cases rx; cases ry
      exact ⟨_, _, rfl, rfl, w.1, k _ _ _ _ _ c Stp.refl (.int _) w.2⟩
    · exact w.elim
  · exact w.elim
theorem simS_aug {s : Sm} {te : TE} {e : C} {i : Nat} {op : Operator} (he : SimE W J te (wE s e)) : SimS W J (tAug i te (rAug op)) (wS s (.aug i op e)) := fun {F M H σ Γ k D} j c ev w ends => by
  simp only [wS] at w
  split at w
  · rename_i d hd
    obtain ⟨v, h1, h2⟩ := ev.at_ i d (getE_some hd)
    refine ⟨v, h1, he j c ev w fun y d2 F1 M1 H1 c1 s1 r1 w1 => ?_⟩
    exact sim_aug op (J.step j s1) c1 (h2.up s1.f) r1 w1 fun z d3 F2 M2 H2 c2 s2 r2 w2 => ends.nx _ _ F2 M2 H2 c2 (s1.trans s2) ((ev.up (s1.trans s2).f).set r2 i) w2
  · exact w.elim
theorem simS_augS {s : Sm} {to ti te : TE} {o i e : C} {op : Operator} (ho : SimE W J to (wE s o)) (hi : SimE W J ti (wE s i)) (he : SimE W J te (wE s e)) : SimS W J (tAugS to ti te (rIx W.K) (rAug op) rSetL) (wS s (.augS o i op e)) := fun {F M H σ Γ k D} j c ev w ends => by
  simp only [wS] at w
  refine ho j c ev w fun x1 d1 F1 M1 H1 c1 s1 r1 w1 => ?_
  refine hi (J.step j s1) c1 (ev.up s1.f) w1 fun x2 d2 F2 M2 H2 c2 s2 r2 w2 => ?_
  have t2 := s1.trans s2
  refine sim_ixA (J.step j t2) c2 (r1.up s2.f) r2 w2 fun x3 d3 F3 M3 H3 c3 s3 r3 w3 => ?_
  have t3 := t2.trans s3
  refine he (J.step j t3) c3 (ev.up t3.f) w3 fun x4 d4 F4 M4 H4 c4 s4 r4 w4 => ?_
  have t4 := t3.trans s4
  refine sim_aug op (J.step j t4) c4 (r3.up s4.f) r4 w4 fun x5 d5 F5 M5 H5 c5 s5 r5 w5 => ?_
  have t5 := t4.trans s5
  have u5 := ((s2.trans s3).trans s4).trans s5
  have v5 := (s3.trans s4).trans s5
  exact setI_ok c5 (r1.up u5.f) (r2.up v5.f) r5 w5 fun F6 M6 H6 c6 s6 w6 => ends.nx _ _ F6 M6 H6 c6 (t5.trans s6) (ev.up (t5.trans s6).f) w6
theorem simS_expr {s : Sm} {te : TE} {e : C} (he : SimE W J te (wE s e)) : SimS W J (tDrop te) (wS s (.expr e)) := fun {F M H σ Γ k D} j c ev w ends => by
  simp only [wS] at w
  exact he j c ev w fun x d F1 M1 H1 c1 s1 r1 w1 => ends.nx _ _ F1 M1 H1 c1 s1 (ev.up s1.f) w1
theorem simS_ret {s : Sm} {te : TE} {e : C} (he : SimE W J te (wE s e)) : SimS W J (tRet te) (wS s (.ret e)) := fun {F M H σ Γ k D} j c ev w ends => by
  simp only [wS] at w
  exact he j c ev w fun x d F1 M1 H1 c1 s1 r1 w1 => ends.rt _ _ F1 M1 H1 c1 s1 r1 w1
theorem simS_retN {s : Sm} : SimS W J tRetN (wS s .retN) := fun {F M H σ Γ k D} j c ev w ends => by
  simp only [wS] at w
  exact ends.rt _ _ F M H c Stp.refl .non w
theorem simS_ite {s : Sm} {tt : TT} {t u : TS} {b : C} {x y : Ss} (ht : SimT W J tt (wT s b)) (hx : SimS W J t (wSs s x)) (hy : SimS W J u (wSs s y)) : SimS W J (tIfS tt t u) (wS s (.ite b x y)) := fun {F M H σ Γ k D} j c ev w ends => by
  simp only [wS] at w
  refine ht (Φ := fun b' M1 => if b' = true then wSs s x k Γ M1 else wSs s y k Γ M1) j c ev w fun b' F1 M1 H1 c1 s1 w1 => ?_
  cases b' with
  | true => exact hx (J.step j s1) c1 (ev.up s1.f) w1 (ends.at s1)
  | false => exact hy (J.step j s1) c1 (ev.up s1.f) w1 (ends.at s1)
theorem simS_brk {s : Sm} : SimS W J tBreak (wS s .brk) := fun {F M H σ Γ k D} j c ev w ends => by
  simp only [wS] at w
  exact ends.bk _ _ F M H c Stp.refl ev w
theorem simS_cont {s : Sm} : SimS W J tCont (wS s .cont) := fun {F M H σ Γ k D} j c ev w ends => by
  simp only [wS] at w
  exact ends.ct _ _ F M H c Stp.refl ev w
theorem simS_pass {s : Sm} : SimS W J tNext (wS s .pass) := fun {F M H σ Γ k D} j c ev w ends => by
  simp only [wS] at w
  exact ends.nx _ _ F M H c Stp.refl ev w
theorem simS_never {s : Sm} {t : TS} : SimS W J t (wS s .never) := fun {F M H σ Γ k D} j c ev w ends => by
  simp only [wS] at w
theorem simS_raiseN {s : Sm} {t : TS} {cn : Str} {es : Cs} : SimS W J t (wS s (.raise cn es)) := fun {F M H σ Γ k D} j c ev w ends => by
  simp only [wS] at w
theorem simSs_nil {s : Sm} : SimS W J tNext (wSs s .nil) := fun {F M H σ Γ k D} j c ev w ends => by
  simp only [wSs] at w
  exact ends.nx _ _ F M H c Stp.refl ev w
theorem simSs_cons {s : Sm} {t u : TS} {a : S} {r : Ss} (h1 : SimS W J t (wS s a)) (h2 : SimS W J u (wSs s r)) : SimS W J (tSeq t u) (wSs s (.cons a r)) := fun {F M H σ Γ k D} j c ev w ends => by
  simp only [wSs] at w
  exact h1 j c ev w ⟨fun σ2 Γ2 F2 M2 H2 c2 s2 e2 w2 => h2 (J.step j s2) c2 e2 w2 (ends.at s2), ends.rt, ends.bk, ends.ct⟩
theorem simS_whl {s : Sm} {tt : TT} {t : TS} {b : C} {x : Ss} (ht : SimT W J tt (wT s b)) (hx : SimS W J t (wSs s x)) : SimS W J (tWhile tt t) (wS s (.whl b x)) := fun {F M H σ Γ k D} j c ev w ends => by
  simp only [wS] at w
  obtain ⟨Wh, ⟨m0, w0⟩, step⟩ := w
  refine ⟨fun m σ2 H2 => ∃ F2 M2 Γ2, Conc W F2 M2 H2 ∧ Stp F M H F2 M2 H2 ∧ EnvOk W F2 σ2 Γ2 ∧ Wh m Γ2 M2, ⟨m0, F, M, Γ, c, Stp.refl, ev, w0⟩, ?_⟩
  rintro m σ2 H2 ⟨F2, M2, Γ2, c2, s2, e2, w2⟩
  refine ht (Φ := fun b' M1 => if b' = true then wSs s x { nx := fun Γ2 M2 => ∃ m', m' < m ∧ Wh m' Γ2 M2, rt := k.rt, bk := k.nx, ct := fun Γ2 M2 => ∃ m', m' < m ∧ Wh m' Γ2 M2 } Γ2 M1 else k.nx Γ2 M1) (J.step j s2) c2 e2 (step m Γ2 M2 w2) fun b' F3 M3 H3 c3 s3 w3 => ?_
  have s23 := s2.trans s3
  cases b' with
  | true =>
    refine ⟨fun σ4 H4 => ∃ m', m' < m ∧ ∃ F2 M2 Γ2, Conc W F2 M2 H4 ∧ Stp F M H F2 M2 H4 ∧ EnvOk W F2 σ4 Γ2 ∧ Wh m' Γ2 M2, fun σ' H' h => h, ?_⟩
    refine hx (J.step j s23) c3 (e2.up s3.f) w3 ⟨fun σ5 Γ5 F5 M5 H5 c5 s5 e5 w5 => ?_, fun v d F5 M5 H5 c5 s5 r5 w5 => ends.rt v d F5 M5 H5 c5 (s23.trans s5) r5 w5, fun σ5 Γ5 F5 M5 H5 c5 s5 e5 w5 => ends.nx σ5 Γ5 F5 M5 H5 c5 (s23.trans s5) e5 w5, fun σ5 Γ5 F5 M5 H5 c5 s5 e5 w5 => ?_⟩
    · obtain ⟨m', lt, w5⟩ := w5
      exact ⟨m', lt, F5, M5, Γ5, c5, s23.trans s5, e5, w5⟩
    · obtain ⟨m', lt, w5⟩ := w5
      exact ⟨m', lt, F5, M5, Γ5, c5, s23.trans s5, e5, w5⟩
  | false => exact ends.nx σ2 Γ2 F3 M3 H3 c3 s23 (e2.up s3.f) w3
theorem simS_for {s : Sm} {wi : TI} {g : TG} {t : TS} {g0 : G} {src : I} {x : Ss} (hi : SimI W J wi (wI s src)) (hg : SimG W J g (wG s g0)) (hx : SimS W J t (wSs s x)) : SimS W J (tFor wi g t) (wS s (.for_ g0 src x)) := fun {F M H σ Γ k D} j c ev w ends => by
  simp only [wS] at w
  refine hi j c ev w fun items st It F1 M1 H1 c1 s1 it w1 => ?_
  let step : Sw.D → Env → MM → (Env → MM → Prop) → Prop := fun x0 Γ1 M2 jn => wG s g0 x0 Γ1 M2 fun Γ2 M3 => wSs s x { nx := jn, rt := k.rt, bk := k.nx, ct := jn } Γ2 M3
  let St : Nat → L2.St → Hp → Prop := fun i σ2 G => ∃ F2 M2 Γ2, Conc W F2 M2 G ∧ Stp F1 M1 H1 F2 M2 G ∧ EnvOk W F2 σ2 Γ2 ∧ i ≤ items.length ∧ forRun st k.nx step (items.drop i) Γ2 M2
  refine ⟨fun i m σ2 G => m = items.length - i ∧ St i σ2 G, ⟨_, rfl, F1, M1, Γ, c1, Stp.refl, ev.up s1.f, Nat.zero_le _, w1⟩, ?_⟩
  rintro i m σ2 G ⟨rfl, F2, M2, Γ2, c2, s2, e2, hi', run⟩
  by_cases hlt : i < items.length
  · obtain ⟨d, hd⟩ : ∃ d, items[i]? = some d := ⟨items[i], List.getElem?_eq_getElem hlt⟩
    have hdrop : items.drop i = d :: items.drop (i + 1) := by
      rw [List.drop_eq_getElem_cons hlt]
      congr 1
      rw [List.getElem?_eq_getElem hlt] at hd
      exact Option.some.inj hd
    rw [hdrop] at run
    obtain ⟨hst, run⟩ := run
    refine .inr ⟨it.go i F2 M2 G hlt c2 s2 hst, St (i + 1), fun σ' H' n => ⟨items.length - (i + 1), by omega, rfl, n⟩, fun v H' y => ?_⟩
    obtain ⟨F3, d', c3, s3, r3, hd'⟩ := it.yld i F2 M2 G v H' hlt c2 s2 hst y
    rw [hd] at hd'
    cases hd'
    have s13 := s2.trans s3
    refine hg (J.step j (s1.trans s13)) c3 (e2.up s3.f) r3 run fun σ4 Γ4 F4 M4 H4 c4 s4 e4 w4 => ?_
    have s14 := s13.trans s4
    exact hx (J.step j (s1.trans s14)) c4 e4 w4 ⟨fun σ5 Γ5 F5 M5 H5 c5 s5 e5 w5 => ⟨F5, M5, Γ5, c5, s14.trans s5, e5, hlt, w5⟩, fun v d F5 M5 H5 c5 s5 r5 w5 => ends.rt v d F5 M5 H5 c5 (s1.trans (s14.trans s5)) r5 w5,
      fun σ5 Γ5 F5 M5 H5 c5 s5 e5 w5 => ends.nx σ5 Γ5 F5 M5 H5 c5 (s1.trans (s14.trans s5)) e5 w5, fun σ5 Γ5 F5 M5 H5 c5 s5 e5 w5 => ⟨F5, M5, Γ5, c5, s14.trans s5, e5, hlt, w5⟩⟩
  · have hi2 : i = items.length := Nat.le_antisymm hi' (Nat.le_of_not_lt hlt)
    subst hi2
    rw [List.drop_length] at run
    obtain ⟨hst, run⟩ := run
    exact .inl ⟨it.stop F2 M2 G c2 s2 hst, ends.nx σ2 Γ2 F2 M2 G c2 (s1.trans s2) e2 run⟩
end Sw
set_option maxRecDepth 100000
set_option maxHeartbeats 4000000
/-! Sw: calls of the text's own. -/
namespace Sw
open PySem L2 SwZ
variable {W : Ab} {J : JW}
/-- how a call with n places and the keywords ks binds: the parameters' values from those given -/
structure Bnd (K : PySem.W.Frag) (fd : FuncData) (ps : List Str) (n : Nat) (ks : List Str) (gV : List V → List V → List V) : Prop where
  ex : ∃ g : List Value → List Value → List Value, (∀ (s : Shared) (us ws : List Value), K.In s.heap → us.length = n → ws.length = ks.length → BindsTo s fd ⟨us, ks.zip ws⟩ (ps.zip (g us ws))) ∧
    (∀ (vs zs : List V) (us ws : List Value), vs.length = n → zs.length = ks.length → Vals vs us → Vals zs ws → Vals (gV vs zs) (g us ws))
def tCallU (n m : Nat) (sp : Sp) (gV : List V → List V → List V) (E : XK) (t tk : TA) : TE := fun σ H Q => t σ H fun vs H1 => tk σ H1 fun zs H2 => vs.length = n ∧ zs.length = m ∧ sp (gV vs zs) H2 Q E
section
variable {X : Cx} {CX : CXT} {k n : Nat} {f C : Addr} {fd : FuncData} {ps ks : List Str} {sp : Sp} {E : XK} {x m : Str} {p pos apos : Pos} {o : Expr} {es : List Expr} {kws : List Keyword} {ta : TE} {t tk : TA} {gV : List V → List V → List V}
theorem run_U {pins : List (Addr × Obj)} {σ : St} {H : Hp} {s : Shared} {Q : VK} {us ws : List Value} {vs zs : List V} (F : FnOk X.prog X.w X.K X.mg X.base CX k f fd ps sp) (hr : Room k X.A) (hb : Bnd X.K fd ps n ks gV) (hx : Passes CX X E)
    (I : Inv X pins σ H s) (r : Vals vs us) (rz : Vals zs ws) (h1 : vs.length = n) (h2 : zs.length = ks.length) (h : sp (gV vs zs) H Q E) : wpAny (model X.prog X.w) X.A (call (.ref f) us (ks.zip ws)) (EP X pins σ Q) X.xe s := by
  obtain ⟨g, b1, b2⟩ := hb.ex
  have r2 := b2 vs zs us ws h1 h2 r rz
  have hl : (g us ws).length = ps.length := by rw [← r2.length]; exact F.len _ _ _ _ h
  refine wpAny_call (codeAny_mono (F.run X.A X.stack s H ⟨us, ks.zip ws⟩ (g us ws) (gV vs zs) Q E hr I.env0 (b1 s us ws I.kIn (r.length.symm.trans h1) (rz.length.symm.trans h2)) r2 h) fun res s' hq => ?_)
  cases res with
  | error e => exact hx pins σ H s e s' I hq
  | ok fl =>
    cases fl with
    | ret u => exact I.after hq
    | next => exact False.elim hq
    | brk => exact False.elim hq
    | cont => exact False.elim hq
theorem pe_callU {e : Expr} (F : FnOk X.prog X.w X.K X.mg X.base CX k f fd ps sp) (hr : Room k X.A) (hg : Gl X x) (hm : X.mg x = some (.ref f)) (hk : PySem.W.keepIn X.K (.ref f) = true) (hb : Bnd X.K fd ps n ks gV) (hx : Passes CX X E)
    (ha : PA X (e :: es) t) (hkw : PK X kws tk) (hall : (backToKw pos (keywordEach kws X.env)).all (·.1.isSome) = true) (hks : (backToKw pos (keywordEach kws X.env)).filterMap (·.1) = ks)
    (hdb : (x == ("__debug__" : Str)) = false) (he : starEach (e :: es) X.env = (false, eval e X.env) :: starEach es X.env)
    (hpl : ((backTo pos (starEach (e :: es) X.env)).any (·.1) || (backToKw pos (keywordEach kws X.env)).any (·.1.isNone)) = false) : PE X (.Call (.Name x p) (e :: es) kws pos) (tCallU n ks.length sp gV E t tk) := by
  refine ⟨fun pins s σ H Q I h => wpAny_Call_Name_kw (ld_glob I hg hm ?_ hdb)⟩
  refine PySem.W.callWith_KW (h₀ := X.base) I.ok.mod.kin hk hall (thn (ha.run pos pins s σ H _ I h) fun us s1 ⟨vs, H1, I1, r, q⟩ => ?_) hpl he
  refine thn (hkw.run pos pins s1 σ H1 _ I1 q) fun ws s2 ⟨zs, H2, I2, rz, l1, l2, q2⟩ => ⟨I2.kIn, ?_⟩
  rw [hks]
  exact run_U F hr hb hx I2 r rz l1 l2 q2
theorem pe_callU0 (F : FnOk X.prog X.w X.K X.mg X.base CX k f fd ps sp) (hr : Room k X.A) (hg : Gl X x) (hm : X.mg x = some (.ref f)) (hk : PySem.W.keepIn X.K (.ref f) = true) (hb : Bnd X.K fd ps n ks gV) (hx : Passes CX X E)
    (hkw : PK X kws tk) (hall : (backToKw pos (keywordEach kws X.env)).all (·.1.isSome) = true) (hks : (backToKw pos (keywordEach kws X.env)).filterMap (·.1) = ks)
    (hdb : (x == ("__debug__" : Str)) = false) (hpl : ((backTo pos (starEach [] X.env)).any (·.1) || (backToKw pos (keywordEach kws X.env)).any (·.1.isNone)) = false) :
    PE X (.Call (.Name x p) [] kws pos) (tCallU n ks.length sp gV E tNil tk) := by
  refine ⟨fun pins s σ H Q I h => wpAny_Call_Name_kw (ld_glob I hg hm ?_ hdb)⟩
  refine PySem.W.callWith_KW0 (h₀ := X.base) I.ok.mod.kin hk hall ?_ hpl
  refine thn (hkw.run pos pins s σ H _ I h) fun ws s2 ⟨zs, H2, I2, rz, l1, l2, q2⟩ => ⟨I2.kIn, ?_⟩
  rw [hks]
  exact run_U (us := []) (vs := []) F hr hb hx I2 .nil rz l1 l2 q2
/-- o.m(..) of an instance of the class at C -/
def tMethU (C : Addr) (m : Str) (n l : Nat) (sp : Sp) (gV : List V → List V → List V) (E : XK) (ta : TE) (t tk : TA) : TE := fun σ H Q => ta σ H fun x H1 => ∃ a dx fs, x = .ref a ∧ H1 a = some (.ins C dx fs) ∧ fs.lookup m = none ∧
  t σ H1 fun vs H2 => tk σ H2 fun zs H3 => vs.length + 1 = n ∧ zs.length = l ∧ sp (gV (x :: vs) zs) H3 Q E
theorem pe_methU {e : Expr} {pl : Sem Bool} (ho : PE X o ta) (c : Cls X.K C) (hm : Meth X.K C m f) (F : FnOk X.prog X.w X.K X.mg X.base CX k f fd ps sp) (hr : Room k X.A) (hb : Bnd X.K fd ps n ks gV) (hx : Passes CX X E)
    (ha : PA X (e :: es) t) (hkw : PK X kws tk) (hall : (backToKw pos (keywordEach kws X.env)).all (·.1.isSome) = true) (hks : (backToKw pos (keywordEach kws X.env)).filterMap (·.1) = ks)
    (he : starEach (e :: es) X.env = (false, eval e X.env) :: starEach es X.env) (hpl : ((backTo pos (starEach (e :: es) X.env)).any (·.1) || (backToKw pos (keywordEach kws X.env)).any (·.1.isNone)) = false)
    (ht : eval (.Call (.Attribute o m apos) (e :: es) kws pos) X.env = (do
      let ov ← eval o X.env
      standAt apos.atName
      let (f, first) ← holding [ov] (getMethod ov m pl)
      callWith pos f first (backTo pos (starEach (e :: es) X.env)) (backToKw pos (keywordEach kws X.env)))) :
    PE X (.Call (.Attribute o m apos) (e :: es) kws pos) (tMethU C m n ks.length sp gV E ta t tk) := by
  refine ⟨fun pins s σ H Q I h => ?_⟩
  refine PySem.W.methodCall_KW (pl := pl) (thn (ho.run pins s σ H _ I h) fun u s1 ⟨x, H1, I1, rx, a, dx, fs, ex, ea, l, q⟩ => ?_) ht
  subst ex
  obtain rfl : u = Value.ref a := rx
  refine getmeth_ok I1 ea c hm l ?_
  refine PySem.W.callWith_KW (first := [.ref a]) (h₀ := X.base) I.ok.mod.kin hm.kp hall (thn (ha.run pos pins s1 σ H1 _ I1 q) fun us s2 ⟨vs, H2, I2, r, q2⟩ => ?_) hpl he
  refine thn (hkw.run pos pins s2 σ H2 _ I2 q2) fun ws s3 ⟨zs, H3, I3, rz, l1, l2, q3⟩ => ⟨I3.kIn, ?_⟩
  rw [hks]
  exact run_U (us := .ref a :: us) (vs := .ref a :: vs) F hr hb hx I3 (.cons rfl r) rz l1 l2 q3
theorem pe_methU0 {pl : Sem Bool} (ho : PE X o ta) (c : Cls X.K C) (hm : Meth X.K C m f) (F : FnOk X.prog X.w X.K X.mg X.base CX k f fd ps sp) (hr : Room k X.A) (hb : Bnd X.K fd ps n ks gV) (hx : Passes CX X E)
    (hkw : PK X kws tk) (hall : (backToKw pos (keywordEach kws X.env)).all (·.1.isSome) = true) (hks : (backToKw pos (keywordEach kws X.env)).filterMap (·.1) = ks)
    (hpl : ((backTo pos (starEach [] X.env)).any (·.1) || (backToKw pos (keywordEach kws X.env)).any (·.1.isNone)) = false)
    (ht : eval (.Call (.Attribute o m apos) [] kws pos) X.env = (do
      let ov ← eval o X.env
      standAt apos.atName
      let (f, first) ← holding [ov] (getMethod ov m pl)
      callWith pos f first (backTo pos (starEach [] X.env)) (backToKw pos (keywordEach kws X.env)))) :
    PE X (.Call (.Attribute o m apos) [] kws pos) (tMethU C m n ks.length sp gV E ta tNil tk) := by
  refine ⟨fun pins s σ H Q I h => ?_⟩
  refine PySem.W.methodCall_KW (pl := pl) (thn (ho.run pins s σ H _ I h) fun u s1 ⟨x, H1, I1, rx, a, dx, fs, ex, ea, l, q⟩ => ?_) ht
  subst ex
  obtain rfl : u = Value.ref a := rx
  refine getmeth_ok I1 ea c hm l ?_
  refine PySem.W.callWith_KW0 (first := [.ref a]) (h₀ := X.base) I.ok.mod.kin hm.kp hall ?_ hpl
  refine thn (hkw.run pos pins s1 σ H1 _ I1 q) fun ws s3 ⟨zs, H3, I3, rz, l1, l2, q3⟩ => ⟨I3.kIn, ?_⟩
  rw [hks]
  exact run_U (us := [.ref a]) (vs := [.ref a]) F hr hb hx I3 (.cons rfl .nil) rz l1 l2 q3
end
/-! ### what a def of the text promises -/
def spF (W : Ab) (n : Nat) (wf : List D → MM → (D → MM → Prop) → Prop) : Sp := fun vs H Q E => ∃ F M ds Φ, vs.length = n ∧ Conc W F M H ∧ Rps W F vs ds ∧ wf ds M Φ ∧
  ∀ v d F' M' H', Conc W F' M' H' → Stp F M H F' M' H' → Rp W F' v d → Φ d M' → Q v H'
def arrV (dv : List V) : List Arr → List V → List V
  | [], _ => []
  | .at_ i :: r, vs => vs.getD i .non :: arrV dv r vs
  | .dfl j _ :: r, vs => dv.getD j .non :: arrV dv r vs
def DflOk (W : Ab) (dv : List V) (ar : List Arr) : Prop := ∀ j d, Arr.dfl j d ∈ ar → ∀ F : Hp, Rp W F (dv.getD j .non) d
theorem Rps.getD {F : Hp} {vs : List V} {ds : List D} (h : Rps W F vs ds) (i : Nat) : Rp W F (vs.getD i .non) (ds.getD i .non) := by
  induction ds generalizing vs i with
  | nil => cases h; simp; exact .non
  | cons x xs ih =>
    cases h with
    | cons a r =>
      cases i with
      | zero => exact a
      | succ i => simpa using ih r i
theorem arr_ok {F : Hp} {dv : List V} {vs : List V} {ds : List D} (h : Rps W F vs ds) : ∀ {ar : List Arr}, DflOk W dv ar → Rps W F (arrV dv ar vs) (arrD ar ds)
  | [], _ => .nil
  | .at_ i :: r, o => .cons (h.getD i) (arr_ok h fun v d m => o v d (List.mem_cons_of_mem _ m))
  | .dfl v d :: r, o => .cons (o v d List.mem_cons_self F) (arr_ok h fun v d m => o v d (List.mem_cons_of_mem _ m))
theorem arrV_len (dv : List V) (ar : List Arr) (vs : List V) : (arrV dv ar vs).length = ar.length := by
  induction ar with
  | nil => rfl
  | cons a r ih => cases a <;> simp [arrV, ih]
/-- arguments, n of them -/
def SimAn (W : Ab) (J : JW) (n : Nat) (t : TA) (w : WA) : Prop := ∀ {F M H σ Γ Φ} {Q : List V → Hp → Prop}, J.J F M H → Conc W F M H → EnvOk W F σ Γ → w Γ M Φ →
  (∀ vs ds F' M' H', Conc W F' M' H' → Stp F M H F' M' H' → Rps W F' vs ds → vs.length = n → Φ ds M' → Q vs H') → t σ H Q
theorem simAn_nil {s : Sm} : SimAn W J 0 tNil (wEs s .nil) := fun {F M H σ Γ Φ Q} j c e w k => by
  simp only [wEs] at w
  exact k _ _ F M H c Stp.refl .nil rfl w
theorem simAn_cons {s : Sm} {ta : TE} {tr : TA} {a : C} {r : Cs} {n : Nat} (ha : SimE W J ta (wE s a)) (hr : SimAn W J n tr (wEs s r)) : SimAn W J (n + 1) (tCons ta tr) (wEs s (.cons a r)) := fun {F M H σ Γ Φ Q} j c e w k => by
  simp only [wEs] at w
  refine ha j c e w fun x d F1 M1 H1 c1 s1 r1 w1 => ?_
  exact hr (J.step j s1) c1 (e.up s1.f) w1 fun xs ds F2 M2 H2 c2 s2 r2 l2 w2 => k _ _ F2 M2 H2 c2 (s1.trans s2) (.cons (r1.up s2.f) r2) (by simp [l2]) w2
theorem SimAn.to {n : Nat} {t : TA} {w : WA} (h : SimAn W J n t w) : SimA W J t w := fun {F M H σ Γ Φ Q} j c e w k => h j c e w fun vs ds F' M' H' c' s' r _ => k vs ds F' M' H' c' s' r
theorem sim_callU {s : Sm} {t tk : TA} {es ks : Cs} {n m : Nat} {E : XK} {wf : List D → MM → (D → MM → Prop) → Prop} {dv : List V} {ar : List Arr} {f : Str} (ha : SimAn W J n t (wEs s es)) (hk : SimAn W J m tk (wEs s ks)) (hd : DflOk W dv ar)
    (hw : ∀ ds M Φ, s.call f ds M Φ s.xs → wf ds M Φ) : SimE W J (tCallU n m (spF W ar.length wf) (fun vs zs => arrV dv ar (vs ++ zs)) E t tk) (wE s (.call f ar es ks)) := fun {F M H σ Γ Φ Q} j c ev w k => by
  simp only [wE] at w
  refine ha j c ev w fun vs ds F1 M1 H1 c1 s1 r1 l1 w1 => ?_
  refine hk (J.step j s1) c1 (ev.up s1.f) w1 fun zs es F2 M2 H2 c2 s2 r2 l2 w2 => ?_
  exact ⟨l1, l2, F2, M2, _, Φ, arrV_len _ _ _, c2, arr_ok ((r1.up s2.f).append r2) hd, hw _ _ _ w2, fun v d F3 M3 H3 c3 s3 r3 w3 => k v d F3 M3 H3 c3 ((s1.trans s2).trans s3) r3 w3⟩
theorem sim_methU {s : Sm} {to : TE} {t tk : TA} {o : C} {es ks : Cs} {n m : Nat} {E : XK} {wf : List D → MM → (D → MM → Prop) → Prop} {dv : List V} {ar : List Arr} {cn mn : Str} {Ca : Addr} (ho : SimE W J to (wE s o)) (ha : SimAn W J n t (wEs s es)) (hk : SimAn W J m tk (wEs s ks)) (hd : DflOk W dv ar)
    (hc : W.cls cn = some Ca) (hw : ∀ ds M Φ, s.call (cn ++ "." ++ mn) ds M Φ s.xs → wf ds M Φ) : SimE W J (tMethU Ca mn (n + 1) m (spF W ar.length wf) (fun vs zs => arrV dv ar (vs ++ zs)) E to t tk) (wE s (.meth cn mn ar o es ks)) := fun {F M H σ Γ Φ Q} j c ev w k => by
  simp only [wE] at w
  refine ho j c ev w fun x d F0 M0 H0 c0 s0 r0 w0 => ?_
  obtain ⟨hx, w0⟩ := w0
  have obj : ∃ a dx fs, x = .ref a ∧ H0 a = some (.ins Ca dx fs) ∧ fs.lookup mn = none := by
    cases r0 with
    | @obj a C dx c' vfs fs q1 q2 q3 q4 =>
      obtain ⟨rfl, hl⟩ := hx
      rw [hc] at q1
      cases q1
      exact ⟨a, dx, vfs, rfl, c0.ex _ _ q2, look_none q3 hl⟩
    | loc a =>
      simp only at hx
      split at hx
      · rename_i c' fs hm
        obtain ⟨rfl, hl⟩ := hx
        obtain ⟨_, C, dx, vfs, q1, q2, q3, q4⟩ := c0.cell a _ hm
        rw [hc] at q1
        cases q1
        exact ⟨a, dx, vfs, rfl, q2, look_none q3 hl⟩
      · exact hx.elim
    | _ => exact hx.elim
  obtain ⟨a, dx, fs, rfl, e1, e2⟩ := obj
  refine ⟨a, dx, fs, rfl, e1, e2, ?_⟩
  refine ha (J.step j s0) c0 (ev.up s0.f) w0 fun vs ds F1 M1 H1 c1 s1 r1 l1 w1 => ?_
  have t1 := s0.trans s1
  refine hk (J.step j t1) c1 (ev.up t1.f) w1 fun zs es F2 M2 H2 c2 s2 r2 l2 w2 => ?_
  exact ⟨by rw [l1], l2, F2, M2, _, Φ, arrV_len _ _ _, c2, arr_ok (vs := .ref a :: vs ++ zs) (.cons (r0.up (s1.trans s2).f) ((r1.up s2.f).append r2)) hd, hw _ _ _ w2, fun v d F3 M3 H3 c3 s3 r3 w3 => k v d F3 M3 H3 c3 ((t1.trans s2).trans s3) r3 w3⟩
/-! ### a cell made a tree -/
def FrzOk (W : Ab) (f : D → MM → (D → MM → Prop) → Prop) : Prop := ∀ ⦃F : Hp⦄ ⦃M : MM⦄ ⦃H : Hp⦄ ⦃v : V⦄ ⦃d : D⦄ ⦃Φ : D → MM → Prop⦄ ⦃P : Prop⦄, Conc W F M H → Rp W F v d → f d M Φ → (∀ d' F' M', Conc W F' M' H → Stp F M H F' M' H → Rp W F' v d' → Φ d' M' → P) → P
theorem frzL_ok {f : D → MM → (D → MM → Prop) → Prop} (hf : FrzOk W f) : ∀ (ds : List D) {F M H vs us acc Φ} {P : Prop}, Conc W F M H → Rps W F vs ds → Rps W F us acc → frzL f ds acc M Φ →
    (∀ es F' M', Conc W F' M' H → Stp F M H F' M' H → Rps W F' (us ++ vs) es → Φ es M' → P) → P
  | [], F, M, H, vs, us, acc, Φ, P, c, r, q, w, k => by
    cases r
    exact k acc F M c Stp.refl (by rw [List.append_nil]; exact q) w
  | d :: ds, F, M, H, vs, us, acc, Φ, P, c, r, q, w, k => by
    cases r with
    | @cons v vs _ _ a r =>
    refine hf c a w fun d' F1 M1 c1 s1 r1 w1 => ?_
    refine frzL_ok hf ds c1 (r.up s1.f) ((q.up s1.f).append (.cons r1 .nil)) w1 fun es F2 M2 c2 s2 r2 w2 => k es F2 M2 c2 (s1.trans s2) ?_ w2
    rw [List.append_assoc] at r2
    exact r2
theorem frz_ok : ∀ n : Nat, FrzOk W (frzD n)
  | 0 => by
    intro F M H v d Φ P c r w k
    cases d with
    | loc a => exact (show False from w).elim
    | _ => exact k _ F M c Stp.refl r w
  | n + 1 => by
    intro F M H v d Φ P c r w k
    cases d with
    | loc a =>
      simp only [frzD] at w
      split at w
      · rename_i xs hm
        obtain ⟨_, vs, h1, h2⟩ := c.cell a _ hm
        refine frzL_ok (frz_ok n) xs c h2 .nil w fun es F1 M1 c1 s1 r1 w1 => ?_
        obtain ⟨hm1, w1⟩ := w1
        obtain ⟨c2, s2⟩ := c1.still hm1 h1
        rw [List.nil_append] at r1
        cases r
        exact k _ _ _ c2 (s1.trans s2) (.lst upd_same (r1.up s2.f)) w1
      · rename_i cn fs hm
        obtain ⟨_, C, dx, vfs, hc, h1, h2, h3⟩ := c.cell a _ hm
        refine frzL_ok (frz_ok n) _ c h3 .nil w fun es F1 M1 c1 s1 r1 w1 => ?_
        obtain ⟨hm1, w1⟩ := w1
        obtain ⟨c2, s2⟩ := c1.still hm1 h1
        rw [List.nil_append] at r1
        have hl : es.length = fs.length := by
          have e1 := r1.length
          have e2 := h3.length
          simp only [List.length_map] at e1 e2
          omega
        have k1 : ((fs.map (·.1)).zip es).map (·.1) = fs.map (·.1) := by rw [List.map_fst_zip]; simp [hl]
        have k2 : ((fs.map (·.1)).zip es).map (·.2) = es := by rw [List.map_snd_zip]; simp [hl]
        cases r
        exact k _ _ _ c2 (s1.trans s2) (.obj hc upd_same (by rw [k1, h2]) (by rw [k2]; exact r1.up s2.f)) w1
      · exact w.elim
    | _ => exact k _ F M c Stp.refl r w
theorem sim_frz {s : Sm} {te : TE} {a : C} (he : SimE W J te (wE s a)) : SimE W J te (wE s (.frz a)) := fun {F M H σ Γ Φ Q} j c ev w k => by
  simp only [wE] at w
  refine he j c ev w fun x d F1 M1 H1 c1 s1 r1 w1 => ?_
  exact frz_ok 4 c1 r1 w1 fun d' F2 M2 c2 s2 r2 w2 => k x d' F2 M2 H1 c2 (s1.trans s2) r2 w2
/-- C(..): a new cell and its own dict, then __init__ -/
def tMakeU (Ca : Addr) (n : Nat) (sp : Sp) (gV : List V → List V) (E : XK) (t : TA) : TE := fun σ H Q => t σ H fun vs H1 => ∀ x dx, H1 x = none → H1 dx = none → dx ≠ x →
  vs.length + 1 = n ∧ sp (gV (.ref x :: vs)) (upd (upd H1 dx (.own x)) x (.ins Ca dx [])) (fun v H2 => v = .non ∧ Q (.ref x) H2) E
theorem sim_makeU {s : Sm} {t : TA} {es : Cs} {n : Nat} {E : XK} {wf : List D → MM → (D → MM → Prop) → Prop} {dv : List V} {ar : List Arr} {cn : Str} {own : Bool} {Ca : Addr} (ha : SimAn W J n t (wEs s es)) (hd : DflOk W dv ar)
    (hc : W.cls cn = some Ca) (hw : ∀ ds M Φ, s.call (cn ++ ".__init__") ds M Φ s.xs → wf ds M Φ) : SimE W J (tMakeU Ca (n + 1) (spF W ar.length wf) (fun vs => arrV dv ar vs) E t) (wE s (.make cn own ar es)) := fun {F M H σ Γ Φ Q} j c ev w k => by
  simp only [wE] at w
  refine ha j c ev w fun vs ds F1 M1 H1 c1 s1 r1 l1 w1 => ?_
  intro x dx hx hdx hne
  obtain ⟨c2, s2⟩ := c1.know hdx (.own x)
  have hx2 : upd H1 dx (.own x) x = none := by rw [upd_ne (Ne.symm hne)]; exact hx
  obtain ⟨c3, s3⟩ := c2.own (x := .ins cn []) (o := .ins Ca dx []) hx2 ⟨Ca, dx, [], hc, upd_same, rfl, .nil⟩
  have s13 := (s1.trans s2).trans s3
  have wq := w1 x (c1.fresh hx).2
  refine ⟨by rw [l1], _, _, _, _, arrV_len _ _ _, c3, arr_ok (vs := .ref x :: vs) (.cons (.loc x) (r1.up (s2.trans s3).f)) hd, hw _ _ _ wq, fun v d F4 M4 H4 c4 s4 r4 w4 => ?_⟩
  obtain ⟨hn, w4⟩ := w4
  have hv : v = .non := by
    have e1 := r4.isN
    rw [hn] at e1
    exact of_decide_eq_true e1
  refine ⟨hv, ?_⟩
  cases own with
  | true => exact k (.ref x) (.loc x) F4 M4 H4 c4 (s13.trans s4) (.loc x) w4
  | false => exact frz_ok 4 c4 (.loc x) w4 fun d' F5 M5 c5 s5 r5 w5 => k (.ref x) d' F5 M5 H4 c5 ((s13.trans s4).trans s5) r5 w5
section
variable {X : Cx} {CX : CXT} {k n : Nat} {f Ca : Addr} {fd : FuncData} {ps : List Str} {sp : Sp} {E : XK} {x : Str} {p pos : Pos} {es : List Expr} {t : TA} {gV : List V → List V}
theorem run_makeU {pins : List (Addr × Obj)} {σ : St} {H : Hp} {s : Shared} {Q : VK} {us : List Value} {vs : List V} (M : Mk X.K Ca f) (F : FnOk X.prog X.w X.K X.mg X.base CX k f fd ps sp) (hr : Room (k + 1) X.A) (hb : Bnd X.K fd ps n [] (fun vs _ => gV vs))
    (hx : Passes CX X E) (I : Inv X pins σ H s) (r : Vals vs us)
    (h : ∀ x dx, H x = none → H dx = none → dx ≠ x → vs.length + 1 = n ∧ sp (gV (.ref x :: vs)) (upd (upd H dx (.own x)) x (.ins Ca dx [])) (fun v H2 => v = .non ∧ Q (.ref x) H2) E) :
    wpAny (model X.prog X.w) X.A (call (.ref Ca) us) (EP X pins σ Q) X.xe s := by
  obtain ⟨l1, hq⟩ := h (s.heap.objs.size + 1) s.heap.objs.size (I.hok.fresh (Nat.le_succ _)) (I.hok.fresh (Nat.le_refl _)) (Nat.ne_of_lt (Nat.lt_succ_self _))
  have I2 := Inv.made (C := Ca) I
  obtain ⟨g, b1, b2⟩ := hb.ex
  have rr : Vals (V.ref (s.heap.objs.size + 1) :: vs) (Value.ref (s.heap.objs.size + 1) :: us) := .cons rfl r
  have r2 := b2 (V.ref (s.heap.objs.size + 1) :: vs) [] _ [] l1 rfl rr .nil
  have lu : (Value.ref (s.heap.objs.size + 1) :: us).length = n := rr.length.symm.trans l1
  refine wpAny_call (make_map (f := f) I.kIn M.makes M.init (beq_iff_eq.mp M.fn) (codeAny_mono (F.run _ X.stack _ _ ⟨Value.ref (s.heap.objs.size + 1) :: us, []⟩ _ _ _ E (hr.make Ca us []) (I2.env0.make Ca us []) (b1 _ _ [] I2.kIn lu rfl) r2 hq) fun res s' hq' => ?_))
  cases res with
  | error e => exact hx pins σ _ _ e s' I2 hq'
  | ok fl =>
    cases fl with
    | ret u =>
      obtain ⟨v, H', I3, rv, ev, q3⟩ := I2.after hq'
      subst ev
      exact ⟨rv, ⟨V.ref (s.heap.objs.size + 1), H', I3, rfl, q3⟩⟩
    | next => exact False.elim hq'
    | brk => exact False.elim hq'
    | cont => exact False.elim hq'
theorem pe_makeU {e : Expr} (M : Mk X.K Ca f) (F : FnOk X.prog X.w X.K X.mg X.base CX k f fd ps sp) (hr : Room (k + 1) X.A) (hg : Gl X x) (hm : X.mg x = some (.ref Ca)) (hb : Bnd X.K fd ps n [] (fun vs _ => gV vs)) (hx : Passes CX X E)
    (ha : PA X (e :: es) t) (hdb : (x == ("__debug__" : Str)) = false) (he : starEach (e :: es) X.env = (false, eval e X.env) :: starEach es X.env) (hpl : (backTo pos (starEach es X.env)).any (·.1) = false) :
    PE X (.Call (.Name x p) (e :: es) [] pos) (tMakeU Ca n sp gV E t) := by
  refine ⟨fun pins s σ H Q I h => wpAny_Call_Name_kw (ld_glob I hg hm ?_ hdb)⟩
  exact PySem.W.callWith_K (h₀ := X.base) I.ok.mod.kin M.kp (thn (ha.run pos pins s σ H _ I h) fun us s1 ⟨vs, H1, I1, r, q⟩ => ⟨I1.kIn, run_makeU M F hr hb hx I1 r q⟩) he hpl
end
end Sw
set_option maxRecDepth 100000
namespace Sw
open PySem L2 PyProof.Rows
def isStar : Expr → Bool
  | .Starred .. => true
  | _ => false
def isSlice : Expr → Bool
  | .Slice .. => true
  | _ => false
def isComp : Expr → Bool
  | .ListComp .. => true
  | .SetComp .. => true
  | .DictComp .. => true
  | _ => false
def isSetE : Expr → Bool
  | .Set .. => true
  | _ => false
theorem star_cons {e : Expr} {es : List Expr} {env : PySem.Env} (h : isStar e = false) : starEach (e :: es) env = (false, eval e env) :: starEach es env := by
  cases e <;> first | rfl | cases h
theorem notSet {e : Expr} {env : PySem.Env} (h : isSetE e = false) (x) : foldedSetIterable e env x = pure x := by
  cases e <;> first | rfl | cases h
theorem plainIx {e : Expr} (h : isSlice e = false) : PlainIx e := by
  intro o i
  cases e <;> first | rfl | cases h
theorem subSet {o i : Expr} {pos : Pos} {env : PySem.Env} (h : isSlice i = false) (v : Value) : assign (.Subscript o i pos) env v = (do
      let ov ← holding [v] (eval o env)
      let iv ← holding [v, ov] (eval i env)
      standAt pos
      holding [v, ov, iv] (setItem ov iv v)
      release [v, ov, iv] []) := by
  cases i <;> first | rfl | cases h
theorem augIx {i : Expr} (h : isSlice i = false) (ov iv new : Value) : augStore i ov iv new = (do holding [new, ov, iv] (setItem ov iv new); release [new, ov, iv] []; pure .next) := by
  cases i <;> first | rfl | cases h
theorem swN {e : Expr} {env : PySem.Env} {l : Nat} {t : Option Expr} (h : isComp e = false) : swapsWith e t l env = pure false := by
  cases e <;> first | rfl | cases h
def isCallE : Expr → Bool
  | .Call .. => true
  | _ => false
theorem baseEq {o : Expr} {m : Str} {env : PySem.Env} (h : isCallE o = false) : attributeBase o m env (eval o env) = eval o env := by
  cases o with
  | Call => cases h
  | _ => rfl
def testy : Expr → Bool
  | .UnaryOp op _ _ => op == .Not
  | .BoolOp .. => true
  | .IfExp .. => true
  | .Compare .. => true
  | _ => false
theorem isT_plain {e : Expr} {env : PySem.Env} (h : testy e = false) (whole : Sem Value) : isTrue e env whole = (do let v ← whole; standAt e.pos; holding [v] (truthy v)) := by
  cases e with
  | UnaryOp op a p =>
    cases op with
    | Not => cases h
    | _ => rfl
  | BoolOp => cases h
  | IfExp => cases h
  | Compare => cases h
  | _ => rfl
def noStars : List Expr → Bool
  | [] => true
  | e :: es => !isStar e && noStars es
theorem noStars_any {env : PySem.Env} {pos : Pos} : ∀ {es : List Expr}, noStars es = true → (backTo pos (starEach es env)).any (·.1) = false
  | [], _ => rfl
  | e :: es, h => by
    simp only [noStars, Bool.and_eq_true, Bool.not_eq_true'] at h
    rw [star_cons h.1]
    show (false || (backTo pos (starEach es env)).any (·.1)) = false
    rw [noStars_any h.2]
    rfl
def allNamed : List Keyword → Bool
  | [] => true
  | k :: ks => k.arg.isSome && allNamed ks
theorem named_all {env : PySem.Env} {pos : Pos} : ∀ {ks : List Keyword}, allNamed ks = true → (backToKw pos (keywordEach ks env)).all (·.1.isSome) = true
  | [], _ => rfl
  | ⟨a, v, p⟩ :: ks, h => by
    simp only [allNamed, Bool.and_eq_true] at h
    show (a.isSome && (backToKw pos (keywordEach ks env)).all (·.1.isSome)) = true
    rw [h.1, named_all h.2]
    rfl
theorem named_any {env : PySem.Env} {pos : Pos} : ∀ {ks : List Keyword}, allNamed ks = true → (backToKw pos (keywordEach ks env)).any (·.1.isNone) = false
  | [], _ => rfl
  | ⟨a, v, p⟩ :: ks, h => by
    simp only [allNamed, Bool.and_eq_true] at h
    show (a.isNone || (backToKw pos (keywordEach ks env)).any (·.1.isNone)) = false
    cases a with
    | none => cases h.1
    | some a => rw [named_any h.2]; rfl
theorem named_map {env : PySem.Env} {pos : Pos} : ∀ {ks : List Keyword}, (backToKw pos (keywordEach ks env)).filterMap (·.1) = ks.filterMap (·.arg)
  | [] => rfl
  | ⟨a, v, p⟩ :: ks => by
    show List.filterMap _ ((a, _) :: backToKw pos (keywordEach ks env)) = _
    cases a with
    | none => simp only [List.filterMap_cons]; exact named_map
    | some a => simp only [List.filterMap_cons]; rw [named_map]
theorem noStars_all {env : PySem.Env} {pos : Pos} : ∀ {es : List Expr}, noStars es = true → (backTo pos (starEach es env)).all (!·.1) = true
  | [], _ => rfl
  | e :: es, h => by
    simp only [noStars, Bool.and_eq_true, Bool.not_eq_true'] at h
    rw [star_cons h.1]
    show (!false && (backTo pos (starEach es env)).all (!·.1)) = true
    rw [noStars_all h.2]
    rfl
theorem methEq {o : Expr} {m : Str} {apos pos : Pos} {es : List Expr} {kws : List Keyword} {env : PySem.Env} (h : isCallE o = false) (hs : noStars es = true) (hk : allNamed kws = true) (hl : (apos.endLine == pos.line) = true)
    (hn : es.length + kws.length < 29) : ∃ pl : Sem Bool, eval (.Call (.Attribute o m apos) es kws pos) env = (do
      let ov ← eval o env
      standAt apos.atName
      let (f, first) ← holding [ov] (getMethod ov m pl)
      callWith pos f first (backTo pos (starEach es env)) (backToKw pos (keywordEach kws env))) := by
  have form : methodCallForm (es.length + kws.length) (backTo pos (starEach es env)) (backToKw pos (keywordEach kws env)) = true := by
    unfold methodCallForm
    rw [noStars_all hs, named_all hk]
    have : es.length + kws.length + (if (backToKw pos (keywordEach kws env)).isEmpty then 0 else 1) < 30 := by split <;> omega
    simp only [Bool.true_and, decide_eq_true_eq]
    exact this
  refine ⟨do return (← importBound o env).getD true, ?_⟩
  show (do
    let ov ← attributeBase o m env (eval o env)
    standAt apos.atName
    methodCall o m apos pos env ov (es.length + kws.length) (backTo pos (starEach es env)) (backToKw pos (keywordEach kws env))) = _
  rw [baseEq h]
  have mc : ∀ ov : Value, methodCall o m apos pos env ov (es.length + kws.length) (backTo pos (starEach es env)) (backToKw pos (keywordEach kws env)) = (do
      let (f, first) ← holding [ov] (getMethod ov m (do return (← importBound o env).getD true))
      callWith pos f first (backTo pos (starEach es env)) (backToKw pos (keywordEach kws env))) := fun ov => by
    unfold methodCall
    rw [form]
    unfold methodCallPos calleeOf
    rw [if_pos (show (!true || apos.endLine == pos.line) = true by rw [hl]; rfl), if_pos rfl]
    rfl
  simp only [mc]
/-- a store to names that is turned about: told ahead -/
def swL (e : Expr) (tg : Expr) (sc : Scope) : Bool := match e, tg with
  | .ListComp _ _ s p, .Name t q => decide (sc.names.lookup t = some .local) && q.line == p.line && !(s.names.any fun (n, k) => n == t && (k == .local || k == .cell))
  | _, _ => false
end Sw
set_option maxRecDepth 100000
set_option maxHeartbeats 4000000
/-! Sw: from the program's form to code. -/
namespace Sw
open PySem L2
structure Sig where
  ps : List Str
  np : Nat
  dfl : List (Str × Nat × D) := []
structure Gn where
  fns : List (Str × Sig)
  cls : List (Str × Sig)
  mth : List (Str × Str × Sig)
  cst : List (Str × D)
  flds : List Str
  pats : List (Str × Nat × List Str)
structure Cfg where
  gn : Gn
  N : List Str
  sc : Scope
  own : List Pos
  frz : List Pos
  mcl : List (Pos × Str)
def ixOf : List Str → Str → Option Nat
  | [], _ => none
  | y :: r, x => if x = y then some 0 else (ixOf r x).map (· + 1)
def isLoc (sc : Scope) (x : Str) : Bool := match sc.names.lookup x with
  | some .local => true
  | some .cell => true
  | some .free => true
  | _ => false
def isSto (sc : Scope) (x : Str) : Bool := match sc.names.lookup x with
  | some .local => true
  | some .cell => true
  | _ => false
def isGl (sc : Scope) (x : Str) : Bool := match sc.names.lookup x with
  | some .globalImplicit => true
  | _ => false
def okName (x : Str) : Bool := !(x == ("__debug__" : Str)) && !(x == ("__classdict__" : Str)) && !(x == ("__name__" : Str))
def lk {α : Type} (x : Str) : List (Str × α) → Option α
  | [] => none
  | (y, a) :: r => if x = y then some a else lk x r
def mkArr (n : Nat) (ks : List Str) (dfl : List (Str × Nat × D)) : Nat → List Str → Option (List Arr)
  | _, [] => some []
  | i, p :: ps => do
    let a ← (if i < n then some (Arr.at_ i) else match ixOf ks p with
      | some t => some (Arr.at_ (n + t))
      | none => match lk p dfl with
        | some (j, d) => some (Arr.dfl j d)
        | none => none)
    let r ← mkArr n ks dfl (i + 1) ps
    some (a :: r)
def arrOf (sg : Sig) (n : Nat) (ks : List Str) : Option (List Arr) := if n ≤ sg.np then mkArr n ks sg.dfl 0 sg.ps else none
def arSelf : List Arr → Bool
  | [.at_ 0] => true
  | _ => false
def lkM (c m : Str) : List (Str × Str × Sig) → Option Sig
  | [] => none
  | (c', m', s) :: r => if c = c' ∧ m = m' then some s else lkM c m r
def lkP (p : Pos) : List (Pos × Str) → Option Str
  | [] => none
  | (q, c) :: r => if p = q then some c else lkP p r
def tysOf : List Expr → Option (List String)
  | [] => some []
  | .Name x _ :: r => match tysOf r with
    | some ts => if x = "int" then some ("int" :: ts) else if x = "bool" then some ("bool" :: ts) else if x = "list" then some ("list" :: ts) else if x = "tuple" then some ("tuple" :: ts) else if x = "str" then some ("str" :: ts) else none
    | none => none
  | _ :: _ => none
def biOf (x : Str) (n : Nat) : Option Bi :=
  if n = 1 then (if x = "len" then some .len else if x = "abs" then some .abs_ else if x = "int" then some .int_ else if x = "sum" then some .sum else if x = "all" then some .all else if x = "any" then some .any
    else if x = "tuple" then some .tuple else if x = "list" then some .list else if x = "sorted" then some .sorted else if x = "max" then some .maxL else if x = "min" then some .minL else none)
  else if n = 2 then (if x = "min" then some .min2 else if x = "max" then some .max2 else none) else none
/-- forms told by their text -/
def spOf (g : Cfg) (x : Str) : List Expr → Option (Spc × List Expr)
  | [.Call (.Name y _) [a] [] _] => if x = "sorted" ∧ y = "set" ∧ isGl g.sc y = true ∧ isStar a = false then some (.sset, [a]) else none
  | [.Call (.Name y _) [a, b] kws _] => if x = "list" ∧ y = "zip" ∧ isGl g.sc y = true ∧ isStar a = false ∧ isStar b = false then (match kws with
      | [] => some (.zipL, [a, b])
      | [⟨some kn, .Constant (.bool true) _ _, _⟩] => if kn = "strict" then some (.zipS, [a, b]) else none
      | _ => none) else none
  | _ => none
/-- len of an instance, told by its place -/
def lenOf (g : Cfg) (x : Str) (pos : Pos) : List Expr → Option (Str × Expr)
  | [a] => if x = "len" ∧ isStar a = false then (match lkP pos g.mcl with
      | some c => match lkM c "__len__" g.gn.mth with
        | some sg => if g.gn.pats.contains (c ++ "." ++ "__len__", 1, []) = true ∧ (arrOf sg 1 []).map arSelf = some true then some (c, a) else none
        | none => none
      | none => none) else none
  | _ => none
def csLen : Cs → Nat
  | .nil => 0
  | .cons _ r => csLen r + 1
def ownsOf (N : List Str) : List (Str × NameKind) → Option (List (Str × Nat))
  | [] => some []
  | (x, k) :: r => match ownsOf N r with
    | some o => match k with
      | .local => if x = ".0" then some o else (ixOf N x).map fun i => (x, i) :: o
      | .cell => (ixOf N x).map fun i => (x, i) :: o
      | _ => some o
    | none => none
def gSlots : G → Option (List Nat)
  | .name i => some [i]
  | .tup gs => go gs
  | _ => none
where
  go : Gs → Option (List Nat)
    | .nil => some []
    | .cons g r => match gSlots g, go r with
      | some a, some b => some (a ++ b)
      | _, _ => none
def gsLen : Gs → Nat
  | .nil => 0
  | .cons _ r => gsLen r + 1
mutual
def cmpE : Nat → Cfg → Expr → Option C
  | 0, _, _ => none
  | n + 1, g, e => match cmpR n g e with
    | some c => some (if g.frz.contains e.pos then .frz c else c)
    | none => none
def cmpR : Nat → Cfg → Expr → Option C
  | 0, _, _ => none
  | n + 1, g, e => match e with
    | .Name x _ => if okName x then (if isLoc g.sc x then (ixOf g.N x).map .var else if isGl g.sc x then (lk x g.gn.cst).map .cst else none) else none
    | .Constant (.int i) _ _ => some (.cst (.int i))
    | .Constant (.bool b) _ _ => some (.cst (.bl b))
    | .Constant .none _ _ => some (.cst .non)
    | .Constant (.str x) _ _ => some (.cst (.str x))
    | .BinOp a op b pos => if op = .Add ∨ op = .Sub ∨ op = .Mult ∨ op = .FloorDiv ∨ op = .Mod ∨ op = .Pow then (match cmpE n g a, cmpE n g b with
        | some x, some y => some (.bin (g.own.contains pos) op x y)
        | _, _ => none) else none
    | .UnaryOp .USub a _ => (cmpE n g a).map .neg
    | .UnaryOp .Not a _ => (cmpE n g a).map .not
    | .BoolOp op vs _ => cmpB n g op vs
    | .Compare a [op] [b] _ => if behindInMarks op b = true then none else match cmpE n g a, cmpE n g b with
        | some x, some y => some (.cmp op x y)
        | _, _ => none
    | .Compare a [op, op'] [b, c] _ => if op = .In ∨ op = .NotIn ∨ op' = .In ∨ op' = .NotIn then none else match cmpE n g a, cmpE n g b, cmpE n g c with
        | some x, some y, some z => some (.chain op op' x y z)
        | _, _, _ => none
    | .IfExp t a b _ => match cmpT n g t, cmpE n g a, cmpE n g b with
        | some x, some y, some z => some (.ife x y z)
        | _, _, _ => none
    | .Tuple es _ _ => (cmpEs n g es).map .tup
    | .List es pos => (cmpEs n g es).map (.lst (g.own.contains pos))
    | .Subscript a (.Slice lo hi none _) pos => match cmpE n g a, cmpO n g lo, cmpO n g hi with
        | some x, some l, some h => some (.slc (g.own.contains pos) x l h)
        | _, _, _ => none
    | .Subscript a (.Slice none none (some (.UnaryOp .USub (.Constant (.int 1) _ _) _)) _) pos => (cmpE n g a).map (.rev (g.own.contains pos))
    | .Subscript a b _ => if isSlice b then none else match cmpE n g a, cmpE n g b with
        | some x, some y => some (.ix x y)
        | _, _ => none
    | .Attribute o f _ => if isCallE o then none else if g.gn.flds.contains f then (cmpE n g o).map fun x => .fld x f else none
    | .Call (.Name x _) es kws pos => if okName x && isGl g.sc x && noStars es && allNamed kws && decide (es.length + kws.length < 20) then
        (match lk x g.gn.fns with
        | some sg => if g.gn.pats.contains (x, es.length, kws.filterMap (·.arg)) then (match arrOf sg es.length (kws.filterMap (·.arg)), cmpEs n g es, cmpK n g kws with
            | some ar, some as, some ks => some (.call x ar as ks)
            | _, _, _ => none) else none
        | none => match lk x g.gn.cls with
          | some sg => if kws.isEmpty && !es.isEmpty && g.gn.pats.contains (x ++ ".__init__", es.length + 1, []) then (match arrOf sg (es.length + 1) [], cmpEs n g es with
              | some ar, some as => some (.make x (g.own.contains pos) ar as)
              | _, _ => none) else none
          | none => if kws.isEmpty then (if x = "isinstance" then (match es with
              | [a, .Name t p] => match cmpE n g a, tysOf [.Name t p] with
                | some c, some ts => if okName t && isGl g.sc t && (lk t g.gn.cst).isNone then some (.isi c ts) else none
                | _, _ => none
              | [a, .Tuple tys _ _] => match cmpE n g a, tysOf tys with
                | some c, some ts => if tys.all (fun | .Name t _ => okName t && isGl g.sc t | _ => false) && decide (tys.length < 20) then some (.isi c ts) else none
                | _, _ => none
              | _ => none)
            else match lenOf g x pos es with
              | some (c, a) => (cmpE n g a).map (.olen c)
              | none => match spOf g x es with
              | some (b, as) => (cmpEs n g as).map (.sp (g.own.contains pos) b)
              | none => match biOf x es.length with
                | some b => (cmpEs n g es).map (.bi (g.own.contains pos) b)
                | none => none) else none) else none
    | .Call (.Attribute o m ap) es kws pos => if isCallE o || !noStars es || !allNamed kws || !(ap.endLine == pos.line) || !decide (es.length + kws.length < 20) then none else
        (match lkP pos g.mcl with
        | some c => match lkM c m g.gn.mth with
          | some sg => if g.gn.pats.contains (c ++ "." ++ m, es.length + 1, kws.filterMap (·.arg)) then (match arrOf sg (es.length + 1) (kws.filterMap (·.arg)), cmpE n g o, cmpEs n g es, cmpK n g kws with
              | some ar, some x, some as, some ks => some (.meth c m ar x as ks)
              | _, _, _, _ => none) else none
          | none => none
        | none => if kws.isEmpty then (if m = "append" then (match es with
            | [e1] => match cmpE n g o, cmpE n g e1 with
              | some x, some y => some (.bm false .append x (.cons y .nil))
              | _, _ => none
            | _ => none) else none) else none)
    | .ListComp elt [⟨tg, iter, ifs, 0⟩] sc pos => match ownsOf g.N sc.names with
        | some ow => if blkC g.N g.sc sc ow && !isSetE iter then (match cmpI n g iter tg, cmpG n { g with sc := sc } tg, cmpIf n { g with sc := sc } ifs, cmpE n { g with sc := sc } elt with
            | some i, some t, some f, some c => match gSlots t with
              | some sl => if sl.all (fun k => (ow.map (·.2)).contains k) then some (.lc (g.own.contains pos) c t i f (ow.map (·.2))) else none
              | none => none
            | _, _, _, _ => none) else none
        | none => none
    | _ => none
def cmpB : Nat → Cfg → BoolOp → List Expr → Option C
  | 0, _, _, _ => none
  | n + 1, g, op, vs => match vs with
    | [] => none
    | [a] => cmpE n g a
    | a :: b :: r => match cmpE n g a, cmpB n g op (b :: r) with
      | some x, some y => some (match op with
        | .And => .and x y
        | .Or => .or x y)
      | _, _ => none
/-- a test -/
def cmpT : Nat → Cfg → Expr → Option C
  | 0, _, _ => none
  | n + 1, g, e => match e with
    | .UnaryOp .Not a _ => (cmpT n g a).map .not
    | .BoolOp op vs _ => cmpTB n g op vs
    | .Compare a [op] [b] _ => if behindInMarks op b = true then none else match cmpE n g a, cmpE n g b with
        | some x, some y => some (.cmp op x y)
        | _, _ => none
    | .Compare a [op, op'] [b, c] _ => if op = .In ∨ op = .NotIn ∨ op' = .In ∨ op' = .NotIn then none else match cmpE n g a, cmpE n g b, cmpE n g c with
        | some x, some y, some z => some (.chain op op' x y z)
        | _, _, _ => none
    | e => if testy e then none else cmpE n g e
def cmpTB : Nat → Cfg → BoolOp → List Expr → Option C
  | 0, _, _, _ => none
  | n + 1, g, op, vs => match vs with
    | [] => none
    | [a] => cmpT n g a
    | a :: b :: r => match cmpT n g a, cmpTB n g op (b :: r) with
      | some x, some y => some (match op with
        | .And => .and x y
        | .Or => .or x y)
      | _, _ => none
def cmpEs : Nat → Cfg → List Expr → Option Cs
  | 0, _, _ => none
  | n + 1, g, es => match es with
    | [] => some .nil
    | e :: r => if isStar e then none else match cmpE n g e, cmpEs n g r with
      | some x, some y => some (.cons x y)
      | _, _ => none
def cmpK : Nat → Cfg → List Keyword → Option Cs
  | 0, _, _ => none
  | n + 1, g, ks => match ks with
    | [] => some .nil
    | ⟨_, e, _⟩ :: r => match cmpE n g e, cmpK n g r with
      | some x, some y => some (.cons x y)
      | _, _ => none
def cmpO : Nat → Cfg → Option Expr → Option Co
  | 0, _, _ => none
  | n + 1, g, o => match o with
    | none => some .no
    | some e => (cmpE n g e).map .so
def cmpIf : Nat → Cfg → List Expr → Option Co
  | 0, _, _ => none
  | n + 1, g, o => match o with
    | [] => some .no
    | [e] => (cmpT n g e).map .so
    | _ => none
/-- what is walked, for a target -/
def cmpI : Nat → Cfg → Expr → Expr → Option I
  | 0, _, _, _ => none
  | n + 1, g, e, tg => match e with
    | .Call (.Name x _) es kws _ => if isGl g.sc x && okName x && (lk x g.gn.fns).isNone && (lk x g.gn.cls).isNone then (
        if x = "range" then (match kws, es with
          | [], [a] => if isStar a then none else (cmpE n g a).map .range1
          | [], [a, b] => if isStar a || isStar b then none else (match cmpE n g a, cmpE n g b with
            | some u, some v => some (.range2 u v)
            | _, _ => none)
          | _, _ => none)
        else if x = "zip" then (match tg, kws, es with
          | .Tuple _ _ _, [], [a, b] => if isStar a || isStar b then none else (match cmpE n g a, cmpE n g b with
            | some u, some v => some (.zip false u v)
            | _, _ => none)
          | .Tuple _ _ _, [⟨some kn, .Constant (.bool true) _ _, _⟩], [a, b] => if isStar a || isStar b || !decide (kn = "strict") then none else (match cmpE n g a, cmpE n g b with
            | some u, some v => some (.zip true u v)
            | _, _ => none)
          | _, _, _ => none)
        else if x = "enumerate" then (match tg, kws, es with
          | .Tuple _ _ _, [], [a] => if isStar a then none else (cmpE n g a).map .enum
          | _, _, _ => none)
        else (cmpE n g e).map .seq) else (cmpE n g e).map .seq
    | e => (cmpE n g e).map .seq
def cmpG : Nat → Cfg → Expr → Option G
  | 0, _, _ => none
  | n + 1, g, e => match e with
    | .Name x _ => if isSto g.sc x then (ixOf g.N x).map .name else none
    | .Tuple es _ _ => match cmpGs n g es with
        | some gs => if (gSlots.go gs).isSome then some (.tup gs) else none
        | none => none
    | .Subscript o i _ => if isSlice i then none else match cmpE n g o, cmpE n g i with
        | some x, some y => some (.sub x y)
        | _, _ => none
    | _ => none
def cmpGs : Nat → Cfg → List Expr → Option Gs
  | 0, _, _ => none
  | n + 1, g, es => match es with
    | [] => some .nil
    | e :: r => if isStar e then none else match cmpG n g e, cmpGs n g r with
      | some x, some y => some (.cons x y)
      | _, _ => none
end
/-- names and values as many, told ahead of the stores -/
def parN (sc : Scope) (ts vs : List Expr) : Bool := match ts, vs with
  | [.Name x p, .Name y q], [a, b] => decide (sc.names.lookup x = some .local) && decide (sc.names.lookup y = some .local) && q.line == p.line && decide (x ≠ y) && !isStar a && !isStar b &&
      !([a, b].all (foldedForSure 8)) && !([a, b].all (constantsAlone 8))
  | _, _ => false
def par3N (sc : Scope) (ts vs : List Expr) : Bool := match ts, vs with
  | [.Name x p, .Name y q, .Name z r], [a, b, c] => decide (sc.names.lookup x = some .local) && decide (sc.names.lookup y = some .local) && decide (sc.names.lookup z = some .local) && q.line == p.line && r.line == p.line &&
      decide (x ≠ y) && decide (x ≠ z) && decide (y ≠ z) && !isStar a && !isStar b && !isStar c && !([a, b, c].all (foldedForSure 8)) && !([a, b, c].all (constantsAlone 8))
  | _, _ => false
/-- a target that is no plain local -/
def oddT (sc : Scope) : Expr → Bool
  | .Name x _ => !decide (sc.names.lookup x = some .local)
  | _ => true
mutual
def cmpS : Nat → Cfg → Stmt → Option S
  | 0, _, _ => none
  | n + 1, g, st => match st with
    | .Assign [.Attribute o f _] e _ => if g.gn.flds.contains f && !isComp e then (match cmpE n g o, cmpE n g e with
        | some x, some y => some (.asg (.fld x f) y)
        | _, _ => none) else none
    | .Assign [.Tuple ts k2 p2] (.Tuple vs k p) _ => if parN g.sc ts vs then (match ts, vs with
        | [.Name x _, .Name y _], [a, b] => match ixOf g.N x, ixOf g.N y, cmpE n g a, cmpE n g b with
          | some i, some l, some u, some v => some (.par2 i l u v)
          | _, _, _, _ => none
        | _, _ => none)
      else if par3N g.sc ts vs then (match ts, vs with
        | [.Name x _, .Name y _, .Name z _], [a, b, c] => match ixOf g.N x, ixOf g.N y, ixOf g.N z, cmpE n g a, cmpE n g b, cmpE n g c with
          | some i, some l, some m, some u, some v, some w => some (.par3 i l m u v w)
          | _, _, _, _, _, _ => none
        | _, _ => none)
      else if ts.any (oddT g.sc) then (match cmpG n g (.Tuple ts k2 p2), cmpE n g (.Tuple vs k p) with
        | some t, some c => some (.asg t c)
        | _, _ => none) else none
    | .Assign [tg] e _ => (match tg with
        | .Tuple _ _ _ => if isComp e || (match e with | .Tuple _ _ _ => true | _ => false) then none else (match cmpG n g tg, cmpE n g e with
          | some t, some c => some (.asg t c)
          | _, _ => none)
        | .Name _ _ => (match cmpG n g tg, cmpE n g e with
          | some t, some c => some (.asg t c)
          | _, _ => none)
        | .Subscript _ _ _ => if isComp e then none else (match cmpG n g tg, cmpE n g e with
          | some t, some c => some (.asg t c)
          | _, _ => none)
        | _ => none)
    | .AugAssign (.Name x _) op e _ => if isSto g.sc x then (match ixOf g.N x, cmpE n g e with
        | some i, some c => some (.aug i op c)
        | _, _ => none) else none
    | .AugAssign (.Subscript o i _) op e _ => if isSlice i then none else (match cmpE n g o, cmpE n g i, cmpE n g e with
        | some x, some y, some c => some (.augS x y op c)
        | _, _, _ => none)
    | .Expr e _ => if isComp e then none else (cmpE n g e).map .expr
    | .Return none _ => some .retN
    | .Return (some e) _ => (cmpE n g e).map .ret
    | .If t a b _ => match cmpT n g t, cmpSs n g a, cmpSs n g b with
        | some c, some x, some y => some (.ite c x y)
        | _, _, _ => none
    | .While t b [] _ => match cmpT n g t, cmpSs n g b with
        | some c, some x => some (.whl c x)
        | _, _ => none
    | .For tg iter b [] _ => if isSetE iter then none else match cmpI n g iter tg, cmpG n g tg, cmpSs n g b with
        | some i, some t, some x => some (.for_ t i x)
        | _, _, _ => none
    | .Pass _ => some .pass
    | .Break _ => some .brk
    | .Continue _ => some .cont
    | .Raise _ _ _ => some .never
    | _ => none
def cmpSs : Nat → Cfg → List Stmt → Option Ss
  | 0, _, _ => none
  | n + 1, g, ss => match ss with
    | [] => some .nil
    | s :: r => match cmpS n g s, cmpSs n g r with
      | some x, some y => some (.cons x y)
      | _, _ => none
end
end Sw
set_option maxRecDepth 100000
set_option maxHeartbeats 4000000
/-! Sw: the reading of a tuple from its end. -/
namespace Sw
open PySem PySem.Spec PyProof.Rows L2 HT
section
variable {prog : Program} {w : World} {A : Around} {E : Value → Shared → Prop} {s : Shared}
theorem adjust_rev (n : Nat) : Builtin.Slice.sliceAdjust none none (-1) (n : Int) = ((n : Int) - 1, -1) := rfl
theorem places_rev (n : Nat) : Builtin.Slice.slicePlaces ((n : Int) - 1) (-1) (-1) = n := by
  unfold Builtin.Slice.slicePlaces
  rw [if_neg (by decide)]
  by_cases h : (n : Int) - 1 > -1
  · rw [if_pos h, show (- -1 : Int) = 1 by decide, Int.ediv_one]
    omega
  · rw [if_neg h]
    have : n = 0 := by omega
    subst this
    rfl
theorem sliceApplied_rev {sl : Addr} {vl vu vs : Value} {n : Nat} {Q : Int × Int × Nat → Shared → Prop} (hs : s.heap.IsSliceOf sl vl vu vs) (pl : IsPart vl none) (pu : IsPart vu none) (ps : IsPart vs (some (-1)))
    (h : Q ((n : Int) - 1, -1, n) s) : wpAny (model prog w) A (Builtin.Slice.sliceApplied (.ref sl) (pure (n : Int))) Q E s := by
  obtain ⟨os, hos, hcs, hds⟩ := id hs
  unfold Builtin.Slice.sliceApplied Builtin.Slice.sliceFields
  refine wpAny_bind (wpAny_bind (wpAny_field hos hds (x := vl) rfl (wpAny_bind (wpAny_field hos hds (x := vu) rfl (wpAny_bind (wpAny_field hos hds (x := vs) rfl (wpAny_pure ?_)))))))
  refine wpAny_bind (slicePart_ ps ?_)
  show wpAny _ _ (if ((-1 : Int) == 0) = true then _ else _) _ _ s
  rw [if_neg (by decide)]
  refine wpAny_bind (slicePart_ pl (wpAny_bind (slicePart_ pu (wpAny_bind (wpAny_pure ?_)))))
  show wpAny _ _ (match Builtin.Slice.sliceAdjust none none (-1) (n : Int) with | (lo, hi) => pure (lo, (-1 : Int), Builtin.Slice.slicePlaces lo hi (-1))) _ _ s
  rw [adjust_rev]
  show wpAny _ _ (pure ((n : Int) - 1, (-1 : Int), Builtin.Slice.slicePlaces ((n : Int) - 1) (-1) (-1))) _ _ s
  rw [places_rev]
  exact wpAny_pure h
theorem fm_congr {α β : Type} {f g : α → Option β} : ∀ l : List α, (∀ x ∈ l, f x = g x) → l.filterMap f = l.filterMap g
  | [], _ => rfl
  | a :: l, h => by
    rw [List.filterMap_cons, List.filterMap_cons, h a List.mem_cons_self, fm_congr l fun x m => h x (List.mem_cons_of_mem _ m)]
theorem pick_rev (xs : Array Value) : ((List.range xs.size).filterMap fun (k : Nat) => xs[((xs.size : Int) - 1 + (k : Int) * -1).toNat]?).toArray = xs.toList.reverse.toArray := by
  have e : ((List.range xs.size).filterMap fun (k : Nat) => xs[((xs.size : Int) - 1 + (k : Int) * -1).toNat]?) = ((List.range xs.size).map (fun k => xs.size - 1 - k)).filterMap (xs[·]?) := by
    rw [List.filterMap_map]
    refine fm_congr _ fun k hk => ?_
    have := List.mem_range.mp hk
    show _ = xs[xs.size - 1 - k]?
    congr 1
    omega
  rw [e, PySem.W.krv_range, List.filterMap_reverse, PySem.W.krv_all]
theorem getItem_tuple_rev {t sl : Addr} {items : Array Value} {vl vu vs : Value} {Q : Value → Shared → Prop} (ht : IsTup s.heap t items) (hs : s.heap.IsSliceOf sl vl vu vs) (pl : IsPart vl none) (pu : IsPart vu none) (ps : IsPart vs (some (-1)))
    (h : Q (.ref s.heap.objs.size) { s with heap := s.heap.push { cls := .type "tuple", data := .seq items.toList.reverse.toArray } })
    (hsz : items.size ≤ sizeLine) : wpAny (model prog w) A (getItem (.ref t) (.ref sl)) Q E s := by
  have htake : sizeOk (.seq items.toList.reverse.toArray) := by
    show items.toList.reverse.toArray.size ≤ sizeLine
    rw [List.size_toArray, List.length_reverse, Array.length_toList]
    exact hsz
  obtain ⟨os, hos, hcs, hds⟩ := id hs
  have hTs : s.TypeIs (.ref sl) "slice" := ⟨os, hos, hcs⟩
  unfold getItem
  try with_reducible refine wpAny_holding ?_
  first | refine wpAny_bind (wpAny_pure ?_) | skip
  refine wpAny_bind (wpAny_sequenceKey ht.typeIs (by decide) ?_)
  refine wpAny_bind (wpAny_callSpecial?_slot (name := Str.ofString "__getitem__") ht.typeIs PyProof.Rows.slot_tuple_getitem
    (wpAny_call_entry PyProof.Rows.slot_tuple_getitem ht.typeIs entry_tuple_getitem ?_ (args_tuple_getitem _ _)))
  show wpAny _ _ (Builtin.Tuple.tupleItemsOf (.ref t) >>= _) _ _ s
  refine wpAny_bind (tupleItemsOf_ ht ?_)
  refine wpAny_bind (wpAny_typeOf hTs ?_)
  rw [if_pos (by decide)]
  refine wpAny_bind (sliceApplied_rev hs pl pu ps ?_)
  have hno : ¬ ((((items.size : Int) - 1) == 0 && (-1 : Int) == 1 && items.size == items.size) = true) := by
    rw [show ((-1 : Int) == 1) = false by decide, Bool.and_false, Bool.false_and]
    exact Bool.false_ne_true
  show wpAny _ _ (if (((items.size : Int) - 1) == 0 && (-1 : Int) == 1 && items.size == items.size) = true then _ else _) _ _ s
  rw [if_neg hno, pick_rev]
  first
    | exact wpAny_bind (m := Builtin.Tuple.tupleExact _) (wpAny_newObj_type (wpAny_pure ⟨_, rfl, wpAny_pure h⟩) htake)
    | exact wpAny_bind (m := Builtin.Tuple.tupleExact _) (wpAny_newObj_type (wpAny_bind (wpAny_pure (wpAny_pure ⟨_, rfl, wpAny_pure h⟩))) htake)
    | exact wpAny_bind (wpAny_bind (m := Builtin.Tuple.tupleExact _) (wpAny_newObj_type (wpAny_pure (wpAny_pure ⟨_, rfl, wpAny_pure h⟩)) htake))
    | exact wpAny_bind (wpAny_bind (m := Builtin.Tuple.tupleExact _) (wpAny_newObj_type (wpAny_pure ⟨_, rfl, wpAny_pure h⟩) htake))
end
/-- e[::-1], of a list or a tuple -/
def tRevA (K : PySem.W.Frag) (te : TE) : TE := fun σ H Q => te σ H fun x H1 => ∃ a xs, x = .ref a ∧ ((SqL K H1 a xs ∧ ∀ p, H1 p = none → Q (.ref p) (upd H1 p (.lst xs.reverse))) ∨ (SqT K H1 a xs ∧ ∀ p, H1 p = none → Q (.ref p) (upd H1 p (.tup xs.reverse))))
theorem pe_revA {X : Cx} {e : Expr} {te : TE} {k : Nat} {p1 p2 p3 pos : Pos} (he : PE X e te) : PE X (.Subscript e (.Slice none none (some (.UnaryOp .USub (.Constant (.int 1) k p1) p2)) p3) pos) (tRevA X.K te) := by
  refine ⟨fun pins s σ H Q I h => ?_⟩
  refine Subscript_ (thn (he.run pins s σ H _ I h) fun v s1 ⟨x, H1, I1, r1, q1⟩ => ?_)
  obtain ⟨a, xs, ex, q⟩ := q1
  subst ex
  cases r1
  have hst : PO X (some (.UnaryOp .USub (.Constant (.int 1) k p1) p2)) (tPart (tUn (rU fun i => .int (-i)) (tC (.int 1)))) := po_some (pe_un un_neg pe_int)
  refine wpAny_Slice (thn (po_none.run pins s1 σ H1 (fun o H2 => o = none ∧ H2 = H1) I1 ⟨rfl, rfl⟩) fun vl s2 ⟨l, H2, I2, pl, el, e2⟩ => ?_)
  subst el e2
  refine thn (po_none.run pins s2 σ H2 (fun o H3 => o = none ∧ H3 = H2) I2 ⟨rfl, rfl⟩) fun vu s3 ⟨u, H3, I3, pu, eu, e3⟩ => ?_
  subst eu e3
  refine thn (hst.run pins s3 σ H3 (fun o H4 => o = some (-1) ∧ H4 = H3) I3 ⟨1, rfl, -1, rfl, rfl, rfl⟩) fun vs s4 ⟨o, H4, I4, ps, eo, e4⟩ => ?_
  subst eo e4
  have I5 : Inv X pins σ H4 { s4 with heap := s4.heap.push { cls := .type "slice", data := .fields #[vl, vu, vs] } } := I4.kept (t' := s4.toks) fun b ob q => Heap.get?_push_of_some _ q
  show wpAny (model X.prog X.w) X.A (subscriptTail e (.Slice none none (some (.UnaryOp .USub (.Constant (.int 1) k p1) p2)) p3) (.ref a) (.ref s4.heap.objs.size)) (EP X pins σ Q) X.xe { s4 with heap := s4.heap.push { cls := .type "slice", data := .fields #[vl, vu, vs] } }
  rcases q with ⟨hx, q⟩ | ⟨hx, q⟩
  · obtain ⟨its, r, ht, hz⟩ := I5.list hx
    have hlen := r.length
    refine tail_any (ops := [.ref a, .ref s4.heap.objs.size]) ht.isList.typeIs (PySem.slot_list_getitem.lookup) ?_ (by with_unfolding_all rfl)
    refine wpAny_getItem_list_slice ht.isList (Heap.IsSliceOf.new _ vl vu vs) pl pu ps (by decide) ?_ (by rw [List.size_toArray]; omega)
    rw [PySem.W.krv_pick]
    refine ⟨.ref _, _, I5.laid (t' := s4.toks) (o := .lst xs.reverse) (fun b ob q => Heap.get?_push_of_some _ q) (Nat.le_refl _) ?_, rfl, q _ (I5.hok.fresh (Nat.le_refl _))⟩
    exact ⟨by rw [List.length_reverse]; exact hz, _, 0, r.reverse, Heap.get?_push_size _ rfl⟩
  · obtain ⟨its, r, ht, hz⟩ := I5.tuple hx
    have hlen := r.length
    refine tail_any (ops := [.ref a, .ref s4.heap.objs.size]) ht.typeIs (PyProof.Rows.slot_tuple_getitem.lookup) ?_ (by with_unfolding_all rfl)
    refine getItem_tuple_rev ht (Heap.IsSliceOf.new _ vl vu vs) pl pu ps ?_ (by rw [List.size_toArray]; omega)
    refine ⟨.ref _, _, I5.laid (t' := s4.toks) (o := .tup xs.reverse) (fun b ob q => Heap.get?_push_of_some _ q) (Nat.le_refl _) ?_, rfl, q _ (I5.hok.fresh (Nat.le_refl _))⟩
    exact ⟨by rw [List.length_reverse]; exact hz, _, r.reverse, IsTup.new _ _⟩
end Sw
set_option maxRecDepth 100000
set_option maxHeartbeats 4000000
/-! Sw: sorted(set(a list of ints)), list(zip(..)). -/
namespace L2
open PySem PySem.Spec PyProof.Rows
section
variable {P : Program} {w : World} {A : Around} {E : Value → Shared → Prop} {s : Shared}
set_option maxRecDepth 100000 in
set_option maxHeartbeats 3200000 in
theorem call_set_lstI {l : Addr} {items : Array Value} (ns : List Int) {Q : Value → Shared → Prop} (hh : A.handled = none) (hl : s.heap.IsList l items) (hit : IntsAre items.toList ns) (hb : ns.length + 1 < scanBound)
    (h : ∀ (h' : Heap) (tk c : Nat), SetR w h' s.heap.objs.size (fun j => decide (j ∈ ns)) c → c ≤ ns.length → (∀ b o, s.heap.get? b = some o → h'.get? b = some o) → Q (.ref s.heap.objs.size) { s with heap := h', toks := tk }) :
    wpAny (model P w) A (call (.type "set") [.ref l]) Q E s := by
  have hisz : items.size = ns.length := by
    have q := IntsAre.length hit
    rw [Array.length_toList] at q
    exact q
  obtain ⟨c, tl, hmro⟩ := F.called_set.mro
  have hmade := F.called_set.made
  have hsub := F.called_set.sub
  refine wpAny_call (codeAny_of_tree ?_)
  show wpAny _ _ (callAny (.type "set") _) _ _ _
  refine wpAny_pure ⟨Code.quiet_builtin _ (by decide +kernel), codeAny_builtin F.entry_type_call ?_⟩
  rw [Around.under_plain (weight_type_call_type "set" [.ref l] []) rfl]
  have h1 := F.called_set.notType
  have h2 := F.called_set.canCreate
  have hct := F.typeCall_set_1 (.ref l)
  repeat (any_goals (first | assumption | wp_step))
  refine codeAny_mono (code_set_led1 (.ref l) (E := E) (Q₁ := fun obj s₁ => obj = .ref s.heap.objs.size ∧ s₁ = { s with heap := s.heap.push { cls := .type "set", dict := none, data := .set #[] 0 (.fresh 0 0 (!w.params.followText "set-order")) } }) ⟨rfl, rfl⟩) fun r s₁ hr => ?_
  cases r with
  | error e => exact hr
  | ok fl =>
    cases fl with
    | ret obj =>
      obtain ⟨rfl, rfl⟩ := hr
      have hS : (s.heap.push { cls := .type "set", dict := none, data := .set #[] 0 (.fresh 0 0 (!w.params.followText "set-order")) }).get? s.heap.objs.size = some { cls := .type "set", dict := none, data := .set #[] 0 (.fresh 0 0 (!w.params.followText "set-order")) } := Heap.get?_push_size _ rfl
      have hT : Shared.TypeIs { s with heap := s.heap.push { cls := .type "set", dict := none, data := .set #[] 0 (.fresh 0 0 (!w.params.followText "set-order")) } } (.ref s.heap.objs.size) "set" := ⟨_, hS, rfl⟩
      have hli := F.called_set.init.lookup
      have hbi := F.called_set.init.bind (.ref s.heap.objs.size)
      repeat (any_goals (first | assumption | wp_step))
      refine codeAny_mono (codeAny_call_builtin (R := wants (fun r s₂ => r = .none ∧ ∃ h' tk c, s₂ = { s with heap := h', toks := tk } ∧ SetR w h' s.heap.objs.size (fun j => decide (j ∈ ns)) c ∧ c ≤ ns.length ∧
          (∀ b o, s.heap.get? b = some o → h'.get? b = some o)) E) F.called_set.init.plain F.entry_set_init (check_set_init_1 hT ?_)) fun r₂ s₂ hr₂ => ?_
      · obtain ⟨ol, hol, hcl, nl, hdl⟩ := hl
        obtain ⟨ocls, odict, odata, oslots⟩ := ol
        simp only at hcl hdl
        subst hcl; subst hdl
        have hol' : (s.heap.push { cls := .type "set", dict := none, data := .set #[] 0 (.fresh 0 0 (!w.params.followText "set-order")) }).get? l = some { cls := .type "list", dict := odict, data := .seq items nl, slots := oslots } := Heap.get?_push_of_some _ hol
        have hsls := F.sub_list_set
        have hslf := F.sub_list_frozenset
        have hne : (Value.type "list" == Value.type "dict") = false := by decide
        have hl1 : (s.heap.push { cls := .type "set", dict := none, data := .set #[] 0 (.fresh 0 0 (!w.params.followText "set-order")) }).IsList l items := ⟨_, hol', rfl, nl, rfl⟩
        unfold Builtin.«set.__init__» noKeywords Builtin.Frozenset.updateFrom
        generalize hPI : pyIter = PI
        wp_walk
        subst hPI
        refine wpAny_pyIter_list hl1 ?_
        refine wpAny_bind (wpAny_runValue ?_)
        have hlS : l < s.heap.objs.size := Heap.lt_size hol
        have hh3 : A.in1.in1.in1.handled = none := by simp [hh]
        have hz1 : (s.heap.push { cls := .type "set", dict := none, data := .set #[] 0 (.fresh 0 0 (!w.params.followText "set-order")) }).objs.size = s.heap.objs.size + 1 := Heap.size_push ..
        have hneI : l ≠ (s.heap.push { cls := .type "set", dict := none, data := .set #[] 0 (.fresh 0 0 (!w.params.followText "set-order")) }).objs.size := by
          rw [Heap.size_push]; exact Nat.ne_of_lt (Nat.lt_succ_of_lt hlS)
        have hSf : s.heap.objs.size ∉ [(s.heap.push { cls := .type "set", dict := none, data := .set #[] 0 (.fresh 0 0 (!w.params.followText "set-order")) }).objs.size, l] := by
          rw [Heap.size_push]; simp only [List.mem_cons, List.mem_singleton, List.not_mem_nil, or_false, not_or]
          exact ⟨Nat.ne_of_lt (Nat.lt_succ_self _), Nat.ne_of_gt hlS⟩
        have hval : ∀ (i : Nat) (v : Value), items[i]? = some v → ∃ k t, ns[i]? = some k ∧ v = .int k t := fun i v hv => by
          have hi : i < ns.length := by rw [← hisz]; exact (Array.getElem?_eq_some_iff.mp hv).1
          obtain ⟨t, e⟩ := PyProof.Rows.IntsAre.int_at hit i v (by rw [Array.getElem?_toList]; exact hv)
          refine ⟨ns[i], t, List.getElem?_eq_getElem hi, ?_⟩
          rw [e, List.getD_eq_getElem?_getD, List.getElem?_eq_getElem hi] <;> rfl
        refine set_update_ints ((Walks.list hh3 _ l hneI items).toS) s.heap.objs.size
          hSf ns hisz hb hval (items.size - 0) 0 _ (by omega) (Nat.zero_le _)
          ⟨⟨_, Heap.get?_push_size _ rfl, rfl, rfl⟩, (hl1.push _)⟩ ?hS0 ?hR
        case hS0 =>
          have hget : ((s.heap.push { cls := .type "set", dict := none, data := .set #[] 0 (.fresh 0 0 (!w.params.followText "set-order")) }).push { cls := .type "list_iterator", data := .fields #[.ref l, .int 0 0] }).get? s.heap.objs.size
              = some { cls := .type "set", dict := none, data := .set #[] 0 (.fresh 0 0 (!w.params.followText "set-order")) } := Heap.get?_push_of_some _ hS
          exact ⟨0, Nat.le_refl 0, setR_new_at hget⟩
        case hR =>
          intro s' c' hm hc' hS'
          obtain ⟨h', g2, d', tk', os'⟩ := s'
          have eg : g2 = s.gens := hm.gens
          have ed : d' = s.drawn := hm.drawn
          have eo : os' = s.os := hm.os
          subst eg; subst ed; subst eo
          show wpAny _ _ _ _ _ _
          refine wpAny_pure ?_
          show wpAny _ _ (ret Value.none) _ _ _
          rw [hisz] at hc'
          refine wpAny_pure ⟨rfl, h', tk', c', rfl, hS', hc', fun b o e => ?_⟩
          have hb0 : b < s.heap.objs.size := Heap.lt_size e
          have hb1 : b ≠ s.heap.objs.size := Nat.ne_of_lt hb0
          have hb2 : b ≠ (s.heap.push { cls := .type "set", dict := none, data := .set #[] 0 (.fresh 0 0 (!w.params.followText "set-order")) }).objs.size := by
            rw [Heap.size_push]; exact Nat.ne_of_lt (Nat.lt_succ_of_lt hb0)
          exact hm.heap b o (by simp only [List.mem_cons, List.mem_singleton, List.not_mem_nil, or_false, not_or]; exact ⟨hb1, hb2⟩) (Heap.get?_push_of_some _ (Heap.get?_push_of_some _ e))
      · cases r₂ with
        | error e => exact hr₂
        | ok fl₂ =>
          cases fl₂ with
          | ret r =>
            obtain ⟨rfl, h', tk, c', rfl, hS', hc', hk'⟩ := hr₂
            repeat (any_goals (first | assumption | wp_step))
            exact h _ _ _ hS' hc' hk'
          | _ => exact hr₂.elim
    | _ => exact hr.elim
end
end L2
set_option maxRecDepth 100000
set_option maxHeartbeats 4000000
/-! Sw: sorted(set(a list of ints)). -/
namespace Sw
open PySem PySem.Spec PyProof.Rows L2
theorem boot_sorted : bootBuiltins "sorted" = some (.builtin "sorted") := by decide +kernel
def rSset (K : PySem.W.Frag) : List V → Hp → VK → Prop := fun vs H Q => ∃ (l : Addr) (ns : List Int), vs = [.ref l] ∧ SqL K H l (ns.map V.int) ∧ ns.length < 64 ∧
  ∀ (out : List Int) (p : Addr), out.Pairwise (· < ·) → (∀ k, k ∈ out ↔ k ∈ ns) → H p = none → Q (.ref p) (upd H p (.lst (out.map V.int)))
theorem ints_vals : ∀ {ns : List Int} {us : List Value}, Vals (ns.map V.int) us → PyProof.Rows.IntsAre us ns
  | [], _, .nil => .nil
  | n :: ns, _, .cons r t => by
    obtain ⟨k, rfl⟩ := r
    exact .cons n k (ints_vals t)
theorem sset_fin {X : Cx} {pins : List (Addr × Obj)} {σ : L2.St} {H : Hp} {s : Shared} {Q : VK} {a : Addr} {ns : List Int} {c : Nat} (I : Inv X pins σ H s) (hc : X.calm = true) (hS : SetR X.w s.heap a (fun j => decide (j ∈ ns)) c) (h64 : c < 64)
    (kq : ∀ (out : List Int) (p : Addr), out.Pairwise (· < ·) → (∀ k, k ∈ out ↔ k ∈ ns) → H p = none → Q (.ref p) (upd H p (.lst (out.map V.int)))) : wpAny (model X.prog X.w) X.A (call (.builtin "sorted") [.ref a]) (EP X pins σ Q) X.xe s := by
  refine sorted_set hS (I.ok.hd hc) h64 fun s' p out c2 ns' kk g o hp hg hi hs hm hl => ?_
  have hlen : (ns'.map V.int).length ≤ sizeLine := by rw [List.length_map, hl, sizeLine_eq]; omega
  have hn : H p = none := I.hok.fresh hp
  have J : Inv X pins σ (upd H p (.lst (ns'.map V.int))) { s with heap := s'.heap, gens := s'.gens, drawn := s'.drawn, toks := s'.toks } :=
    I.call (ch := []) (Un.laid kk hp hn) (I.hok.laid kk hp ⟨hlen, out.toList, c2, vals_of_ints hi, hg⟩) (by rw [g]; exact I.bare) (fun _ z => nomatch z)
  have e : s' = { s with heap := s'.heap, gens := s'.gens, drawn := s'.drawn, toks := s'.toks } := by
    cases s'
    cases s
    cases o
    rfl
  rw [e]
  exact ⟨.ref p, _, J, rfl, kq ns' p hs (fun k => by rw [hm k]; simp) hn⟩
theorem pe_sset {X : Cx} {a : Expr} {ta : TA} {p p2 q pos : Pos} (hc : X.calm = true) (hg : Gl X "sorted") (hm : X.mg "sorted" = none) (hg2 : Gl X "set") (hm2 : X.mg "set" = none) (ha : PA X [a] ta) (na : starEach [a] X.env = (false, eval a X.env) :: starEach [] X.env) :
    PE X (.Call (.Name "sorted" p) [.Call (.Name "set" p2) [a] [] q] [] pos) (tCB (rSset X.K) ta) := by
  refine ⟨fun pins s σ H Q I h => ?_⟩
  refine Call_ (ld_blt I hg hm boot_sorted ?_)
  refine PyProof.Rows.callWith_builtin1 (PyProof.Rows.args_cons ?_ rfl) rfl rfl
  refine Call_ (ld_blt I hg2 hm2 boot_set ?_)
  refine PyProof.Rows.callWith_type1 (thn (ha.run q pins s σ H _ I h) fun us s1 ⟨vs, H1, I1, r1, l, ns, ev, hq, h64, kq⟩ => ?_) na rfl
  subst ev
  rw [Vals.ref1 r1]
  obtain ⟨its, r, pl, hz⟩ := I1.list hq
  refine call_set_lstI ns (I1.ok.hd hc) pl.isList (by simpa using ints_vals r) (by unfold scanBound; omega) fun h' tk c hS hle hk => ?_
  refine PyProof.Rows.args_nil ?_
  have I2 : Inv X pins σ H1 { s1 with heap := h', toks := tk } := I1.kept fun b o e => hk b o e
  exact sset_fin I2 hc hS (by omega) kq
section
variable {W : Ab} {J : JW}
theorem simL_sset {own : Bool} : SimL W J (rSset W.K) (wSp own .sset) := simL_imp fun {F M H vs ds Φ Q} c r w k => by
  unfold wSp at w
  split at w
  · split at w
    · exact w.elim
    · rename_i hnt
      unfold wInts at w
      split at w
      · rename_i xs e1
        split at w
        · rename_i is e2
          obtain ⟨v, rfl, r1⟩ := r.one
          obtain ⟨a, us, rfl, q, h⟩ := seq_ok c r1 e1
          have := intsOf_eq e2
          subst this
          have := q.of_ints
          subst this
          rcases h with h | ⟨_, h⟩
          · exact ⟨a, is, rfl, h, w.1, fun out p h1 h2 h3 => newL_ok c (Rps.ints out) (w.2 out h1 h2) k p h3⟩
          · exact absurd h (hnt _)
        · exact w.elim
      · exact w.elim
  · rename_i e; cases e
  · rename_i e; cases e
  · exact w.elim
theorem sim_sp {s : Sm} {own : Bool} {b : Spc} {t : TA} {es : Cs} {r : List V → Hp → VK → Prop} (h : SimA W J t (wEs s es)) (hr : SimL W J r (wSp own b)) : SimE W J (tCB r t) (wE s (.sp own b es)) := fun {F M H σ Γ Φ Q} j c e w k => by
  simp only [wE] at w
  refine h j c e w fun vs ds F1 M1 H1 c1 s1 r1 w1 => ?_
  exact hr (J.step j s1) c1 r1 w1 fun v z F2 M2 H2 c2 s2 => k v z F2 M2 H2 c2 (s1.trans s2)
end
end Sw
set_option maxRecDepth 100000
set_option maxHeartbeats 4000000
/-! Sw: list(zip(a, b)): the zip object drawn by a list. -/
namespace SwZ
open PySem L2
def ZG (sb : Bool) (f0 f1 : Value) (h : Heap) (z TI TO : Addr) : Prop := h.get? z = some { cls := .type "zip", dict := none, data := .fields #[f0, f1, .bool sb, .ref TI, .ref TO], slots := #[] }
section
variable {prog : Program} {w : World} {A : Around} {E : Value → Shared → Prop} {s : Shared}
theorem wpAny_alive {a : Addr} {Q : Option Obj → Shared → Prop} (h : Q (s.heap.get? a) s) : wpAny (model prog w) A (loadIfAlive a) Q E s := fun Γ p _ => h
/-- the two ways of a turn: the tuple kept inside is free, or it is not -/
theorem owned {sb : Bool} {f0 f1 : Value} {z TI TO : Addr} {Q : Bool → Shared → Prop} (hf : f0 = .none ∨ ∃ T : Addr, f0 = rawInt T) (hz : ZG sb f0 f1 s.heap z TI TO)
    (hQ : ∀ (b : Bool) f0' f1' h', (f0' = .none ∨ ∃ T : Addr, f0' = rawInt T) → ZG sb f0' f1' h' z TI TO → Heap.SameBut z s.heap h' → Q b { s with heap := h' }) : wpAny (model prog w) A (Builtin.SmallTypes.ownedTupleIsFree (.ref z)) Q E s := by
  have hz' := hz
  unfold ZG at hz'
  unfold Builtin.SmallTypes.ownedTupleIsFree
  refine wpAny_bind (wpAny_field hz' rfl (x := f0) rfl ?_)
  rcases hf with rfl | ⟨T, rfl⟩
  · exact wpAny_pure (hQ true _ _ s.heap (.inl rfl) hz (Heap.SameBut.refl _ _))
  · show wpAny _ _ (loadIfAlive ((T : Int)).toNat >>= _) _ _ s
    refine wpAny_bind (wpAny_alive ?_)
    cases hT : s.heap.get? ((T : Int)).toNat with
    | none => exact wpAny_pure (hQ true _ _ s.heap (.inr ⟨T, rfl⟩) hz (Heap.SameBut.refl _ _))
    | some o =>
      show wpAny _ _ (field (.ref z) 1 >>= _) _ _ s
      refine wpAny_bind (wpAny_field hz' rfl (x := f1) rfl ?_)
      cases hb : (f1 != .bool true) with
      | true =>
        rw [if_pos rfl]
        exact wpAny_bind (wpAny_setField_rec hz' (by simp) fun g1 hz1 e1 => wpAny_pure (hQ false _ _ g1 (.inr ⟨T, rfl⟩) hz1 e1))
      | false =>
        rw [if_neg Bool.false_ne_true]
        exact wpAny_pure (hQ false _ _ s.heap (.inr ⟨T, rfl⟩) hz (Heap.SameBut.refl _ _))
theorem zipG_item {sb m1 m2 : Bool} {f0 f1 : Value} {z TI TO i1 i2 l1 l2 : Addr} {k1 k2 : Nat} {xs ys : Array Value} {x y a b : Value} {Q : Value → Shared → Prop} (D : Apart z TI TO i1 i2 l1 l2) (hf : f0 = .none ∨ ∃ T : Addr, f0 = rawInt T)
    (hz : ZG sb f0 f1 s.heap z TI TO) (hTI : IsPair s.heap TI (.ref i1) (.ref i2)) (hTO : IsPair s.heap TO a b)
    (h1 : IsIt m1 s.heap i1 l1 k1) (h2 : IsIt m2 s.heap i2 l2 k2) (hl1 : IsSq m1 s.heap l1 xs) (hl2 : IsSq m2 s.heap l2 ys) (hx : xs[k1]? = some x) (hy : ys[k2]? = some y)
    (hQ : ∀ h' f0' f1', (f0' = .none ∨ ∃ T : Addr, f0' = rawInt T) → ZG sb f0' f1' h' z TI TO → (∃ a b, IsPair h' TO a b) → IsIt m1 h' i1 l1 (k1 + 1) → IsIt m2 h' i2 l2 (k2 + 1) → IsPair h' s.heap.objs.size x y → h'.objs.size = s.heap.objs.size + 1 →
      (∀ c o, c ≠ z → c ≠ TO → c ≠ i1 → c ≠ i2 → s.heap.get? c = some o → h'.get? c = some o) → Q (.ref s.heap.objs.size) { s with heap := h' }) :
    wpAny (model prog w) A (Builtin.«zip.__next__» ⟨[.ref z], []⟩) (fun fin s' => ∃ v, fin = .done (.ret v) ∧ Q v s') E s := by
  have hz' := hz
  unfold ZG at hz'
  refine wpAny_bind (m := field (.ref z) 2) (wpAny_field hz' rfl (x := .bool sb) rfl ?_)
  refine wpAny_bind (m := field (.ref z) 3) (wpAny_field hz' rfl (x := .ref TI) rfl (wpAny_bind (wpAny_seqItems hTI rfl ?_)))
  refine wpAny_bind (m := Builtin.SmallTypes.ownedTupleIsFree (.ref z)) (owned hf hz fun bb f0' f1' g0 hf' hz0 e0 => ?_)
  have swap : (Value.bool sb == Value.bool true) = sb := by cases sb <;> rfl
  have pTO0 : IsPair g0 TO a b := e0.extBut _ _ D.TOz hTO
  have h10 := h1.but e0.extBut D.i1z
  have h20 := h2.but e0.extBut D.i2z
  have l10 := hl1.but e0.extBut D.l1z
  have l20 := hl2.but e0.extBut D.l2z
  cases bb with
  | true =>
    simp only [if_true]
    have hz0' := hz0
    unfold ZG at hz0'
    refine wpAny_bind (wpAny_rule (wpAny_bind (wpAny_field hz0' rfl (x := .ref TO) rfl (wpAny_bind (wpAny_setField_rec hz0' (by simp) fun g1 hz1 e1 => ?_)))))
    have hz1 : ZG sb .ellipsis f1' g1 z TI TO := hz1
    refine wpAny_bind ?_
    simp only [List.zipIdx_cons, List.zipIdx_nil, List.forIn_cons, List.forIn_nil]
    refine wpAny_bind (wpAny_bind (wpAny_onRaise ?_))
    rw [swap]
    refine draw2_item (s := { s with heap := g1 }) (h10.but e1.extBut D.i1z) (l10.but e1.extBut D.l1z) hx fun g2 h1b e2 => ?_
    have pTO2 : IsPair g2 TO a b := e2.extBut _ _ D.TOi1 (e1.extBut _ _ D.TOz pTO0)
    refine wpAny_bind (wpAny_seqItems pTO2 rfl (wpAny_bind (wpAny_updateSeq_pair pTO2 fun g3 hTO3 e3 => ?_)))
    have pTO3 : IsPair g3 TO x b := hTO3
    refine wpAny_bind (wpAny_letGo (wpAny_pure (wpAny_bind (wpAny_bind (wpAny_onRaise ?_)))))
    refine draw2_item (s := { s with heap := g3 }) (((h20.but e1.extBut D.i2z).but e2.extBut D.i12.symm).but e3.extBut D.TOi2.symm) (((l20.but e1.extBut D.l2z).but e2.extBut D.l2i1).but e3.extBut D.l2TO) hy fun g4 h2b e4 => ?_
    have pTO4 : IsPair g4 TO x b := e4.extBut _ _ D.TOi2 pTO3
    refine wpAny_bind (wpAny_seqItems pTO4 rfl (wpAny_bind (wpAny_updateSeq_pair pTO4 fun g5 hTO5 e5 => ?_)))
    have pTO5 : IsPair g5 TO x y := hTO5
    refine wpAny_bind (wpAny_letGo (wpAny_pure (wpAny_pure (wpAny_bind (wpAny_seqItems pTO5 rfl (wpAny_bind (wpAny_newTuple ?_)))))))
    have hsz : g5.objs.size = s.heap.objs.size := by rw [e5.1, e4.1, e3.1, e2.1, e1.1, e0.1]
    have hz5 : ZG sb .ellipsis f1' g5 z TI TO := e5.extBut _ _ D.TOz.symm (e4.extBut _ _ D.i2z.symm (e3.extBut _ _ D.TOz.symm (e2.extBut _ _ D.i1z.symm hz1)))
    have keep : ∀ c o, c ≠ z → c ≠ TO → c ≠ i1 → c ≠ i2 → s.heap.get? c = some o → g5.get? c = some o := fun c o c1 c2 c3 c4 e =>
      e5.extBut _ _ c2 (e4.extBut _ _ c4 (e3.extBut _ _ c2 (e2.extBut _ _ c3 (e1.extBut _ _ c1 (e0.extBut _ _ c1 e)))))
    have q1 : IsIt m1 g5 i1 l1 (k1 + 1) := ((h1b.but e3.extBut D.TOi1.symm).but e4.extBut D.i12).but e5.extBut D.TOi1.symm
    have q2 : IsIt m2 g5 i2 l2 (k2 + 1) := h2b.but e5.extBut D.TOi2.symm
    have lz : z < g5.objs.size := Heap.lt_size hz5
    refine wpAny_bind (m := Builtin.SmallTypes.ownedTupleHandOut (.ref z) (.ref g5.objs.size)) ?_
    unfold Builtin.SmallTypes.ownedTupleHandOut
    have hz6 : (g5.push { cls := .type "tuple", data := .seq #[x, y] }).get? z = some { cls := .type "zip", dict := none, data := .fields #[.ellipsis, f1', .bool sb, .ref TI, .ref TO], slots := #[] } := Heap.get?_push_of_some _ hz5
    refine wpAny_bind (wpAny_setField_rec hz6 (by simp) fun g7 hz7 e7 => ?_)
    have hz7' : ZG sb (rawInt g5.objs.size) f1' g7 z TI TO := hz7
    refine wpAny_setField_rec hz7' (by simp) fun g8 hz8 e8 => ?_
    have hz8' : ZG sb (rawInt g5.objs.size) (.bool false) g8 z TI TO := hz8
    have up : ∀ c o, c ≠ z → g5.get? c = some o → g8.get? c = some o := fun c o c1 e => e8.extBut _ _ c1 (e7.extBut _ _ c1 (Heap.get?_push_of_some _ e))
    have new : IsPair g8 g5.objs.size x y := e8.extBut _ _ (Nat.ne_of_gt lz) (e7.extBut _ _ (Nat.ne_of_gt lz) (Heap.get?_push_size _ rfl))
    have s8 : g8.objs.size = g5.objs.size + 1 := by rw [e8.1, e7.1, Heap.size_push]
    rw [hsz] at hz8' new s8
    refine wpAny_pure ⟨_, rfl, ?_⟩
    show Q (.ref g5.objs.size) _
    rw [hsz]
    exact hQ g8 _ _ (.inr ⟨_, rfl⟩) hz8' ⟨_, _, up _ _ D.TOz pTO5⟩ (q1.on fun o e => up _ o D.i1z e) (q2.on fun o e => up _ o D.i2z e) new s8 fun c o c1 c2 c3 c4 e => up c o c1 (keep c o c1 c2 c3 c4 e)
  | false =>
    simp only [Bool.false_eq_true, if_false]
    refine wpAny_bind ?_
    simp only [List.forIn_toArray, List.forIn_cons, List.forIn_nil]
    refine wpAny_bind (wpAny_bind (wpAny_holding ?_))
    rw [swap]
    refine draw2_item (s := { s with heap := g0 }) h10 l10 hx fun g1 a1 e1 => ?_
    refine wpAny_pure ?_
    refine wpAny_bind (wpAny_bind (wpAny_holding ?_))
    refine draw2_item (s := { s with heap := g1 }) (h20.but e1.extBut D.i12.symm) (l20.but e1.extBut D.l2i1) hy fun g2 a2 e2 => ?_
    refine wpAny_pure (wpAny_pure ?_)
    show wpAny _ _ (newTuple [x, y] >>= fun t => ret t) _ _ _
    refine wpAny_bind (wpAny_newTuple ?_)
    have hsz : g2.objs.size = s.heap.objs.size := by rw [e2.1, e1.1, e0.1]
    have hz2 : ZG sb f0' f1' g2 z TI TO := e2.extBut _ _ D.i2z.symm (e1.extBut _ _ D.i1z.symm hz0)
    have pTO2 : IsPair g2 TO a b := e2.extBut _ _ D.TOi2 (e1.extBut _ _ D.TOi1 pTO0)
    have up : ∀ c o, g2.get? c = some o → (g2.push { cls := .type "tuple", data := .seq #[x, y] }).get? c = some o := fun c o e => Heap.get?_push_of_some _ e
    have new : IsPair (g2.push { cls := .type "tuple", data := .seq #[x, y] }) s.heap.objs.size x y := hsz ▸ Heap.get?_push_size _ rfl
    refine wpAny_pure ⟨_, rfl, ?_⟩
    show Q (.ref g2.objs.size) _
    rw [hsz]
    exact hQ _ _ _ hf' (up _ _ hz2) ⟨_, _, up _ _ pTO2⟩ ((a1.but e2.extBut D.i12).on fun o e => up _ o e) (a2.on fun o e => up _ o e) new (by rw [Heap.size_push, hsz]) fun c o c1 c2 c3 c4 e => up c o (e2.extBut _ _ c4 (e1.extBut _ _ c3 (e0.extBut _ _ c1 e)))
theorem zipG_end {sb m1 m2 : Bool} {f0 f1 : Value} {z TI TO i1 i2 l1 l2 : Addr} {k1 k2 : Nat} {xs ys : Array Value} {a b : Value} {Q : Fin → Shared → Prop} (hh : A.handled = none) (D : Apart z TI TO i1 i2 l1 l2) (hf : f0 = .none ∨ ∃ T : Addr, f0 = rawInt T)
    (hz : ZG sb f0 f1 s.heap z TI TO) (hTI : IsPair s.heap TI (.ref i1) (.ref i2)) (hTO : IsPair s.heap TO a b)
    (h1 : IsIt m1 s.heap i1 l1 k1) (h2 : IsIt m2 s.heap i2 l2 k2) (hl1 : IsSq m1 s.heap l1 xs) (hl2 : IsSq m2 s.heap l2 ys) (hend : xs[k1]? = none ∨ ys[k2]? = none) (hst : sb = true → xs[k1]? = none ∧ ys[k2]? = none)
    (hE : ∀ h' e, (∀ c o, c ≠ z → c ≠ TO → c ≠ i1 → c ≠ i2 → s.heap.get? c = some o → h'.get? c = some o) → (∃ o, h'.get? e = some o ∧ o.cls = .type "StopIteration") → E (.ref e) { s with heap := h' }) :
    wpAny (model prog w) A (Builtin.«zip.__next__» ⟨[.ref z], []⟩) Q E s := by
  have hz' := hz
  unfold ZG at hz'
  refine wpAny_bind (m := field (.ref z) 2) (wpAny_field hz' rfl (x := .bool sb) rfl ?_)
  refine wpAny_bind (m := field (.ref z) 3) (wpAny_field hz' rfl (x := .ref TI) rfl (wpAny_bind (wpAny_seqItems hTI rfl ?_)))
  refine wpAny_bind (m := Builtin.SmallTypes.ownedTupleIsFree (.ref z)) (owned hf hz fun bb f0' f1' g0 hf' hz0 e0 => ?_)
  have swap : (Value.bool sb == Value.bool true) = sb := by cases sb <;> rfl
  have pTO0 : IsPair g0 TO a b := e0.extBut _ _ D.TOz hTO
  have h10 := h1.but e0.extBut D.i1z
  have h20 := h2.but e0.extBut D.i2z
  have l10 := hl1.but e0.extBut D.l1z
  have l20 := hl2.but e0.extBut D.l2z
  cases bb with
  | true =>
    simp only [if_true]
    have hz0' := hz0
    unfold ZG at hz0'
    refine wpAny_bind (wpAny_rule (wpAny_bind (wpAny_field hz0' rfl (x := .ref TO) rfl (wpAny_bind (wpAny_setField_rec hz0' (by simp) fun g1 hz1 e1 => ?_)))))
    have hz1 : ZG sb .ellipsis f1' g1 z TI TO := hz1
    refine wpAny_bind ?_
    simp only [List.zipIdx_cons, List.zipIdx_nil, List.forIn_cons, List.forIn_nil]
    refine wpAny_bind (wpAny_bind (wpAny_onRaise ?_))
    rw [swap]
    cases sb with
    | true =>
      obtain ⟨n1, n2⟩ := hst rfl
      refine drawS_end (s := { s with heap := g1 }) hh (h10.but e1.extBut D.i1z) (l10.but e1.extBut D.l1z) n1 fun g2 e2 => ?_
      have hz2 : ZG true .ellipsis f1' g2 z TI TO := e2 _ _ D.i1z.symm hz1
      refine wpAny_bind (wpAny_setField_rec hz2 (by simp) fun g3 hz3 e3 => ?_)
      refine wpAny_bind ?_
      refine wpAny_bind ?_
      simp only [List.drop_succ_cons, List.drop_zero, List.zipIdx_cons, List.zipIdx_nil, List.forIn_cons, List.forIn_nil]
      refine wpAny_bind (wpAny_bind ?_)
      have i2g3 : IsIt m2 g3 i2 l2 k2 := ((h20.but e1.extBut D.i2z).but e2 D.i12.symm).but e3.extBut D.i2z
      have l2g3 : IsSq m2 g3 l2 ys := ((l20.but e1.extBut D.l2z).but e2 D.l2i1).but e3.extBut D.l2z
      refine drawS_end (s := { s with heap := g3 }) hh i2g3 l2g3 n2 fun g4 e4 => ?_
      refine wpAny_pure (wpAny_pure (wpAny_bind (wpAny_rule ?_)))
      unfold Builtin.SmallTypes.stopIteration
      simp only [newExc, newTuple]
      refine wpAny_bind (wpAny_bind (wpAny_newObj_type ?_ (by size_fits)))
      refine wpAny_bind (m := firstArgMember _ _) (wpAny_of_eq (a := Value.none) (by first | rfl | (simp only [firstArgMember]; rfl)) ?_)
      refine wpAny_newObj_type ?_ (by size_fits)
      simp only [raiseNew]
      refine wpAny_bind (wpAny_handled ?_)
      first | rw [show A.in1.handled = none from hh] | rw [hh]
      refine wpAny_bind (wpAny_pure (wpAny_throw ?_))
      refine hE _ _ (fun c o c1 _ c3 c4 x => Heap.get?_push_of_some _ (Heap.get?_push_of_some _ (e4 _ _ c4 (e3.extBut _ _ c1 (e2 _ _ c3 (e1.extBut _ _ c1 (e0.extBut _ _ c1 x))))))) ⟨_, Heap.get?_push_size _ rfl, rfl⟩
    | false =>
      cases hx : xs[k1]? with
      | none =>
        refine wpAny_bind (draw_end (s := { s with heap := g1 }) hh (h10.but e1.extBut D.i1z) (l10.but e1.extBut D.l1z) hx fun g2 e e2 he => ?_)
        obtain ⟨oe, hoe, hce⟩ := he
        have hz2 : ZG false .ellipsis f1' g2 z TI TO := e2 _ _ D.i1z.symm hz1
        have hez : e ≠ z := fun x => by subst x; unfold ZG at hz2; rw [hz2] at hoe; cases hoe; simp at hce
        refine wpAny_setField_rec hz2 (by simp) fun g3 _ e3 => hE g3 e (fun c o c1 _ c3 _ x => e3.extBut _ _ c1 (e2 _ _ c3 (e1.extBut _ _ c1 (e0.extBut _ _ c1 x)))) ⟨oe, e3.extBut _ _ hez hoe, hce⟩
      | some x =>
        have hy : ys[k2]? = none := by rcases hend with h | h; rw [hx] at h; cases h; exact h
        refine wpAny_bind (draw_item (s := { s with heap := g1 }) (h10.but e1.extBut D.i1z) (l10.but e1.extBut D.l1z) hx fun g2 h1b e2 => wpAny_pure ?_)
        have pTO2 : IsPair g2 TO a b := e2.extBut _ _ D.TOi1 (e1.extBut _ _ D.TOz pTO0)
        refine wpAny_bind (wpAny_seqItems pTO2 rfl (wpAny_bind (wpAny_updateSeq_pair pTO2 fun g3 hTO3 e3 => ?_)))
        refine wpAny_bind (wpAny_letGo (wpAny_pure (wpAny_bind (wpAny_bind (wpAny_onRaise ?_)))))
        refine wpAny_bind (draw_end (s := { s with heap := g3 }) hh (((h20.but e1.extBut D.i2z).but e2.extBut D.i12.symm).but e3.extBut D.TOi2.symm) (((l20.but e1.extBut D.l2z).but e2.extBut D.l2i1).but e3.extBut D.l2TO) hy fun g4 e e4 he => ?_)
        obtain ⟨oe, hoe, hce⟩ := he
        have hz4 : ZG false .ellipsis f1' g4 z TI TO := e4 _ _ D.i2z.symm (e3.extBut _ _ D.TOz.symm (e2.extBut _ _ D.i1z.symm hz1))
        have hez : e ≠ z := fun x => by subst x; unfold ZG at hz4; rw [hz4] at hoe; cases hoe; simp at hce
        refine wpAny_setField_rec hz4 (by simp) fun g5 _ e5 => hE g5 e (fun c o c1 c2 c3 c4 x => e5.extBut _ _ c1 (e4 _ _ c4 (e3.extBut _ _ c2 (e2.extBut _ _ c3 (e1.extBut _ _ c1 (e0.extBut _ _ c1 x)))))) ⟨oe, e5.extBut _ _ hez hoe, hce⟩
  | false =>
    simp only [Bool.false_eq_true, if_false]
    refine wpAny_bind ?_
    simp only [List.forIn_toArray, List.forIn_cons, List.forIn_nil]
    refine wpAny_bind (wpAny_bind (wpAny_holding ?_))
    rw [swap]
    cases sb with
    | true =>
      obtain ⟨n1, n2⟩ := hst rfl
      refine drawS_end (s := { s with heap := g0 }) hh h10 l10 n1 fun g2 e2 => ?_
      refine wpAny_bind ?_
      refine wpAny_bind ?_
      simp only [List.size_toArray, List.length_nil, List.drop_succ_cons, List.drop_zero, List.zipIdx_cons, List.zipIdx_nil, List.forIn_cons, List.forIn_nil]
      refine wpAny_bind (wpAny_bind ?_)
      refine drawS_end (s := { s with heap := g2 }) hh (h20.but e2 D.i12.symm) (l20.but e2 D.l2i1) n2 fun g4 e4 => ?_
      refine wpAny_pure (wpAny_pure (wpAny_bind (wpAny_rule ?_)))
      unfold Builtin.SmallTypes.stopIteration
      simp only [newExc, newTuple]
      refine wpAny_bind (wpAny_bind (wpAny_newObj_type ?_ (by size_fits)))
      refine wpAny_bind (m := firstArgMember _ _) (wpAny_of_eq (a := Value.none) (by first | rfl | (simp only [firstArgMember]; rfl)) ?_)
      refine wpAny_newObj_type ?_ (by size_fits)
      simp only [raiseNew]
      refine wpAny_bind (wpAny_handled ?_)
      first | rw [show A.in1.handled = none from hh] | rw [hh]
      refine wpAny_bind (wpAny_pure (wpAny_throw ?_))
      refine hE _ _ (fun c o c1 _ c3 c4 x => Heap.get?_push_of_some _ (Heap.get?_push_of_some _ (e4 _ _ c4 (e2 _ _ c3 (e0.extBut _ _ c1 x))))) ⟨_, Heap.get?_push_size _ rfl, rfl⟩
    | false =>
      cases hx : xs[k1]? with
      | none =>
        refine wpAny_bind (draw_end (s := { s with heap := g0 }) hh h10 l10 hx fun g2 e e2 he => ?_)
        obtain ⟨oe, hoe, hce⟩ := he
        exact hE g2 e (fun c o c1 _ c3 _ x => e2 _ _ c3 (e0.extBut _ _ c1 x)) ⟨oe, hoe, hce⟩
      | some x =>
        have hy : ys[k2]? = none := by rcases hend with h | h; rw [hx] at h; cases h; exact h
        refine wpAny_bind (draw_item (s := { s with heap := g0 }) h10 l10 hx fun g2 h1b e2 => wpAny_pure ?_)
        refine wpAny_pure ?_
        refine wpAny_bind (wpAny_bind (wpAny_holding ?_))
        refine wpAny_bind (draw_end (s := { s with heap := g2 }) hh (h20.but e2.extBut D.i12.symm) (l20.but e2.extBut D.l2i1) hy fun g4 e e4 he => ?_)
        obtain ⟨oe, hoe, hce⟩ := he
        exact hE g4 e (fun c o c1 c2 c3 c4 x => e4 _ _ c4 (e2.extBut _ _ c3 (e0.extBut _ _ c1 x))) ⟨oe, hoe, hce⟩
end
end SwZ
set_option maxRecDepth 100000
set_option maxHeartbeats 4000000
/-! Sw: list(zip(a, b)): the turns of list's extend. -/
namespace SwZ
open PySem L2
/-- the zip object, its tuples, its draws, at turn i -/
structure ZSt (sb m1 m2 : Bool) (z TI TO i1 i2 l1 l2 : Addr) (xs ys : Array Value) (h : Heap) (i : Nat) : Prop where
  z : ∃ f0 f1, (f0 = .none ∨ ∃ T : Addr, f0 = rawInt T) ∧ ZG sb f0 f1 h z TI TO
  ti : IsPair h TI (.ref i1) (.ref i2)
  to : ∃ a b, IsPair h TO a b
  a1 : IsIt m1 h i1 l1 i
  a2 : IsIt m2 h i2 l2 i
  s1 : IsSq m1 h l1 xs
  s2 : IsSq m2 h l2 ys
/-- the new tuples, one behind another -/
structure ZT (xs ys : Array Value) (lo : Addr) (h : Heap) (as : List Addr) : Prop where
  rise : as.Pairwise (· < ·)
  above : ∀ a ∈ as, lo < a
  at_ : ∀ (j : Nat) (a : Addr), as[j]? = some a → ∃ x y, xs[j]? = some x ∧ ys[j]? = some y ∧ IsPair h a x y
section
variable {prog : Program} {w : World} {A : Around} {E : Value → Shared → Prop} {s : Shared} {lo : Addr}
theorem zs_next {sb m1 m2 : Bool} {z TI TO i1 i2 l1 l2 : Addr} {xs ys : Array Value} {i : Nat} {x y : Value} {Q : Option Value → Shared → Prop} (D : Apart z TI TO i1 i2 l1 l2) (st : ZSt sb m1 m2 z TI TO i1 i2 l1 l2 xs ys s.heap i)
    (hx : xs[i]? = some x) (hy : ys[i]? = some y)
    (hQ : ∀ h', ZSt sb m1 m2 z TI TO i1 i2 l1 l2 xs ys h' (i + 1) → IsPair h' s.heap.objs.size x y → h'.objs.size = s.heap.objs.size + 1 → (∀ c o, c ≠ z → c ≠ TO → c ≠ i1 → c ≠ i2 → s.heap.get? c = some o → h'.get? c = some o) → Q (some (.ref s.heap.objs.size)) { s with heap := h' }) :
    wpAny (model prog w) A (pyNext (.ref z)) Q E s := by
  obtain ⟨f0, f1, hf, hz⟩ := st.z
  obtain ⟨a, b, hTO⟩ := st.to
  have hT : s.TypeIs (.ref z) "zip" := ⟨_, hz, rfl⟩
  unfold pyNext
  refine wpAny_bind (wpAny_attempt (wpAny_callSpecial?_slot (name := Str.ofString "__next__") hT F.slot_zip_next (wpAny_call_entry F.slot_zip_next hT F.entry_zip_next
    (zipG_item D hf hz st.ti hTO st.a1 st.a2 st.s1 st.s2 hx hy fun h' f0' f1' q1 q2 q3 q4 q5 q6 q7 q8 => wpAny_pure (hQ h' ⟨⟨f0', f1', q1, q2⟩, ?_, q3, q4, q5, ?_, ?_⟩ q6 q7 q8)) (F.args_zip_next_1 _))))
  · exact q8 _ _ D.TIz D.TITO D.TIi1 D.TIi2 st.ti
  · obtain ⟨o, ho, r⟩ := st.s1
    exact ⟨o, q8 _ _ D.l1z D.l1TO D.l1i1 D.l1i2 ho, r⟩
  · obtain ⟨o, ho, r⟩ := st.s2
    exact ⟨o, q8 _ _ D.l2z D.l2TO D.l2i1 D.l2i2 ho, r⟩
theorem zs_done {sb m1 m2 : Bool} {z TI TO i1 i2 l1 l2 : Addr} {xs ys : Array Value} {i : Nat} {Q : Option Value → Shared → Prop} (hh : A.handled = none) (D : Apart z TI TO i1 i2 l1 l2) (st : ZSt sb m1 m2 z TI TO i1 i2 l1 l2 xs ys s.heap i)
    (hend : xs[i]? = none ∨ ys[i]? = none) (hst : sb = true → xs[i]? = none ∧ ys[i]? = none)
    (hQ : ∀ h', (∀ c o, c ≠ z → c ≠ TO → c ≠ i1 → c ≠ i2 → s.heap.get? c = some o → h'.get? c = some o) → Q none { s with heap := h' }) : wpAny (model prog w) A (pyNext (.ref z)) Q E s := by
  obtain ⟨f0, f1, hf, hz⟩ := st.z
  obtain ⟨a, b, hTO⟩ := st.to
  have hT : s.TypeIs (.ref z) "zip" := ⟨_, hz, rfl⟩
  unfold pyNext
  refine wpAny_bind (wpAny_attempt (wpAny_callSpecial?_slot (name := Str.ofString "__next__") hT F.slot_zip_next (wpAny_call_entry F.slot_zip_next hT F.entry_zip_next
    (zipG_end hh D hf hz st.ti hTO st.a1 st.a2 st.s1 st.s2 hend hst fun h' e hk he => ?_) (F.args_zip_next_1 _))))
  obtain ⟨o, ho, hc⟩ := he
  exact wpAny_bind (wpAny_isInstance (T := "StopIteration") (b := true) ⟨o, ho, hc⟩ isSubtype_stop (wpAny_pure (hQ _ hk)))
theorem ZT.there {xs ys : Array Value} {lo : Addr} {h : Heap} {as : List Addr} (g : ZT xs ys lo h as) {a : Addr} (ha : a ∈ as) : a < h.objs.size := by
  obtain ⟨j, hj⟩ := List.mem_iff_getElem?.mp ha
  obtain ⟨_, _, _, _, e⟩ := g.at_ j a hj
  exact Heap.lt_size e
theorem zs_loop {R : Result → Shared → Prop} {sb m1 m2 : Bool} {z TI TO i1 i2 l1 l2 S : Addr} {xs ys : Array Value} {n : Nat} (hh : A.handled = none) (D : Apart z TI TO i1 i2 l1 l2) (hS1 : S ∉ [z, TI, TO, i1, i2, l1, l2]) (hlo : ∀ b ∈ [S, z, TI, TO, i1, i2, l1, l2], b ≤ lo)
    (hn : n = min xs.size ys.size) (hst : sb = true → xs.size = ys.size) (hz : n ≤ sizeLine) (res : Value) {h₁ : Heap}
    (hR : ∀ h' tk acc c as, (∀ b o, b ∉ [S, z, TO, i1, i2] → h₁.get? b = some o → h'.get? b = some o) → h'.get? S = some { cls := .type "list", dict := none, data := .seq acc c, slots := #[] } → as.length = n → ZT xs ys lo h' as →
      acc.toList = as.map Value.ref → R (.ok (.ret res)) { s with heap := h', toks := tk }) :
    ∀ (k i : Nat) (h : Heap) (tk c : Nat) (acc : Array Value) (as : List Addr), n - i = k → i ≤ n → ZSt sb m1 m2 z TI TO i1 i2 l1 l2 xs ys h i → (∀ b o, b ∉ [S, z, TO, i1, i2] → h₁.get? b = some o → h.get? b = some o) →
      h.get? S = some { cls := .type "list", dict := none, data := .seq acc c, slots := #[] } → acc.toList = as.map Value.ref → as.length = i → ZT xs ys lo h as → lo < h.objs.size →
      codeAny (model prog w) A (.builtin "list.extend.loop" ⟨[.ref S, .ref z, res], []⟩) R { s with heap := h, toks := tk } := by
  simp only [List.mem_cons, List.not_mem_nil, or_false, not_or] at hS1
  obtain ⟨Sz, STI, STO, Si1, Si2, Sl1, Sl2⟩ := hS1
  have off : ∀ b, b ∉ [S, z, TO, i1, i2] → b ≠ z ∧ b ≠ TO ∧ b ≠ i1 ∧ b ≠ i2 ∧ b ≠ S := fun b hb => by
    simp only [List.mem_cons, List.not_mem_nil, or_false, not_or] at hb
    exact ⟨hb.2.1, hb.2.2.1, hb.2.2.2.1, hb.2.2.2.2, hb.1⟩
  have above : ∀ a, lo < a → a ≠ S ∧ a ≠ z ∧ a ≠ TO ∧ a ≠ i1 ∧ a ≠ i2 := fun a ha => by
    refine ⟨?_, ?_, ?_, ?_, ?_⟩ <;> (intro e; subst e; exact absurd ha (Nat.not_lt.mpr (hlo _ (by simp))))
  intro k
  induction k with
  | zero =>
    intro i h tk c acc as hk hi st hkeep hS hacc hal hG hIs
    have hin : i = n := by omega
    refine codeAny_builtin PySem.F.entry_extend_loop ?_
    rw [Around.under_plainId PySem.F.plain_extend_loop _]
    show wpAny _ A.in1 (pyNext (.ref z) >>= _) _ _ _
    refine wpAny_bind (zs_done (s := { s with heap := h, toks := tk }) (A := A.in1) hh D st ?_ (fun e => ?_) fun h' he => ?_)
    · rw [Array.getElem?_eq_none_iff, Array.getElem?_eq_none_iff]; omega
    · have := hst e
      rw [Array.getElem?_eq_none_iff, Array.getElem?_eq_none_iff]; omega
    refine wpAny_pure (hR h' tk acc c as (fun b o hb e => ?_) (he S _ Sz STO Si1 Si2 hS) (by omega) ⟨hG.rise, hG.above, fun j a hj => ?_⟩ hacc)
    · obtain ⟨q1, q2, q3, q4, q5⟩ := off b hb
      exact he b o q1 q2 q3 q4 (hkeep b o hb e)
    · obtain ⟨x, y, e1, e2, e3⟩ := hG.at_ j a hj
      obtain ⟨_, q1, q2, q3, q4⟩ := above a (hG.above a (List.mem_of_getElem? hj))
      exact ⟨x, y, e1, e2, he a _ q1 q2 q3 q4 e3⟩
  | succ k ih =>
    intro i h tk c acc as hk hi st hkeep hS hacc hal hG hIs
    have hlt : i < n := by omega
    obtain ⟨x, hx⟩ : ∃ x, xs[i]? = some x := ⟨xs[i], Array.getElem?_eq_getElem (by omega)⟩
    obtain ⟨y, hy⟩ : ∃ y, ys[i]? = some y := ⟨ys[i], Array.getElem?_eq_getElem (by omega)⟩
    have hsz : acc.size = i := by rw [← Array.length_toList, hacc, List.length_map, hal]
    refine codeAny_builtin PySem.F.entry_extend_loop ?_
    rw [Around.under_plainId PySem.F.plain_extend_loop _]
    show wpAny _ A.in1 (pyNext (.ref z) >>= _) _ _ _
    refine wpAny_bind (zs_next (s := { s with heap := h, toks := tk }) D st hx hy fun h' st' ht hz' hkp => ?_)
    dsimp only at ht hz' hkp ⊢
    have hS' := hkp S _ Sz STO Si1 Si2 hS
    have up : ∀ b o, b ≠ S → h'.get? b = some o → (h'.update S (Obj.mapSeq (·.push (Value.ref h.objs.size)))).get? b = some o := fun b o hb e => (Heap.get?_update_other _ _ (Ne.symm hb)).trans e
    have hSl : S < h.objs.size := Heap.lt_size hS
    have stU : ZSt sb m1 m2 z TI TO i1 i2 l1 l2 xs ys (h'.update S (Obj.mapSeq (·.push (Value.ref h.objs.size)))) (i + 1) := by
      obtain ⟨f0, f1, q1, q2⟩ := st'.z
      obtain ⟨a, b, q3⟩ := st'.to
      obtain ⟨o1, ho1, r1⟩ := st'.s1
      obtain ⟨o2, ho2, r2⟩ := st'.s2
      exact ⟨⟨f0, f1, q1, up _ _ (Ne.symm Sz) q2⟩, up _ _ (Ne.symm STI) st'.ti, ⟨a, b, up _ _ (Ne.symm STO) q3⟩, st'.a1.on fun o e => up _ o (Ne.symm Si1) e, st'.a2.on fun o e => up _ o (Ne.symm Si2) e, ⟨o1, up _ _ (Ne.symm Sl1) ho1, r1⟩, ⟨o2, up _ _ (Ne.symm Sl2) ho2, r2⟩⟩
    show wpAny _ A.in1 (updateSeq S (·.push (Value.ref h.objs.size)) >>= _) _ _ _
    refine wpAny_bind ?_
    refine wpAny_updateSeq hS' rfl (wpAny_pure ⟨plainId_quiet PySem.F.plain_extend_loop _, ih (i + 1) _ tk _ (acc.push (Value.ref h.objs.size)) (as ++ [h.objs.size]) (by omega) hlt stU
      (fun b o hb e => ?_) (Heap.get?_update_self _ hS' rfl) (by rw [Array.toList_push, hacc, List.map_append]; rfl) (by rw [List.length_append, hal]; rfl) ⟨?_, ?_, ?_⟩ ?_⟩) (by rw [hsz]; omega) (by show (acc.push (Value.ref h.objs.size)).size ≤ sizeLine + 1; rw [Array.size_push, hsz]; omega)
    · obtain ⟨q1, q2, q3, q4, q5⟩ := off b hb
      exact up b o q5 (hkp b o q1 q2 q3 q4 (hkeep b o hb e))
    · refine List.pairwise_append.mpr ⟨hG.rise, List.pairwise_singleton _ _, fun a ha b hb => ?_⟩
      rw [List.mem_singleton.mp hb]
      exact hG.there ha
    · intro a ha
      rcases List.mem_append.mp ha with ha | ha
      · exact hG.above a ha
      · rw [List.mem_singleton.mp ha]; exact hIs
    · intro j b hj
      rcases Nat.lt_trichotomy j as.length with h1 | h1 | h1
      · rw [List.getElem?_append_left h1] at hj
        obtain ⟨x', y', e1, e2, e3⟩ := hG.at_ j b hj
        obtain ⟨q0, q1, q2, q3, q4⟩ := above b (hG.above b (List.mem_of_getElem? hj))
        exact ⟨x', y', e1, e2, up b _ q0 (hkp b _ q1 q2 q3 q4 e3)⟩
      · subst h1
        have hb : h.objs.size = b := by simpa using hj
        subst hb
        exact ⟨x, y, by rw [hal]; exact hx, by rw [hal]; exact hy, up _ _ (Nat.ne_of_gt hSl) ht⟩
      · have hnone : (as ++ [h.objs.size])[j]? = none := List.getElem?_eq_none (by rw [List.length_append, List.length_singleton]; omega)
        rw [hnone] at hj; cases hj
    · have e : (h'.update S (Obj.mapSeq (·.push (Value.ref h.objs.size)))).get? h.objs.size = _ := up _ _ (Nat.ne_of_gt hSl) ht
      exact Nat.lt_trans hIs (Heap.lt_size e)
theorem nolen_zp : typeLookup (.type "zip") "__len__" = pure none := by rw [typeLookup_type, builtinLookup_eq_fast]; kernel_rfl
theorem nohint_zp : typeLookup (.type "zip") "__length_hint__" = pure none := by rw [typeLookup_type, builtinLookup_eq_fast]; kernel_rfl
theorem ZSt.keep {sb m1 m2 : Bool} {z TI TO i1 i2 l1 l2 : Addr} {xs ys : Array Value} {h h' : Heap} {i : Nat} (st : ZSt sb m1 m2 z TI TO i1 i2 l1 l2 xs ys h i) (up : ∀ b o, b ∈ [z, TI, TO, i1, i2, l1, l2] → h.get? b = some o → h'.get? b = some o) : ZSt sb m1 m2 z TI TO i1 i2 l1 l2 xs ys h' i := by
  obtain ⟨f0, f1, q1, q2⟩ := st.z
  obtain ⟨a, b, q3⟩ := st.to
  obtain ⟨o1, ho1, r1⟩ := st.s1
  obtain ⟨o2, ho2, r2⟩ := st.s2
  exact ⟨⟨f0, f1, q1, up _ _ (by simp) q2⟩, up _ _ (by simp) st.ti, ⟨a, b, up _ _ (by simp) q3⟩, st.a1.on fun o e => up _ o (by simp) e, st.a2.on fun o e => up _ o (by simp) e, ⟨o1, up _ _ (by simp) ho1, r1⟩, ⟨o2, up _ _ (by simp) ho2, r2⟩⟩
theorem zs_extend {R : Result → Shared → Prop} {sb m1 m2 : Bool} {z TI TO i1 i2 l1 l2 S : Addr} {xs ys : Array Value} {n : Nat} (hh : A.handled = none) (D : Apart z TI TO i1 i2 l1 l2) (hS1 : S ∉ [z, TI, TO, i1, i2, l1, l2]) (hlo : ∀ b ∈ [S, z, TI, TO, i1, i2, l1, l2], b ≤ lo) (hl0 : lo < s.heap.objs.size)
    (hn : n = min xs.size ys.size) (hst : sb = true → xs.size = ys.size) (hz : n ≤ sizeLine) (res : Value) (st : ZSt sb m1 m2 z TI TO i1 i2 l1 l2 xs ys s.heap 0) (c₀ : Nat) (hS : s.heap.get? S = some { cls := .type "list", data := .seq #[] c₀ })
    (hR : ∀ h' tk acc c as, (∀ b o, b ∉ [S, z, TO, i1, i2] → s.heap.get? b = some o → h'.get? b = some o) → h'.get? S = some { cls := .type "list", dict := none, data := .seq acc c, slots := #[] } → as.length = n → ZT xs ys lo h' as →
      acc.toList = as.map Value.ref → R (.ok (.ret res)) { s with heap := h', toks := tk }) :
    wpAny (model prog w) A.in1 (Builtin.List.listExtendWith (.ref S) (.ref z) res)
      (fun fin s' => match fin with | .done f => R (.ok f) s' | .again c' => c'.quiet = true ∧ codeAny (model prog w) A c' R s') (fun e s' => R (.error e) s') s := by
  have Sz : S ≠ z := fun e => hS1 (by simp [e])
  obtain ⟨f0, f1, hf, hzz⟩ := st.z
  have hT : s.TypeIs (.ref z) "zip" := ⟨_, hzz, rfl⟩
  unfold Builtin.List.listExtendWith
  refine wpAny_bind (wpAny_typeOf hT ?_)
  have h1 : Builtin.List.listSameRef (.ref S) (.ref z) = false := by simp [Builtin.List.listSameRef, Sz]
  have h2 : (Value.type "zip" == Value.type "list") = false := by decide
  have h3 : (Value.type "zip" == Value.type "tuple") = false := by decide
  simp only [h1, h2, h3, Bool.or_false, Bool.false_eq_true, if_false]
  have it : ∀ Q : Value → Shared → Prop, Q (.ref z) s → wpAny (model prog w) A.in1 (pyIter (.ref z)) Q (fun e s' => R (.error e) s') s := fun Q q =>
    wpAny_pyIter_slot hT F.slot_zip_iter (wpAny_call_entry F.slot_zip_iter hT F.entry_zip_iter (wpAny_pure ⟨_, rfl, "zip", _, hT, F.slot_zip_next.lookup, q⟩) (F.args_zip_iter_1 _))
  refine wpAny_bind (it _ ?_)
  refine wpAny_bind (wpAny_holding ?_)
  unfold Builtin.List.listLengthHint
  refine wpAny_bind (wpAny_specialOf hT nolen_zp ?_)
  show wpAny _ A.in1 (specialOf (Value.ref z) (Str.ofString "__length_hint__") >>= _) _ _ _
  refine wpAny_bind (wpAny_specialOf hT nohint_zp ?_)
  refine wpAny_pure ?_
  show wpAny _ A.in1 (rule "list.extend.makes-room" >>= fun _ => Builtin.List.listTouch (.ref S) >>= fun _ =>
    again (.builtin "list.extend.loop" ⟨[.ref S, .ref z, res], []⟩)) _ _ _
  refine wpAny_bind (wpAny_rule ?_)
  refine wpAny_bind ?_
  show wpAny _ A.in1 (updateSeq S (·.push .none) >>= fun _ => updateSeq S (·.pop)) _ _ _
  refine wpAny_bind (wpAny_updateSeq hS rfl ?_)
  have hS₂ := Heap.get?_update_self (Obj.mapSeq (·.push Value.none)) hS rfl
  refine wpAny_updateSeq (hz := by seq_fits) hS₂ rfl ?_
  have hS₃ := Heap.get?_update_self (Obj.mapSeq (·.pop)) hS₂ rfl
  have oth : ∀ b o, b ≠ S → s.heap.get? b = some o → ((s.heap.update S (Obj.mapSeq (·.push Value.none))).update S (Obj.mapSeq (·.pop))).get? b = some o :=
    fun b o hb e => (Heap.get?_update_other _ _ (Ne.symm hb)).trans ((Heap.get?_update_other _ _ (Ne.symm hb)).trans e)
  refine wpAny_pure ⟨plainId_quiet PySem.F.plain_extend_loop _, zs_loop (s := s) (h₁ := s.heap) hh D hS1 hlo hn hst hz res hR n 0 _ s.toks _ #[] [] (Nat.sub_zero _) (Nat.zero_le _) (st.keep fun b o hb e => oth b o (fun z => hS1 (z ▸ hb)) e)
    (fun b o hb e => oth b o (fun z => hb (by simp [z])) e) hS₃ rfl rfl ⟨List.Pairwise.nil, (fun _ ha => nomatch ha), (fun j a hj => by simp at hj)⟩ (by simpa [Heap.size_update] using hl0)⟩
theorem zs_call {Q : Value → Shared → Prop} {sb m1 m2 : Bool} {z TI TO i1 i2 l1 l2 : Addr} {xs ys : Array Value} {n : Nat} (hh : A.handled = none) (D : Apart z TI TO i1 i2 l1 l2) (hlt : ∀ b ∈ [z, TI, TO, i1, i2, l1, l2], b < s.heap.objs.size)
    (hn : n = min xs.size ys.size) (hst : sb = true → xs.size = ys.size) (hz : n ≤ sizeLine) (st : ZSt sb m1 m2 z TI TO i1 i2 l1 l2 xs ys s.heap 0)
    (hQ : ∀ h' tk acc c as, (∀ b o, b ∉ [z, TO, i1, i2] → s.heap.get? b = some o → h'.get? b = some o) → h'.get? s.heap.objs.size = some { cls := .type "list", dict := none, data := .seq acc c, slots := #[] } → as.length = n → ZT xs ys s.heap.objs.size h' as →
      acc.toList = as.map Value.ref → Q (.ref s.heap.objs.size) { s with heap := h', toks := tk }) : wpAny (model prog w) A (call (.type "list") [.ref z]) Q E s := by
  refine callType_codes (Q₁ := fun obj s₁ => obj = .ref s.heap.objs.size ∧ s₁ = { s with heap := s.heap.push { cls := .type "list", data := .seq #[] } }) PySem.F.called_list (PySem.F.typeCall_list_1 _) PySem.F.entry_list_init
    (code_list_new _ ⟨rfl, rfl⟩) fun obj s₁ h₁ => ?_
  obtain ⟨rfl, rfl⟩ := h₁
  have hS : (s.heap.push { cls := .type "list", data := .seq #[] }).get? s.heap.objs.size = some { cls := .type "list", data := .seq #[] } := Heap.get?_push_size _ rfl
  refine ⟨⟨_, hS, rfl⟩, PySem.F.args_list_init_2 _ _, ?_⟩
  have hS1 : s.heap.objs.size ∉ [z, TI, TO, i1, i2, l1, l2] := fun m => Nat.lt_irrefl _ (hlt _ m)
  have hlo : ∀ b ∈ [s.heap.objs.size, z, TI, TO, i1, i2, l1, l2], b ≤ s.heap.objs.size := fun b m => by
    rcases List.mem_cons.mp m with e | m
    · exact Nat.le_of_eq e
    · exact Nat.le_of_lt (hlt b m)
  show wpAny _ A.in1.in1 (do let old ← Builtin.List.listItems (.ref s.heap.objs.size); Builtin.List.listUpdate (.ref s.heap.objs.size) (fun _ => #[]); letGo old.toList.reverse; Builtin.List.listExtendWith (.ref s.heap.objs.size) (.ref z) .none) _ _ _
  refine wpAny_bind ?_
  unfold Builtin.List.listItems
  refine wpAny_bind (wpAny_seqItems hS rfl (wpAny_pure ?_))
  show wpAny _ A.in1.in1 (updateSeq s.heap.objs.size (fun _ => #[]) >>= fun _ => letGo (#[] : Array Value).toList.reverse >>= fun _ => Builtin.List.listExtendWith (.ref s.heap.objs.size) (.ref z) .none) _ _ _
  refine wpAny_bind (wpAny_updateSeq hS rfl ?_)
  have hS₂ := Heap.get?_update_self (Obj.mapSeq (fun _ => (#[] : Array Value))) hS rfl
  have oth : ∀ b o, b ≠ s.heap.objs.size → s.heap.get? b = some o → ((s.heap.push { cls := .type "list", data := .seq #[] }).update s.heap.objs.size (Obj.mapSeq (fun _ => (#[] : Array Value)))).get? b = some o :=
    fun b o hb e => (Heap.get?_update_other _ _ (Ne.symm hb)).trans (Heap.get?_push_of_some _ e)
  refine wpAny_bind (wpAny_letGo ?_)
  refine zs_extend (A := A.in1) (lo := s.heap.objs.size) hh D hS1 hlo (by simp [Heap.size_update, Heap.size_push]) hn hst hz .none (st.keep fun b o hb e => oth b o (fun z => hS1 (z ▸ hb)) e) _ hS₂ fun h' tk acc c as hk hS' hl hG hacc => ?_
  exact ⟨rfl, hQ h' tk acc c as (fun b o hb e => hk b o (fun m => by
    rcases List.mem_cons.mp m with q | m
    · exact Nat.lt_irrefl _ (q ▸ Heap.lt_size e)
    · exact hb m) (oth b o (Nat.ne_of_lt (Heap.lt_size e)) e)) hS' hl hG hacc⟩
end
end SwZ
set_option maxRecDepth 100000
set_option maxHeartbeats 4000000
/-! Sw: list(zip(a, b)). -/
namespace Sw
open PySem PySem.Spec PyProof.Rows L2 SwZ
/-- the heap with pairs laid at as, their list at S -/
def laidP (H : Hp) (S : Addr) (as : List Addr) (xs ys : List V) : Hp := fun b => if b = S then some (.lst (as.map V.ref)) else if b ∈ as then some (.tup [xs.getD (as.idxOf b) .non, ys.getD (as.idxOf b) .non]) else H b
theorem idx_at : ∀ {as : List Addr} {j : Nat} {a : Addr}, as.Nodup → as[j]? = some a → as.idxOf a = j
  | [], _, _, _, h => by simp at h
  | b :: r, 0, a, hn, h => by
    have e : b = a := by simpa using h
    subst e
    simp
  | b :: r, j + 1, a, hn, h => by
    have hn' := List.nodup_cons.mp hn
    have h2 : r[j]? = some a := by simpa using h
    have hne : b ≠ a := fun e => hn'.1 (by rw [e]; exact List.mem_of_getElem? h2)
    rw [List.idxOf_cons, show (b == a) = false by simpa using hne, idx_at hn'.2 h2]
    rfl
theorem vals_refs' : ∀ as : List Addr, Vals (as.map V.ref) (as.map Value.ref)
  | [] => .nil
  | _ :: as => .cons rfl (vals_refs' as)
theorem vals_at : ∀ {vs : List V} {us : List Value}, Vals vs us → ∀ {j : Nat} {u : Value}, us[j]? = some u → ∃ v, vs[j]? = some v ∧ RelV v u
  | _, _, .nil, j, u, h => by simp at h
  | _, _, .cons r t, 0, u, h => by
    have e := Option.some.inj (by simpa using h)
    subst e
    exact ⟨_, rfl, r⟩
  | _, _, .cons r t, j + 1, u, h => by
    obtain ⟨v, e, q⟩ := vals_at t (j := j) (by simpa using h)
    exact ⟨v, by simpa using e, q⟩
section
variable {X : Cx}
theorem pairs_laid {pins : List (Addr × Obj)} {σ : L2.St} {H : Hp} {s : Shared} {h' : Heap} {tk : Nat} {xs ys : List V} {us ws : List Value} {acc : Array Value} {c : Nat} {as : List Addr} {S : Addr} (I : Inv X pins σ H s) (hz : min xs.length ys.length ≤ sizeLine) (r1 : Vals xs us) (r2 : Vals ys ws)
    (hk : ∀ b o, s.heap.get? b = some o → h'.get? b = some o) (hS0 : s.heap.objs.size ≤ S) (hS : h'.get? S = some { cls := .type "list", dict := none, data := .seq acc c, slots := #[] }) (hl : as.length = min xs.length ys.length) (hG : ZT us.toArray ws.toArray S h' as) (hacc : acc.toList = as.map Value.ref) :
    H S = none ∧ (∀ t ∈ as, H t = none) ∧ S ∉ as ∧ as.Nodup ∧ Inv X pins σ (laidP H S as xs ys) { s with heap := h', toks := tk } := by
  have hSn : S ∉ as := fun z => Nat.lt_irrefl _ (hG.above _ z)
  have nd : as.Nodup := List.Pairwise.imp (fun {a b} (h : a < b) => Nat.ne_of_lt h) hG.rise
  have new : ∀ t ∈ as, H t = none := fun t ht => I.hok.fresh (Nat.le_trans hS0 (Nat.le_of_lt (hG.above t ht)))
  have newS : H S = none := I.hok.fresh hS0
  have off : ∀ b, b ∉ as → b ≠ S → laidP H S as xs ys b = H b := fun b h1 h2 => by unfold laidP; rw [if_neg h2, if_neg h1]
  have low : ∀ b o, s.heap.get? b = some o → b ∉ as ∧ b ≠ S := fun b o e => ⟨fun z => absurd (Heap.lt_size e) (Nat.not_lt.mpr (Nat.le_trans hS0 (Nat.le_of_lt (hG.above b z)))), fun z => absurd (Heap.lt_size e) (Nat.not_lt.mpr (by rw [z]; exact hS0))⟩
  have kp : ∀ b u, H b = some u → laidP H S as xs ys b = some u := fun b u e => by
    rw [off b (fun z => by rw [new b z] at e; cases e) (fun z => by rw [z, newS] at e; cases e)]
    exact e
  have eS : laidP H S as xs ys S = some (.lst (as.map V.ref)) := by unfold laidP; rw [if_pos rfl]
  refine ⟨newS, new, hSn, nd, ?_⟩
  refine I.call' (ch := []) rfl ⟨fun b o q _ _ _ => hk b o q, fun b o q _ _ _ => ⟨o.slots, hk b o q⟩, fun b o q n _ => ?_, fun b o q _ => ⟨o, hk b o q⟩, fun b xs q => kp b _ q, fun b o u q => kp b _ q, fun b ps q => ⟨#[], by rw [kp b _ q]; simp⟩⟩ (fun b u q => ?_) I.bare fun b z => by simp at z
  · obtain ⟨z1, z2⟩ := low b o q
    rw [off b z1 z2]
    exact n
  · by_cases hb2 : b = S
    · rw [hb2] at q ⊢
      rw [eS] at q
      cases q
      refine ⟨by rw [List.length_map]; omega, acc.toList, c, by rw [hacc]; exact vals_refs' as, ?_⟩
      rw [Array.toArray_toList]
      exact hS
    · by_cases hb : b ∈ as
      · obtain ⟨j, e1⟩ := List.mem_iff_getElem?.mp hb
        have ei := idx_at nd e1
        have e3 : laidP H S as xs ys b = some (.tup [xs.getD j .non, ys.getD j .non]) := by unfold laidP; rw [if_neg hb2, if_pos hb, ei]
        rw [e3] at q
        cases q
        obtain ⟨u, w, f1, f2, f3⟩ := hG.at_ j b e1
        obtain ⟨v1, g1, g2⟩ := vals_at r1 (j := j) (by simpa using f1)
        obtain ⟨v2, g3, g4⟩ := vals_at r2 (j := j) (by simpa using f2)
        refine ⟨by show 2 ≤ sizeLine; decide, [u, w], ?_, ⟨_, f3, rfl, _, rfl⟩⟩
        rw [List.getD_eq_getElem?_getD, List.getD_eq_getElem?_getD, g1, g3]
        exact .cons g2 (.cons g4 .nil)
      · rw [off b hb hb2] at q
        exact (I.hok b u q).stay (fun d v _ y => hk d v y) (fun d y => kp d _ y) fun d xs y => kp d _ y
end
def rZip (K : PySem.W.Frag) (sb : Bool) : List V → Hp → VK → Prop := fun vs H Q => ∃ (a b : Addr) (xs ys : List V) (m1 m2 : Bool), vs = [.ref a, .ref b] ∧ SqX K m1 H a xs ∧ SqX K m2 H b ys ∧ (sb = true → xs.length = ys.length) ∧
  ∀ (S : Addr) (as : List Addr), H S = none → (∀ t ∈ as, H t = none) → S ∉ as → as.Nodup → as.length = min xs.length ys.length → Q (.ref S) (laidP H S as xs ys)
theorem boot_list' : bootBuiltins "list" = some (.type "list") := by decide +kernel
section
variable {X : Cx}
theorem zip_listed {pins : List (Addr × Obj)} {σ : L2.St} {H : Hp} {s : Shared} {Q : VK} {sb m1 m2 : Bool} {a b : Addr} {xs ys : List V} (hc : X.calm = true)
    (I : Inv X pins σ H s) (h1 : SqX X.K m1 H a xs) (h2 : SqX X.K m2 H b ys) (hst : sb = true → xs.length = ys.length) (q : ∀ (S : Addr) (as : List Addr), H S = none → (∀ t ∈ as, H t = none) → S ∉ as → as.Nodup → as.length = min xs.length ys.length → Q (.ref S) (laidP H S as xs ys)) {g : Heap} {n : Nat} (hn : n = s.heap.objs.size) (hgs : g.objs.size = n + 5)
    (gz : Zp sb g (n + 4) (n + 2) (n + 3) .none) (gT : IsPair g (n + 2) (.ref n) (.ref (n + 1))) (gO : IsPair g (n + 3) .none .none) (g1 : g.get? n = some (bgO m1 a)) (g2 : g.get? (n + 1) = some (bgO m2 b))
    (hk : ∀ c o, s.heap.get? c = some o → g.get? c = some o) : wpAny (model X.prog X.w) X.A (call (.type "list") [.ref (n + 4)]) (EP X pins σ Q) X.xe { s with heap := g } := by
  subst hn
  obtain ⟨us, r1, p1, z1⟩ := sqx I h1
  obtain ⟨ws, r2, p2, z2⟩ := sqx I h2
  have l1 := r1.length
  have l2 := r2.length
  obtain ⟨o1, e1, c1⟩ := id p1
  obtain ⟨o2, e2, c2⟩ := id p2
  have la := Heap.lt_size e1
  have lb := Heap.lt_size e2
  have D : Apart (s.heap.objs.size + 4) (s.heap.objs.size + 2) (s.heap.objs.size + 3) s.heap.objs.size (s.heap.objs.size + 1) a b := apart_of la lb
  have st : ZSt sb m1 m2 (s.heap.objs.size + 4) (s.heap.objs.size + 2) (s.heap.objs.size + 3) s.heap.objs.size (s.heap.objs.size + 1) a b us.toArray ws.toArray g 0 :=
    ⟨⟨_, _, .inl rfl, gz⟩, gT, ⟨_, _, gO⟩, ⟨_, g1, by cases m1 <;> rfl, by cases m1 <;> rfl⟩, ⟨_, g2, by cases m2 <;> rfl, by cases m2 <;> rfl⟩, ⟨o1, hk _ _ e1, c1⟩, ⟨o2, hk _ _ e2, c2⟩⟩
  refine zs_call (s := { s with heap := g }) (n := min xs.length ys.length) (I.ok.hd hc) D (fun b hb => ?_) (by simp [l1, l2]) (fun e => by have := hst e; simp; omega) (by omega) st fun h' tk acc c as hkp hS hl hG hacc => ?_
  · show b < g.objs.size
    simp only [List.mem_cons, List.not_mem_nil, or_false] at hb
    rw [hgs]
    have up : ∀ k, k < 5 → s.heap.objs.size + k < s.heap.objs.size + 5 := fun k h => Nat.add_lt_add_left h _
    rcases hb with rfl | rfl | rfl | rfl | rfl | rfl | rfl
    · exact up 4 (by decide)
    · exact up 2 (by decide)
    · exact up 3 (by decide)
    · exact up 0 (by decide)
    · exact up 1 (by decide)
    · exact Nat.lt_of_lt_of_le la (Nat.le_add_right _ _)
    · exact Nat.lt_of_lt_of_le lb (Nat.le_add_right _ _)
  · have kk : ∀ b o, s.heap.get? b = some o → h'.get? b = some o := fun b o e => hkp b o (fun m => by
      have := Heap.lt_size e
      simp only [List.mem_cons, List.not_mem_nil, or_false] at m
      rcases m with rfl | rfl | rfl | rfl <;> exact absurd this (by simp)) (hk b o e)
    obtain ⟨k1, k2, k3, k4, J⟩ := pairs_laid (tk := tk) (S := g.objs.size) I (by omega) r1 r2 kk (by rw [hgs]; exact Nat.le_add_right _ _) hS hl hG hacc
    exact ⟨.ref g.objs.size, _, J, rfl, q _ as k1 k2 k3 k4 hl⟩
variable {e e2 : Expr} {ta : TA} {lp p q pos kp cp : Pos} {j : Nat}
theorem pe_zipL (hc : X.calm = true) (hgl : Gl X "list") (hml : X.mg "list" = none) (hg : Gl X "zip") (hm : X.mg "zip" = none) (ha : PA X [e, e2] ta)
    (hs : starEach [e, e2] X.env = (false, eval e X.env) :: starEach [e2] X.env) (hs2 : starEach [e2] X.env = (false, eval e2 X.env) :: starEach [] X.env) :
    PE X (.Call (.Name "list" lp) [.Call (.Name "zip" p) [e, e2] [] q] [] pos) (tCB (rZip X.K false) ta) := by
  refine ⟨fun pins s σ H Q I h => ?_⟩
  refine PyProof.Rows.Call_ (ld_blt I hgl hml boot_list' ?_)
  refine PyProof.Rows.callWith_type1 ?_ rfl rfl
  refine PyProof.Rows.args_cons ?_ rfl
  refine PyProof.Rows.Call_ (ld_blt I hg hm PyProof.Rows.boot_zip (PyProof.Rows.callWith_type1 (thn (ha.run q pins s σ H _ I h) fun us s1 ⟨vs, H1, I1, r1, q1⟩ => ?_) hs (by rw [hs2]; rfl)))
  obtain ⟨a, b, xs, ys, m1, m2, rfl, h1, h2, hst, q2⟩ := q1
  obtain ⟨u1, u2, rfl, rr1, rr2⟩ := vals2 r1
  cases rr1
  cases rr2
  obtain ⟨us, _, p1, _⟩ := sqx I1 h1
  obtain ⟨ws, _, p2, _⟩ := sqx I1 h2
  refine zip_begins2 (begins a us.toArray) (begins b ws.toArray) p1 p2 fun h' gz gT gO g1 g2 gsz hk => ?_
  refine PyProof.Rows.args_nil ?_
  exact zip_listed hc I1 h1 h2 hst q2 rfl gsz gz gT gO g1 g2 hk
theorem pe_zipS (hc : X.calm = true) (hgl : Gl X "list") (hml : X.mg "list" = none) (hg : Gl X "zip") (hm : X.mg "zip" = none) (ha : PA X [e, e2] ta)
    (hs : starEach [e, e2] X.env = (false, eval e X.env) :: starEach [e2] X.env) (hs2 : starEach [e2] X.env = (false, eval e2 X.env) :: starEach [] X.env) :
    PE X (.Call (.Name "list" lp) [.Call (.Name "zip" p) [e, e2] [⟨some "strict", .Constant (.bool true) j cp, kp⟩] q] [] pos) (tCB (rZip X.K true) ta) := by
  refine ⟨fun pins s σ H Q I h => ?_⟩
  refine PyProof.Rows.Call_ (ld_blt I hgl hml boot_list' ?_)
  refine PyProof.Rows.callWith_type1 ?_ rfl rfl
  refine PyProof.Rows.args_cons ?_ rfl
  refine wpAny_Call_Name_kw (ld_blt I hg hm PyProof.Rows.boot_zip (callWith_typeK (thn (ha.run q pins s σ H _ I h) fun us s1 ⟨vs, H1, I1, r1, q1⟩ => ?_) (by rw [hs]; rfl) (by rw [hs, hs2]; rfl) rfl rfl))
  refine PyProof.Rows.kws_cons (PyProof.Rows.Constant_bool (PyProof.Rows.kws_nil ?_))
  obtain ⟨a, b, xs, ys, m1, m2, rfl, h1, h2, hst, q2⟩ := q1
  obtain ⟨u1, u2, rfl, rr1, rr2⟩ := vals2 r1
  cases rr1
  cases rr2
  obtain ⟨us, _, p1, _⟩ := sqx I1 h1
  obtain ⟨ws, _, p2, _⟩ := sqx I1 h2
  show wpAny _ _ (call (.type "zip") [.ref a, .ref b] sKw) _ _ _
  have f1 : (bgO m1 a).isFreed = false := (begins a us.toArray).free
  have f2 : (bgO m2 b).isFreed = false := (begins b ws.toArray).free
  refine call_zipS (begins a us.toArray) (begins b ws.toArray) p1 p2 ?_
  have z1 : (s1.heap.push (bgO m1 a)).objs.size = s1.heap.objs.size + 1 := by rw [Heap.size_push]
  have z2 : ((s1.heap.push (bgO m1 a)).push (bgO m2 b)).objs.size = s1.heap.objs.size + 2 := by rw [Heap.size_push, z1]
  have z3 : (zT s1.heap (bgO m1 a) (bgO m2 b)).objs.size = s1.heap.objs.size + 3 := by rw [Heap.size_push, z2]
  have z4 : (zO s1.heap (bgO m1 a) (bgO m2 b)).objs.size = s1.heap.objs.size + 4 := by rw [Heap.size_push, z3]
  have z5 : (zZ true s1.heap (bgO m1 a) (bgO m2 b)).objs.size = s1.heap.objs.size + 5 := by rw [Heap.size_push, z4]
  have gZ : (zZ true s1.heap (bgO m1 a) (bgO m2 b)).get? (zO s1.heap (bgO m1 a) (bgO m2 b)).objs.size = some { cls := .type "zip", data := .fields #[.none, .bool false, .bool true, .ref ((s1.heap.push (bgO m1 a)).push (bgO m2 b)).objs.size, .ref (zT s1.heap (bgO m1 a) (bgO m2 b)).objs.size] } := Heap.get?_push_size _ rfl
  have gO : (zZ true s1.heap (bgO m1 a) (bgO m2 b)).get? (zT s1.heap (bgO m1 a) (bgO m2 b)).objs.size = some { cls := .type "tuple", data := .seq #[.none, .none] } := Heap.get?_push_of_some _ (Heap.get?_push_size _ rfl)
  have gT : (zZ true s1.heap (bgO m1 a) (bgO m2 b)).get? ((s1.heap.push (bgO m1 a)).push (bgO m2 b)).objs.size = some { cls := .type "tuple", data := .seq #[.ref s1.heap.objs.size, .ref (s1.heap.push (bgO m1 a)).objs.size] } := Heap.get?_push_of_some _ (Heap.get?_push_of_some _ (Heap.get?_push_size _ rfl))
  have g1 : (zZ true s1.heap (bgO m1 a) (bgO m2 b)).get? s1.heap.objs.size = some (bgO m1 a) := Heap.get?_push_of_some _ (Heap.get?_push_of_some _ (Heap.get?_push_of_some _ (Heap.get?_push_of_some _ (Heap.get?_push_size _ f1))))
  have g2 : (zZ true s1.heap (bgO m1 a) (bgO m2 b)).get? (s1.heap.push (bgO m1 a)).objs.size = some (bgO m2 b) := Heap.get?_push_of_some _ (Heap.get?_push_of_some _ (Heap.get?_push_of_some _ (Heap.get?_push_size _ f2)))
  rw [z4, z3, z2] at gZ
  rw [z3] at gO
  rw [z2, z1] at gT
  rw [z1] at g2
  rw [z4]
  refine PyProof.Rows.args_nil ?_
  exact zip_listed hc I1 h1 h2 hst q2 rfl z5 gZ gT gO g1 g2 fun c o e => Heap.get?_push_of_some _ (Heap.get?_push_of_some _ (Heap.get?_push_of_some _ (Heap.get?_push_of_some _ (Heap.get?_push_of_some _ e))))
end
/-! ### by values -/
section
variable {W : Ab} {J : JW}
/-- many new objects, known for good -/
theorem Conc.knowAll {F : Hp} {M : MM} {H H' : Hp} (c : Conc W F M H) (N : Addr → Bool) (new : ∀ a, N a = true → H a = none) (kp : ∀ a, N a = false → H' a = H a) : Conc W (fun a => if N a = true then H' a else F a) M H' ∧ Stp F M H (fun a => if N a = true then H' a else F a) M H' := by
  have nF : ∀ a o, F a = some o → N a = false := fun a o e => by
    cases q : N a with
    | false => rfl
    | true => have := new a q; rw [c.ex a o e] at this; cases this
  have nH : ∀ a, H a ≠ none → N a = false := fun a e => by
    cases q : N a with
    | false => rfl
    | true => exact absurd (new a q) e
  have xF : Ex F (fun a => if N a = true then H' a else F a) := fun a o e => by
    show (if N a = true then H' a else F a) = some o
    rw [nF a o e]; exact e
  refine ⟨⟨fun a o e => ?_, fun a x e => ?_⟩, ⟨xF, fun a o e _ => ?_, fun a e f _ => ?_, fun a e => .inl e, fun a e => ?_⟩⟩
  · cases q : N a with
    | true => simpa [q] using e
    | false =>
      have e' : F a = some o := by simpa [q] using e
      rw [kp a q]; exact c.ex a o e'
  · obtain ⟨q1, q2⟩ := c.cell a x e
    have q := nH a q2.some
    exact ⟨by simp [q, q1], q2.up xF (kp a q)⟩
  · rw [kp a (nH a (by rw [e]; exact fun z => nomatch z))]; exact e
  · show (if N a = true then H' a else F a) = none
    rw [nH a e]; exact f
  · rw [kp a (nH a e)]; exact e
theorem pairs_rps {F : Hp} : ∀ {xs ys : List V} {ds es : List D} {as : List Addr} {G : Hp}, Rps W F xs ds → Rps W F ys es → Ex F G → as.length = min xs.length ys.length → (∀ (j : Nat) (a : Addr), as[j]? = some a → ∃ x y, xs[j]? = some x ∧ ys[j]? = some y ∧ G a = some (.tup [x, y])) → Rps W G (as.map V.ref) (pairs ds es)
  | _, _, _, _, [], G, .nil, r2, x, hl, h => by simp only [pairs, List.map_nil]; exact .nil
  | _, _, _, _, [], G, .cons a r1, .nil, x, hl, h => by simp only [pairs, List.map_nil]; exact .nil
  | _, _, _, _, [], G, .cons a r1, .cons b r2, x, hl, h => by simp at hl
  | _, _, _, _, t :: as, G, .nil, r2, x, hl, h => by simp at hl
  | _, _, _, _, t :: as, G, .cons a r1, .nil, x, hl, h => by simp at hl
  | _, _, _, _, t :: as, G, .cons a r1, .cons b r2, x, hl, h => by
    obtain ⟨u, w, e1, e2, e3⟩ := h 0 t rfl
    cases e1
    cases e2
    exact .cons (.tup (.inl (.inl e3)) (.cons (a.up x) (.cons (b.up x) .nil))) (pairs_rps r1 r2 x (by simp at hl; omega) fun j c e => by simpa using h (j + 1) c (by simpa using e))
theorem pairs_lenH : ∀ xs ys : List D, (pairs xs ys).length = min xs.length ys.length
  | [], _ => by simp [pairs]
  | _ :: _, [] => by simp [pairs]
  | _ :: xs, _ :: ys => by simp [pairs, pairs_lenH xs ys]
theorem laid_ok {F : Hp} {M : MM} {H : Hp} {own : Bool} {xs ys : List V} {ds es : List D} {S : Addr} {as : List Addr} {Φ : D → MM → Prop} {Q : VK} (c : Conc W F M H) (r1 : Rps W F xs ds) (r2 : Rps W F ys es) (w : newL own (pairs ds es) M Φ)
    (k : ∀ v d F' M' H', Conc W F' M' H' → Stp F M H F' M' H' → Rp W F' v d → Φ d M' → Q v H') (hS : H S = none) (ha : ∀ t ∈ as, H t = none) (hn : S ∉ as) (nd : as.Nodup) (hl : as.length = min xs.length ys.length) : Q (.ref S) (laidP H S as xs ys) := by
  let H1 : Hp := fun b => if b ∈ as then some (.tup [xs.getD (as.idxOf b) .non, ys.getD (as.idxOf b) .non]) else H b
  have e1 : laidP H S as xs ys = upd H1 S (.lst (as.map V.ref)) := by
    funext b
    by_cases e : b = S
    · rw [e, upd_same]; unfold laidP; rw [if_pos rfl]
    · rw [upd_ne e]; unfold laidP; rw [if_neg e]
  have hS1 : H1 S = none := by show (if S ∈ as then _ else _) = _; rw [if_neg hn]; exact hS
  obtain ⟨c1, s1⟩ := c.knowAll (H' := H1) (fun b => decide (b ∈ as)) (fun a h => ha a (by simpa using h)) fun a h => by
    show (if a ∈ as then _ else _) = _
    rw [if_neg (by simpa using h)]
  have rp : Rps W (fun a => if decide (a ∈ as) = true then H1 a else F a) (as.map V.ref) (pairs ds es) := by
    refine pairs_rps r1 r2 s1.f hl fun j a e => ?_
    have hm := List.mem_of_getElem? e
    have hj : j < as.length := by
      rcases Nat.lt_or_ge j as.length with q | q
      · exact q
      · rw [List.getElem?_eq_none q] at e; cases e
    refine ⟨xs.getD j .non, ys.getD j .non, ?_, ?_, ?_⟩
    · rw [List.getD_eq_getElem?_getD, List.getElem?_eq_getElem (by omega)]; rfl
    · rw [List.getD_eq_getElem?_getD, List.getElem?_eq_getElem (by omega)]; rfl
    · show (if decide (a ∈ as) = true then H1 a else F a) = _
      rw [if_pos (by simpa using hm)]
      show (if a ∈ as then _ else _) = _
      rw [if_pos hm, idx_at nd e]
  rw [e1]
  exact newL_ok c1 rp w (fun v d F' M' H' c' s' => k v d F' M' H' c' (s1.trans s')) S hS1
theorem seq_x {F : Hp} {M : MM} {H : Hp} {v : V} {d : D} {xs : List D} (c : Conc W F M H) (r : Rp W F v d) (e : seqOf M d = some xs) : ∃ a vs m, v = .ref a ∧ Rps W F vs xs ∧ SqX W.K m H a vs := by
  obtain ⟨a, vs, rfl, q, h⟩ := seq_ok' c r e
  rcases h with h | h
  · exact ⟨a, vs, false, rfl, q, h⟩
  · exact ⟨a, vs, true, rfl, q, h⟩
theorem simL_zipL {own : Bool} : SimL W J (rZip W.K false) (wSp own .zipL) := simL_imp fun {F M H vs ds Φ Q} c r w k => by
  unfold wSp at w
  split at w
  · rename_i e; cases e
  · rename_i x y _
    split at w
    · rename_i xs ys h1 h2
      obtain ⟨v, u, rfl, r1, r2⟩ := r.two
      obtain ⟨a, vs, m1, rfl, q1, g1⟩ := seq_x c r1 h1
      obtain ⟨b, us, m2, rfl, q2, g2⟩ := seq_x c r2 h2
      exact ⟨a, b, vs, us, m1, m2, rfl, g1, g2, (fun e => nomatch e), fun S as hS ha hn nd hl => laid_ok c q1 q2 w k hS ha hn nd hl⟩
    · exact w.elim
  · rename_i e; cases e
  · exact w.elim
theorem simL_zipS {own : Bool} : SimL W J (rZip W.K true) (wSp own .zipS) := simL_imp fun {F M H vs ds Φ Q} c r w k => by
  unfold wSp at w
  split at w
  · rename_i e; cases e
  · rename_i e; cases e
  · split at w
    · rename_i xs ys h1 h2
      obtain ⟨v, u, rfl, r1, r2⟩ := r.two
      obtain ⟨a, vs, m1, rfl, q1, g1⟩ := seq_x c r1 h1
      obtain ⟨b, us, m2, rfl, q2, g2⟩ := seq_x c r2 h2
      exact ⟨a, b, vs, us, m1, m2, rfl, g1, g2, (fun _ => by rw [q1.length, q2.length]; exact w.1), fun S as hS ha hn nd hl => laid_ok c q1 q2 w.2 k hS ha hn nd hl⟩
    · exact w.elim
  · exact w.elim
end
end Sw
set_option maxRecDepth 100000
set_option maxHeartbeats 4000000
/-! Sw: x in a list, a tuple, of data. -/
namespace Sw
open PySem PySem.Spec PyProof.Rows L2
def rInA (K : PySem.W.Frag) (neg : Bool) : R2 := fun x y H Q => ∃ d ds, Dp K H x d ∧ (Dp K H y (.list ds) ∨ Dp K H y (.tuple ds)) ∧ SeqAt.shaped d = true ∧ SeqAt.shaped (.list ds) = true ∧ Q (.bl (if neg = true then !(ds.any fun z => PyData.eqv z d) else ds.any fun z => PyData.eqv z d)) H
theorem shaped_in {A : Around} {d : PyData} {ds : List PyData} (sd : SeqAt.shaped d = true) (se : SeqAt.shaped (.list ds) = true) (hu : A.units + 65 < cLine) : PyData.plainAll ds = true ∧ d.plain = true ∧ A.units + 1 + min (PyData.depthAll ds) d.depth < cLine := by
  have h1 := PyData.plain_of_canLay0 _ (SeqAt.canLay_of_shaped sd)
  have h2 := PyData.plain_of_canLay0 _ (SeqAt.canLay_of_shaped se)
  have h3 := SeqAt.depth_of_shaped sd
  refine ⟨by simpa [PyData.plain] using h2, h1, ?_⟩
  have : min (PyData.depthAll ds) d.depth ≤ d.depth := Nat.min_le_right _ _
  omega
section
variable {X : Cx}
theorem op_inA (hu : X.A.units + 65 < cLine) : OpR X (compareOp .In) (rInA X.K false) := by
  intro pins s σ H x y v u Q I rx ry h
  obtain ⟨d, ds, hd, he, sd, se, q⟩ := h
  obtain ⟨as, r1⟩ := Dp.reads I d x v hd rx
  obtain ⟨p1, p2, p3⟩ := shaped_in sd se hu
  rcases he with he | he
  · obtain ⟨bs, r2⟩ := Dp.reads I (.list ds) y u he ry
    exact SeqAt.in_list_data r2 r1 p1 p2 p3 ⟨.bl _, H, I, rfl, q⟩
  · obtain ⟨bs, r2⟩ := Dp.reads I (.tuple ds) y u he ry
    exact SeqAt.in_tuple_data r2 r1 p1 p2 p3 ⟨.bl _, H, I, rfl, q⟩
theorem op_notInA (hu : X.A.units + 65 < cLine) : OpR X (compareOp .NotIn) (rInA X.K true) := by
  intro pins s σ H x y v u Q I rx ry h
  obtain ⟨d, ds, hd, he, sd, se, q⟩ := h
  obtain ⟨as, r1⟩ := Dp.reads I d x v hd rx
  obtain ⟨p1, p2, p3⟩ := shaped_in sd se hu
  rcases he with he | he
  · obtain ⟨bs, r2⟩ := Dp.reads I (.list ds) y u he ry
    exact SeqAt.notIn_list_data r2 r1 p1 p2 p3 ⟨.bl _, H, I, rfl, q⟩
  · obtain ⟨bs, r2⟩ := Dp.reads I (.tuple ds) y u he ry
    exact SeqAt.notIn_tuple_data r2 r1 p1 p2 p3 ⟨.bl _, H, I, rfl, q⟩
end
section
variable {W : Ab} {J : JW}
theorem dp_seq {F H : Hp} {M : MM} {v : V} {d : D} {xs : List D} {ps : List PyData} (c : Conc W F M H) (r : Rp W F v d) (e : seqOf M d = some xs) (e2 : toPys xs = some ps) : Dp W.K H v (.list ps) ∨ Dp W.K H v (.tuple ps) := by
  obtain ⟨a, vs, rfl, q, h⟩ := seq_ok' c r e
  have da := (dp_ok c.ex rfl).2 xs vs ps q e2
  rcases h with h | h
  · exact .inl (.lst h da)
  · exact .inr (.tup h da)
theorem sim_in : SimR W J (rInA W.K false) (wCmp .In) := simR_imp fun {F M H x y d e Φ Q} c rx ry w k => by
  unfold wCmp at w
  simp only at w
  unfold pIn at w
  split at w
  · rename_i xs e1
    split at w
    · rename_i a b e2 e3
      exact ⟨a, b, dp_res c rx e2, dp_seq c ry e1 e3, w.1, w.2.1, k _ _ _ _ _ c Stp.refl (.bl _) w.2.2⟩
    · exact w.elim
  · exact w.elim
theorem sim_notin : SimR W J (rInA W.K true) (wCmp .NotIn) := simR_imp fun {F M H x y d e Φ Q} c rx ry w k => by
  unfold wCmp at w
  simp only at w
  unfold pIn at w
  split at w
  · rename_i xs e1
    split at w
    · rename_i a b e2 e3
      exact ⟨a, b, dp_res c rx e2, dp_seq c ry e1 e3, w.1, w.2.1, k _ _ _ _ _ c Stp.refl (.bl _) w.2.2⟩
    · exact w.elim
  · exact w.elim
end
end Sw
set_option maxRecDepth 100000
set_option maxHeartbeats 4000000
/-! Sw: len of an instance of an own class. -/
namespace Sw
open PySem PySem.Spec PyProof.Rows L2
def rLenO (C : Addr) (sp : Sp) (gV : List V → List V → List V) (E : XK) : List V → Hp → VK → Prop := fun xs H Q => ∃ a dx fs, xs = [.ref a] ∧ H a = some (.ins C dx fs) ∧
  sp (gV [.ref a] []) H (fun v H' => ∃ n : Int, v = .int n ∧ 0 ≤ n ∧ n < 2 ^ 62 ∧ Q v H') E
section
variable {X : Cx} {CX : CXT} {k : Nat} {f C : Addr} {fd : FuncData} {ps : List Str} {sp : Sp} {E : XK} {gV : List V → List V → List V}
theorem call_lenO (hm : Meth X.K C "__len__" f) (F : FnOk X.prog X.w X.K X.mg X.base CX k f fd ps sp) (hr : Room (k + 1) X.A) (hb : Bnd X.K fd ps 1 [] gV) (hx : Passes CX X E) : CallR X (.builtin "len") (rLenO C sp gV E) := by
  intro pins s σ H xs us Q I r h
  obtain ⟨a, dx, fs, rfl, ha, q⟩ := h
  obtain ⟨u, rfl, ru⟩ := vals1 r
  obtain rfl : u = Value.ref a := ru
  obtain ⟨mA, J, _⟩ := ins_get I.hok ha
  obtain ⟨od, J, _⟩ := J.look
  obtain ⟨m, hF⟩ := I.fr
  refine PySem.W.len_K hF I.ok.mod.kin J hm.at_ hm.fn ?_
  obtain ⟨g, b1, b2⟩ := hb.ex
  have r2 := b2 [.ref a] [] [.ref a] [] rfl rfl (.cons rfl .nil) .nil
  refine wpAny_call (codeAny_mono (F.run X.A.in1 X.stack s H ⟨[.ref a], []⟩ (g [.ref a] []) (gV [.ref a] []) _ E hr.in1 I.env0.in1 (b1 s [.ref a] [] I.kIn rfl rfl) r2 q) fun res s' hq => ?_)
  cases res with
  | error e => exact hx pins σ H s e s' I hq
  | ok fl =>
    cases fl with
    | ret w =>
      obtain ⟨v, H', I', rz, n, en, h0, h1, q'⟩ := I.after hq
      subst en
      obtain ⟨t, rfl⟩ := rz
      exact ⟨⟨h0, by omega⟩, .int n, H', I'.tok _, ⟨_, rfl⟩, q'⟩
    | next => exact False.elim hq
    | brk => exact False.elim hq
    | cont => exact False.elim hq
end
section
variable {W : Ab} {J : JW}
theorem sim_olen {s : Sm} {to : TE} {o : C} {E : XK} {wf : List D → MM → (D → MM → Prop) → Prop} {dv : List V} {cn : Str} {Ca : Addr} (ho : SimE W J to (wE s o)) (hc : W.cls cn = some Ca)
    (hw : ∀ ds M Φ, s.call (cn ++ "." ++ "__len__") ds M Φ s.xs → wf ds M Φ) : SimE W J (tCB (rLenO Ca (spF W 1 wf) (fun vs zs => arrV dv [.at_ 0] (vs ++ zs)) E) (tCons to tNil)) (wE s (.olen cn o)) := fun {F M H σ Γ Φ Q} j c ev w k => by
  simp only [wE] at w
  refine ho j c ev w fun x d F0 M0 H0 c0 s0 r0 w0 => ?_
  obtain ⟨hx, w0⟩ := w0
  have obj : ∃ a dx fs, x = .ref a ∧ H0 a = some (.ins Ca dx fs) := by
    cases r0 with
    | @obj a C dx c' vfs fs q1 q2 q3 q4 =>
      have hx' : c' = cn := hx
      rw [hx', hc] at q1
      cases q1
      exact ⟨a, dx, vfs, rfl, c0.ex _ _ q2⟩
    | loc a =>
      simp only at hx
      split at hx
      · rename_i c' fs hm
        obtain ⟨_, C, dx, vfs, q1, q2, q3, q4⟩ := c0.cell a _ hm
        rw [hx, hc] at q1
        cases q1
        exact ⟨a, dx, vfs, rfl, q2⟩
      · exact hx.elim
    | _ => exact hx.elim
  obtain ⟨a, dx, fs, rfl, e1⟩ := obj
  refine ⟨a, dx, fs, rfl, e1, F0, M0, [d], _, rfl, c0, .cons r0 .nil, hw _ _ _ w0, fun v z F3 M3 H3 c3 s3 r3 w3 => ?_⟩
  cases r3 with
  | int n => exact ⟨n, rfl, w3.1, w3.2.1, k _ _ _ _ _ c3 (s0.trans s3) (.int n) w3.2.2⟩
  | _ => exact (show False from w3).elim
end
end Sw
set_option maxRecDepth 100000
set_option maxHeartbeats 4000000
/-! Sw: the compile functions are sound. What is fixed, what is asked of a context; single steps. -/
namespace Sw
open PySem L2 SwZ
/-- what is fixed -/
structure Wd where
  W : Ab
  P : Program
  w : World
  mg : Str → Option Value
  base : Heap
  lv : Nat
  s : Sm
  J : JW
structure XOk (D : Wd) (g : Cfg) (X : Cx) : Prop where
  prog : X.prog = D.P
  w : X.w = D.w
  k : X.K = D.W.K
  mg : X.mg = D.mg
  base : X.base = D.base
  n : X.N = g.N
  nd : g.N.Nodup
  sc : ∀ x k, g.sc.names.lookup x = some k → X.env.scope.names.lookup x = some k ∨ (k = .free ∧ X.env.scope.names.lookup x = some .cell)
  calm : X.calm = true
  room : Room (D.lv + 1) X.A
  xe : X.xe = fun _ _ => False
  fn : ∀ x, isSto g.sc x = true → X.fn x = true ∨ g.sc.names.lookup x = some .local
/-- a def of the text: what it promises, how its calls bind -/
structure FnAt (D : Wd) (f : Addr) (sg : Sig) (nm : Str) (own : Str) (pats : List (Str × Nat × List Str)) : Prop where
  ex : ∃ fd dv wf, PySem.W.keepIn D.W.K (.ref f) = true ∧ FnOk D.P D.w D.W.K D.mg D.base CX0 D.lv f fd sg.ps (spF D.W sg.ps.length wf) ∧ (∀ ds M Φ, D.s.call nm ds M Φ D.s.xs → wf ds M Φ) ∧
    ∀ n ks ar, pats.contains (nm, n, ks) = true → arrOf sg n ks = some ar → DflOk D.W dv ar ∧ Bnd D.W.K fd sg.ps n ks (fun vs zs => arrV dv ar (vs ++ zs))
def biNames : List Str := ["len", "abs", "int", "sum", "all", "any", "tuple", "list", "min", "max", "isinstance", "range", "zip", "enumerate", "bool", "str", "sorted", "set"]
structure MgOk (D : Wd) (gn : Gn) : Prop where
  cst : ∀ x d, lk x gn.cst = some d → ∃ v u, D.mg x = some u ∧ RelV v u ∧ ∀ F : Hp, Rp D.W F v d
  fns : ∀ x sg, lk x gn.fns = some sg → ∃ f, D.mg x = some (.ref f) ∧ FnAt D f sg x "" gn.pats
  cls : ∀ x sg, lk x gn.cls = some sg → ∃ Ca f, D.W.cls x = some Ca ∧ D.mg x = some (.ref Ca) ∧ Mk D.W.K Ca f ∧ FnAt D f sg (x ++ ".__init__") x gn.pats
  mth : ∀ c m sg, lkM c m gn.mth = some sg → ∃ Ca f, D.W.cls c = some Ca ∧ Meth D.W.K Ca m f ∧ FnAt D f sg (c ++ "." ++ m) c gn.pats
  flds : ∀ f, f ∈ gn.flds → f ∈ D.W.flds
  bi : ∀ x ∈ biNames, D.mg x = none
section
variable {D : Wd} {g : Cfg} {X : Cx}
theorem ixOf_get : ∀ {N : List Str} {x : Str} {i : Nat}, ixOf N x = some i → N[i]? = some x
  | [], _, _, h => by cases h
  | y :: r, x, i, h => by
    unfold ixOf at h
    split at h
    · rename_i e
      cases h
      subst e
      rfl
    · cases q : ixOf r x with
      | none => rw [q] at h; cases h
      | some j => rw [q] at h; cases h; simpa using ixOf_get q
theorem vis_of (o : XOk D g X) {x : Str} (h : isLoc g.sc x = true) : Vis X.env.scope x := by
  unfold isLoc at h
  split at h
  · rename_i q
    rcases o.sc _ _ q with q | ⟨e, _⟩
    · exact .inl q
    · cases e
  · rename_i q
    rcases o.sc _ _ q with q | ⟨e, _⟩
    · exact .inr (.inl q)
    · cases e
  · rename_i q
    rcases o.sc _ _ q with q | ⟨_, q⟩
    · exact .inr (.inr q)
    · exact .inr (.inl q)
  · cases h
theorem loc_of (o : XOk D g X) {x : Str} (h : g.sc.names.lookup x = some .local) : X.env.scope.names.lookup x = some .local := by
  rcases o.sc _ _ h with q | ⟨e, _⟩
  · exact q
  · cases e
theorem sto_cases {sc : Scope} {x : Str} (h : isSto sc x = true) : sc.names.lookup x = some .local ∨ sc.names.lookup x = some .cell := by
  unfold isSto at h
  split at h
  · exact .inl (by assumption)
  · exact .inr (by assumption)
  · cases h
theorem sto_of (o : XOk D g X) {x : Str} (h : isSto g.sc x = true) : L2.Loc X.env.scope x := by
  rcases sto_cases h with q | q
  · exact .inl (loc_of o q)
  · rcases o.sc _ _ q with q | ⟨e, _⟩
    · exact .inr q
    · cases e
theorem fn_of' (o : XOk D g X) {x : Str} (h : isSto g.sc x = true) : X.fn x = true ∨ X.env.scope.names.lookup x = some .local := by
  rcases o.fn x h with q | q
  · exact .inl q
  · exact .inr (loc_of o q)
theorem gl_of (o : XOk D g X) {x : Str} (h : isGl g.sc x = true) : Gl X x := by
  unfold isGl at h
  split at h
  · rename_i q
    rcases o.sc _ _ q with q | ⟨e, _⟩
    · exact q
    · cases e
  · cases h
theorem blk_of (o : XOk D g X) {sc : Scope} {own : List (Str × Nat)} (h : blkC g.N g.sc sc own = true) : BlkOk X.N X.env.scope sc own := by
  have b := blkOk_by h
  rw [o.n]
  refine ⟨b.kind, b.uniq, b.ix, fun y m e => ?_, b.own⟩
  rcases b.free y m e with q | q
  · rcases o.sc _ _ q with q | ⟨e, _⟩
    · exact .inl q
    · cases e
  · rcases o.sc _ _ q with q | ⟨_, q⟩
    · exact .inr q
    · exact .inl q
theorem look_map {f : Str × NameKind → Str × NameKind} (hf : ∀ p, (f p).1 = p.1) (x : Str) : ∀ (l : List (Str × NameKind)) (k : NameKind), l.lookup x = some k → (l.map f).lookup x = some (f (x, k)).2
  | [], _, h => by cases h
  | (y, k') :: r, k, h => by
    have e1 := hf (y, k')
    rw [List.map_cons]
    cases q : f (y, k') with
    | mk y2 k2 =>
    rw [q] at e1
    simp only at e1
    subst e1
    rw [List.lookup_cons] at h ⊢
    cases hb : x == y2 with
    | true =>
      rw [hb] at h
      have exy : x = y2 := LawfulBEq.eq_of_beq hb
      cases h
      subst exy
      rw [q]
    | false =>
      rw [hb] at h
      exact look_map hf x r k h
theorem relabel_sc {sc : Scope} {env : PySem.Env} (x : Str) (k : NameKind) (h : sc.names.lookup x = some k) : (relabel sc env).names.lookup x = some k ∨ (k = .free ∧ (relabel sc env).names.lookup x = some .cell) := by
  have := look_map (f := fun p => if (p.2 == NameKind.free && env.scope.kind == ScopeKind.function && env.kindOf p.1 == some NameKind.cell) = true then (p.1, NameKind.cell) else p) (fun p => by show (if _ then _ else _ : Str × NameKind).1 = _; split <;> rfl) x sc.names k h
  have e : (relabel sc env).names.lookup x = _ := this
  rw [e]
  dsimp only
  split
  · rename_i q
    simp only [Bool.and_eq_true] at q
    refine .inr ⟨?_, rfl⟩
    have := q.1.1
    cases k <;> first | rfl | cases this
  · exact .inl rfl
theorem okName_of {x : Str} (h : okName x = true) : (x == ("__debug__" : Str)) = false ∧ (x == ("__classdict__" : Str)) = false ∧ x ≠ "__name__" := by
  unfold okName at h
  simp only [Bool.and_eq_true, Bool.not_eq_true'] at h
  exact ⟨h.1.1, h.1.2, fun e => by
    have h2 := h.2
    subst e
    simp at h2⟩
theorem XOk.fnOk (o : XOk D g X) {k : Nat} {f : Addr} {fd : FuncData} {ps : List Str} {sp : Sp} (h : FnOk D.P D.w D.W.K D.mg D.base CX0 k f fd ps sp) : FnOk X.prog X.w X.K X.mg X.base CX0 k f fd ps sp := by
  rw [o.prog, o.w, o.k, o.mg, o.base]; exact h
/-- inside a comprehension -/
theorem XOk.blk (o : XOk D g X) {sc : Scope} (s : Shared) (H : Hp) (C : Addr) (cl : List (Str × Addr)) (fp : List Addr) : XOk D { g with sc := sc } (X.blk s H sc (compEnvC sc cl C X.env) fp) where
  prog := o.prog
  w := o.w
  k := o.k
  mg := o.mg
  base := o.base
  n := o.n
  nd := o.nd
  sc := relabel_sc
  calm := o.calm
  room := o.room
  xe := rfl
  fn := fun x h => by
    rcases sto_cases h with h | h
    · exact .inr h
    · refine .inl ?_
      show (sc.names.lookup x == some .cell) = true
      rw [h]; rfl
/-! what is shown of each reading -/
def OkE (D : Wd) (g : Cfg) (e : Expr) (c : C) : Prop := ∃ t, (∀ X, XOk D g X → PE X e t) ∧ SimE D.W D.J t (wE D.s c)
def OkT (D : Wd) (g : Cfg) (e : Expr) (c : C) : Prop := ∃ t, (∀ X, XOk D g X → PT X e t) ∧ SimT D.W D.J t (wT D.s c)
def OkB (D : Wd) (g : Cfg) (op : BoolOp) (vs : List Expr) (c : C) : Prop := ∃ t, (∀ X pos, XOk D g X → PE X (.BoolOp op vs pos) t) ∧ SimE D.W D.J t (wE D.s c)
def OkTB (D : Wd) (g : Cfg) (op : BoolOp) (vs : List Expr) (c : C) : Prop := ∃ t, (∀ X pos, XOk D g X → PW X (.BoolOp op vs pos) t) ∧ SimT D.W D.J t (wT D.s c)
def OkEs (D : Wd) (g : Cfg) (es : List Expr) (c : Cs) : Prop := ∃ t, (∀ X, XOk D g X → PA X es t) ∧ SimAn D.W D.J es.length t (wEs D.s c) ∧ noStars es = true ∧ (es = [] → t = tNil)
def OkK (D : Wd) (g : Cfg) (es : List Keyword) (c : Cs) : Prop := ∃ t, (∀ X, XOk D g X → PK X es t) ∧ SimAn D.W D.J es.length t (wEs D.s c)
def OkO (D : Wd) (g : Cfg) (e : Option Expr) (c : Co) : Prop := ∃ t, (∀ X, XOk D g X → PO X e t) ∧ ∀ {F M H σ Γ Φ} {Q : Option Int → Hp → Prop}, D.J.J F M H → Conc D.W F M H → EnvOk D.W F σ Γ → wO D.s c Γ M Φ → (∀ b F' M' H', Conc D.W F' M' H' → Stp F M H F' M' H' → Φ b M' → Q b H') → t σ H Q
def OkIf (D : Wd) (g : Cfg) (es : List Expr) (c : Co) : Prop := ∃ t, (∀ X, XOk D g X → PTs X es t) ∧ SimT D.W D.J t (wIf D.s c)
def OkI (D : Wd) (g : Cfg) (e tg : Expr) (c : I) : Prop := ∃ t, (∀ X, XOk D g X → PI X tg e t) ∧ SimI D.W D.J t (wI D.s c)
/-- a target sets only the places sl -/
def GW (t : TG) (sl : List Nat) : Prop := ∀ v σ H (Q Q' : St → Hp → Prop), (∀ σ2 H2, σ2.length = σ.length → (∀ i, i ∉ sl → σ2[i]? = σ[i]?) → Q σ2 H2 → Q' σ2 H2) → t v σ H Q → t v σ H Q'
def GWs (t : TGs) (sl : List Nat) : Prop := ∀ vs σ H (Q Q' : St → Hp → Prop), (∀ σ2 H2, σ2.length = σ.length → (∀ i, i ∉ sl → σ2[i]? = σ[i]?) → Q σ2 H2 → Q' σ2 H2) → t vs σ H Q → t vs σ H Q'
def OkG (D : Wd) (g : Cfg) (e : Expr) (c : G) : Prop := ∃ t, (∀ X, XOk D g X → PG X e t) ∧ SimG D.W D.J t (wG D.s c) ∧ ∀ sl, gSlots c = some sl → GW t sl
def OkGs (D : Wd) (g : Cfg) (es : List Expr) (c : Gs) : Prop := ∃ t, (∀ X, XOk D g X → PGs X es t) ∧ SimGs D.W D.J t (wGs D.s c) ∧ (∀ sl, gSlots.go c = some sl → GWs t sl) ∧ noStars es = true ∧ gsLen c = es.length
/-! ### operators -/
theorem okOp (D : Wd) (own : Bool) {op : Operator} (h : op = .Add ∨ op = .Sub ∨ op = .Mult ∨ op = .FloorDiv ∨ op = .Mod ∨ op = .Pow) :
    ∃ r, (∀ X : Cx, X.K = D.W.K → OpR X (binaryOp op) r) ∧ SimR D.W D.J r (wBin own op) := by
  rcases h with rfl | rfl | rfl | rfl | rfl | rfl
  · exact ⟨_, fun X k => by have := @op_addA X; rw [k] at this; exact this, sim_addA⟩
  · exact ⟨_, fun X _ => op_sub, sim_subA⟩
  · exact ⟨_, fun X _ => op_mulA, sim_mulA⟩
  · exact ⟨_, fun X _ => op_fdivW, sim_fdivA⟩
  · exact ⟨_, fun X _ => op_mod, sim_modA⟩
  · exact ⟨_, fun X _ => op_pow, sim_powA⟩
theorem okCmp (D : Wd) {op : CmpOp} : ∃ r, (∀ (g : Cfg) (X : Cx), XOk D g X → OpR X (compareOp op) r) ∧ SimR D.W D.J r (wCmp op) := by
  cases op with
  | Eq => exact ⟨_, fun g X o => by have := @op_eqA X o.room.units; rw [o.k] at this; exact this, sim_eqA⟩
  | NotEq => exact ⟨_, fun g X o => by have := @op_neA X o.room.units; rw [o.k] at this; exact this, sim_neA⟩
  | Lt => exact ⟨_, fun g X o => op_lt, sim_lt⟩
  | LtE => exact ⟨_, fun g X o => op_le, sim_le⟩
  | Gt => exact ⟨_, fun g X o => op_gt, sim_gt⟩
  | GtE => exact ⟨_, fun g X o => op_ge, sim_ge⟩
  | Is => exact ⟨_, fun g X o => op_isN, sim_is⟩
  | IsNot => exact ⟨_, fun g X o => op_notN, sim_isnot⟩
  | In => exact ⟨_, fun g X o => by have := @op_inA X (by have := o.room.un; omega); rw [o.k] at this; exact this, sim_in⟩
  | NotIn => exact ⟨_, fun g X o => by have := @op_notInA X (by have := o.room.un; omega); rw [o.k] at this; exact this, sim_notin⟩
theorem nomark' {op : CmpOp} (h : ¬ (op = .In ∨ op = .NotIn)) (b : Expr) : behindInMarks op b = false := nomark b (fun e => h (.inl e)) (fun e => h (.inr e))
/-! ### built-ins -/
theorem biOf_ok {x : Str} {n : Nat} {b : Bi} (h : biOf x n = some b) : biName b = x ∧ bootBuiltins x = some (biVal b) ∧ x ∈ biNames ∧ 0 < n := by
  have key : ∀ b', biName b' = x → (b' ≠ .range1 ∧ b' ≠ .range2) → x ∈ biNames → 0 < n → some b' = some b → biName b = x ∧ bootBuiltins x = some (biVal b) ∧ x ∈ biNames ∧ 0 < n := fun b' e1 e2 e3 e4 e5 => by
    have e6 := Option.some.inj e5
    subst e6
    refine ⟨e1, ?_, e3, e4⟩
    rcases bi_boot b' with (q | q) | q
    · exact absurd q e2.1
    · exact absurd q e2.2
    · rw [← e1]; exact q
  unfold biOf at h
  split at h
  · rename_i hn
    repeat (split at h; (rename_i e; subst e; exact key _ rfl (by decide) (by decide +kernel) (by omega) h))
    cases h
  · split at h
    · repeat (split at h; (rename_i e; subst e; exact key _ rfl (by decide) (by decide +kernel) (by omega) h))
      cases h
    · cases h
theorem pe_bi {b : Bi} {x : Str} {p pos : Pos} {e : Expr} {es : List Expr} {t : TA} (hc : X.calm = true) (hg : Gl X x) (hm : X.mg x = none) (hb : bootBuiltins x = some (biVal b)) (hn : okName x = true) (ha : PA X (e :: es) t) (hs : noStars (e :: es) = true) :
    PE X (.Call (.Name x p) (e :: es) [] pos) (tCB (rBi X.K b) t) := by
  have hcall := bi_call (X := X) hc b
  obtain ⟨n1, _, n3⟩ := okName_of hn
  have h1 := hs
  simp only [noStars, Bool.and_eq_true, Bool.not_eq_true'] at h1
  unfold biVal at hcall hb
  split at hcall
  · rename_i T q
    rw [q] at hb
    exact pe_callTy hcall hg hm hb ha n3 n1 (star_cons h1.1) (noStars_any h1.2)
  · rename_i q
    rw [q] at hb
    exact pe_callB hcall hg hm hb ha n3 n1 (star_cons h1.1) (noStars_any h1.2)
/-! ### append -/
theorem sim_append {s : Sm} {to ty : TE} {o e : C} {W : Ab} {J : JW} (ho : SimE W J to (wE s o)) (he : SimE W J ty (wE s e)) : SimE W J (tBM W.K "list" rAppend to (tCons ty tNil)) (wE s (.bm false .append o (.cons e .nil))) := fun {F M H σ Γ Φ Q} j c ev w k => by
  simp only [wE, wEs] at w
  refine ho j c ev w fun x d F1 M1 H1 c1 s1 r1 w1 => ?_
  obtain ⟨hty, w1⟩ := w1
  have ty : tyV W.K "list" x H1 := by
    cases r1 with
    | lst h q => exact .inl ⟨rfl, _, .inl (.inl (c1.ex _ _ h))⟩
    | frl h q => exact .inl ⟨rfl, _, c1.ex.l h⟩
    | loc a =>
      simp only [tyM] at hty
      split at hty
      · rename_i xs hm
        obtain ⟨_, vs, h1, _⟩ := c1.cell _ _ hm
        exact .inl ⟨rfl, vs, .inl (.inl h1)⟩
      · exact absurd hty (by decide)
      · cases hty
    | _ => simp [tyM, tyD] at hty
  refine ⟨ty, ?_⟩
  refine he (J.step j s1) c1 (ev.up s1.f) w1 fun y e F2 M2 H2 c2 s2 r2 w2 => ?_
  have s12 := s1.trans s2
  cases r1 with
  | loc a =>
    unfold wBm at w2
    simp only at w2
    split at w2
    · rename_i xs hm
      obtain ⟨_, vs, h1, h2⟩ := c2.cell _ _ hm
      obtain ⟨c', s'⟩ := c2.put (x := .lst (xs ++ [e])) (o := .lst (vs ++ [y])) hm ⟨_, upd_same, h2.append (.cons r2 .nil)⟩
      exact ⟨a, vs, y, rfl, rfl, h1, by rw [h2.length]; exact w2.1, k _ _ _ _ _ c' (s12.trans s') .non w2.2⟩
    · exact w2.elim
  | _ => exact (show False from w2).elim
/-! ### the list from its end -/
theorem sim_rev {s : Sm} {to : TE} {o : C} {own : Bool} {W : Ab} {J : JW} (ho : SimE W J to (wE s o)) : SimE W J (tRevA W.K to) (wE s (.rev own o)) := fun {F M H σ Γ Φ Q} j c ev w k => by
  simp only [wE] at w
  refine ho j c ev w fun x d F1 M1 H1 c1 s1 r1 w1 => ?_
  unfold wRev at w1
  split at w1
  · cases r1 with
    | tup h q => exact ⟨_, _, rfl, .inr ⟨c1.ex.t h, newT_ok c1 q.rev w1 fun v z F3 M3 H3 c3 s3 => k v z F3 M3 H3 c3 (s1.trans s3)⟩⟩
  · rename_i hnt
    split at w1
    · rename_i xs e1
      obtain ⟨a, vs, rfl, q, h⟩ := seq_ok c1 r1 e1
      rcases h with h | ⟨_, h⟩
      · exact ⟨a, vs, rfl, .inl ⟨h, newL_ok c1 q.rev w1 fun v z F3 M3 H3 c3 s3 => k v z F3 M3 H3 c3 (s1.trans s3)⟩⟩
      · exact absurd h (hnt xs)
    · exact w1.elim
end
end Sw
set_option maxRecDepth 100000
set_option maxHeartbeats 4000000
/-! Sw: soundness, expressions. -/
namespace Sw
open PySem L2 SwZ
structure Snd (D : Wd) (n : Nat) : Prop where
  E : ∀ g e c, MgOk D g.gn → cmpE n g e = some c → OkE D g e c
  R : ∀ g e c, MgOk D g.gn → cmpR n g e = some c → OkE D g e c
  B : ∀ g op vs c, MgOk D g.gn → cmpB n g op vs = some c → OkB D g op vs c
  T : ∀ g e c, MgOk D g.gn → cmpT n g e = some c → OkT D g e c
  TB : ∀ g op vs c, MgOk D g.gn → cmpTB n g op vs = some c → OkTB D g op vs c
  Es : ∀ g es c, MgOk D g.gn → cmpEs n g es = some c → OkEs D g es c
  K : ∀ g es c, MgOk D g.gn → cmpK n g es = some c → OkK D g es c
  O : ∀ g e c, MgOk D g.gn → cmpO n g e = some c → OkO D g e c
  If : ∀ g es c, MgOk D g.gn → cmpIf n g es = some c → OkIf D g es c
  I : ∀ g e tg c, MgOk D g.gn → cmpI n g e tg = some c → OkI D g e tg c
  G : ∀ g e c, MgOk D g.gn → cmpG n g e = some c → OkG D g e c
  Gs : ∀ g es c, MgOk D g.gn → cmpGs n g es = some c → OkGs D g es c
theorem map_some {α β : Type} {f : α → β} {o : Option α} {b : β} (h : o.map f = some b) : ∃ a, o = some a ∧ b = f a := by
  cases o with
  | none => cases h
  | some a => cases h; exact ⟨a, rfl, rfl⟩
theorem passN {X : Cx} {E : XK} : Passes CX0 X E := fun _ _ _ _ _ _ _ h => h.elim
theorem mkArr_len {n : Nat} {ks : List Str} {dfl : List (Str × Nat × D)} : ∀ {ps : List Str} {i : Nat} {ar : List Arr}, mkArr n ks dfl i ps = some ar → ar.length = ps.length
  | [], _, _, h => by cases h; rfl
  | p :: ps, i, ar, h => by
    unfold mkArr at h
    simp only [Option.bind_eq_bind, Option.bind_eq_some_iff] at h
    obtain ⟨a, _, r, hr, h⟩ := h
    cases h
    simp [mkArr_len hr]
theorem arrOf_len {sg : Sig} {n : Nat} {ks : List Str} {ar : List Arr} (h : arrOf sg n ks = some ar) : ar.length = sg.ps.length := by
  unfold arrOf at h
  split at h
  · exact mkArr_len h
  · cases h
theorem named_len : ∀ {ks : List Keyword}, allNamed ks = true → (ks.filterMap (·.arg)).length = ks.length
  | [], _ => rfl
  | ⟨a, v, p⟩ :: ks, h => by
    simp only [allNamed, Bool.and_eq_true] at h
    cases a with
    | none => cases h.1
    | some a => simp [named_len h.2]
theorem bnd0 {K : PySem.W.Frag} {fd : FuncData} {ps : List Str} {n : Nat} {dv : List V} {ar : List Arr} (h : Bnd K fd ps n [] (fun vs zs => arrV dv ar (vs ++ zs))) : Bnd K fd ps n [] (fun vs _ => arrV dv ar vs) := by
  obtain ⟨g, h1, h2⟩ := h.ex
  refine ⟨g, h1, fun vs zs us ws e1 e2 r1 r2 => ?_⟩
  have := h2 vs zs us ws e1 e2 r1 r2
  have e : zs = [] := List.eq_nil_of_length_eq_zero (by simpa using e2)
  subst e
  simpa using this
section
variable {D : Wd} {n : Nat} {g : Cfg}
theorem tys_ok (m : MgOk D g.gn) : ∀ (tys : List Expr) (ts : List String), tysOf tys = some ts → (tys.all fun | .Name t _ => okName t && isGl g.sc t | _ => false) = true →
    (∀ u ∈ ts, u ∈ knownTy) ∧ ts.length = tys.length ∧ ∀ X, XOk D g X → PA X tys (tTys ts)
  | [], ts, h, _ => by
    cases h
    exact ⟨fun _ q => (by cases q), rfl, fun _ _ => pa_nil⟩
  | e :: r, ts, h, ha => by
    rw [List.all_cons, Bool.and_eq_true] at ha
    cases e with
    | Name x p =>
      have ha1 := ha.1
      simp only [Bool.and_eq_true] at ha1
      rw [tysOf.eq_def] at h
      simp only at h
      split at h
      · rename_i ts' h'
        obtain ⟨k1, k2, k3⟩ := tys_ok m r ts' h' ha.2
        have key : ∀ u : String, x ∈ biNames → u ∈ knownTy → bootBuiltins x = some (.type u) → (∀ v ∈ u :: ts', v ∈ knownTy) ∧ (u :: ts').length = (Expr.Name x p :: r).length ∧ ∀ X, XOk D g X → PA X (Expr.Name x p :: r) (tTys (u :: ts')) := fun u b1 b2 b3 => by
          refine ⟨fun v q => ?_, by simp [k2], fun X o => pa_cons (pe_bltn (gl_of o ha1.2) (by rw [o.mg]; exact m.bi x b1) b3 rfl (okName_of ha1.1).2.2 (okName_of ha1.1).1) (k3 X o) rfl⟩
          cases q with
          | head => exact b2
          | tail _ q => exact k1 v q
        repeat' split at h
        all_goals first | (cases h; done) | (cases h; rename_i e; subst e; exact key _ (by decide +kernel) (by decide) (by decide +kernel)) | skip
        all_goals (cases h; subst_vars; exact key _ (by decide +kernel) (by decide) (by decide +kernel))
      · cases h
    | _ => cases ha.1
theorem pe_isA {X : Cx} {p pos : Pos} {a b : Expr} {t : TA} (hg : Gl X "isinstance") (hm : X.mg "isinstance" = none) (ha : PA X [a, b] t) (hs : noStars [a, b] = true) : PE X (.Call (.Name "isinstance" p) [a, b] [] pos) (tCB (rIsA X.K) t) := by
  have h1 := hs
  simp only [noStars, Bool.and_eq_true, Bool.not_eq_true'] at h1
  exact pe_callB call_isA hg hm (by decide +kernel) ha (by decide) (by decide) (star_cons h1.1) (noStars_any (es := [b]) (by simp [noStars, h1.2.1]))
theorem wipe_at (σ : St) : ∀ (vs : List Nat) (i : Nat), (L2.wipe σ vs)[i]? = if i ∈ vs then (σ[i]?).map (fun _ => none) else σ[i]?
  | [], i => by simp [L2.wipe]
  | v :: vs, i => by
    show ((L2.wipe σ vs).set v none)[i]? = _
    have ih := wipe_at σ vs i
    by_cases h : v = i
    · subst h
      rw [List.getElem?_set_self', ih, if_pos (List.mem_cons_self)]
      split
      · cases σ[v]? <;> rfl
      · cases σ[v]? <;> rfl
    · rw [List.getElem?_set_ne h, ih]
      have : i ∈ v :: vs ↔ i ∈ vs := by
        rw [List.mem_cons]
        exact ⟨fun q => q.elim (fun e => absurd e.symm h) id, .inr⟩
      by_cases q : i ∈ vs
      · rw [if_pos q, if_pos (this.mpr q)]
      · rw [if_neg q, if_neg (fun z => q (this.mp z))]
theorem gw_wipe {t : TG} {sl vs : List Nat} (h : GW t sl) (hs : ∀ i ∈ sl, i ∈ vs) : ∀ v σ H Q, t v (L2.wipe σ vs) H Q → t v (L2.wipe σ vs) H fun σ2 H2 => L2.wipe σ2 vs = L2.wipe σ vs ∧ Q σ2 H2 := fun v σ H Q q => by
  refine h v (L2.wipe σ vs) H _ _ (fun σ2 H2 el eo q2 => ⟨?_, q2⟩) q
  apply List.ext_getElem?
  intro i
  rw [wipe_at]
  by_cases hi : i ∈ vs
  · rw [if_pos hi, wipe_at, if_pos hi]
    have hl : σ2.length = σ.length := el.trans (L2.wipe_length σ vs)
    by_cases hj : i < σ.length
    · rw [List.getElem?_eq_getElem (by omega), List.getElem?_eq_getElem hj]
      rfl
    · rw [List.getElem?_eq_none (by omega), List.getElem?_eq_none (by omega)]
  · rw [if_neg hi]
    exact eo i fun z => hi (hs i z)
mutual
theorem wG_run {s : Sm} : ∀ (c : G) (sl : List Nat) {d : Sw.D} {Γ : Sw.Env} {M : MM} {Φ : Sw.Env → MM → Prop}, gSlots c = some sl → wG s c d Γ M Φ → ∃ Γ' M', Φ Γ' M'
  | .name i, sl, d, Γ, M, Φ, _, w => by
    simp only [wG] at w
    exact ⟨_, _, w⟩
  | .tup gs, sl, d, Γ, M, Φ, h, w => by
    simp only [wG] at w
    split at w
    · rename_i ds
      obtain ⟨_, r⟩ := wGs_run gs sl (by simpa [gSlots] using h) w
      exact r
    · exact w.elim
  | .sub _ _, sl, d, Γ, M, Φ, h, w => by simp [gSlots] at h
  | .fld _ _, sl, d, Γ, M, Φ, h, w => by simp [gSlots] at h
theorem wGs_run {s : Sm} : ∀ (c : Gs) (sl : List Nat) {ds : List Sw.D} {Γ : Sw.Env} {M : MM} {Φ : Sw.Env → MM → Prop}, gSlots.go c = some sl → wGs s c ds Γ M Φ → ds.length = gsLen c ∧ ∃ Γ' M', Φ Γ' M'
  | .nil, sl, ds, Γ, M, Φ, _, w => by
    simp only [wGs] at w
    split at w
    · exact ⟨rfl, _, _, w⟩
    · exact w.elim
  | .cons c r, sl, ds, Γ, M, Φ, h, w => by
    simp only [wGs] at w
    split at w
    · rename_i d ds'
      simp only [gSlots.go] at h
      split at h
      · rename_i a b h1 h2
        obtain ⟨Γ1, M1, w1⟩ := wG_run c a h1 w
        obtain ⟨e, r⟩ := wGs_run r b h2 w1
        exact ⟨by simp [gsLen, e], r⟩
      · cases h
    · exact w.elim
end
theorem ass_len {env : PySem.Env} : ∀ {es : List Expr}, noStars es = true → (assignEach es env).length = es.length ∧ (assignEach es env).findIdx? (·.1) = none
  | [], _ => ⟨rfl, rfl⟩
  | e :: es, h => by
    simp only [noStars, Bool.and_eq_true, Bool.not_eq_true'] at h
    obtain ⟨i1, i2⟩ := ass_len (env := env) h.2
    have : assignEach (e :: es) env = (false, assign e env) :: assignEach es env := by
      cases e <;> first | rfl | cases h.1
    rw [this]
    refine ⟨by simp [i1], ?_⟩
    rw [List.findIdx?_cons, i2]
    rfl
theorem ass_cons {e : Expr} {es : List Expr} {env : PySem.Env} (h : isStar e = false) : (assignEach (e :: es) env).map (·.2) = assign e env :: (assignEach es env).map (·.2) := by
  cases e <;> first | rfl | cases h
theorem lc_parts (ih : Snd D n) (m : MgOk D g.gn) {elt tg iter : Expr} {ifs : List Expr} {sc : Scope} {pos : Pos} {c : C} (h : cmpR (n + 1) g (.ListComp elt [⟨tg, iter, ifs, 0⟩] sc pos) = some c) :
    ∃ ow wi gt tt te, isSetE iter = false ∧ (∀ X, XOk D g X → PI X tg iter wi ∧ BlkOk X.N X.env.scope sc ow ∧ (∀ (s : Shared) (H : Hp) (C : Addr) (cl : List (Str × Addr)) (fp : List Addr), PG (X.blk s H sc (compEnvC sc cl C X.env) fp) tg gt) ∧
      (∀ (s : Shared) (H : Hp) (C : Addr) (cl : List (Str × Addr)) (fp : List Addr), PTs (X.blk s H sc (compEnvC sc cl C X.env) fp) ifs tt) ∧ (∀ (s : Shared) (H : Hp) (C : Addr) (cl : List (Str × Addr)) (fp : List Addr), PE (X.blk s H sc (compEnvC sc cl C X.env) fp) elt te)) ∧
      SimE D.W D.J (tLc wi gt tt te (ow.map (·.2))) (wE D.s c) := by
  rw [cmpR.eq_def] at h
  simp only at h
  split at h
  · rename_i ow how
    split at h
    · rename_i hb
      simp only [Bool.and_eq_true, Bool.not_eq_true'] at hb
      split at h
      · rename_i i t f ce h1 h2 h3 h4
        split at h
        · rename_i sl hsl
          split at h
          · rename_i hall
            cases h
            obtain ⟨wi, p1, q1⟩ := ih.I _ _ _ _ m h1
            obtain ⟨gt, p2, q2, q5⟩ := ih.G { g with sc := sc } _ _ m h2
            obtain ⟨tt, p3, q3⟩ := ih.If { g with sc := sc } _ _ m h3
            obtain ⟨te, p4, q4⟩ := ih.E { g with sc := sc } _ _ m h4
            refine ⟨ow, wi, gt, tt, te, hb.2, fun X o => ⟨p1 X o, blk_of o hb.1, fun s H C cl fp => p2 _ (o.blk s H C cl fp), fun s H C cl fp => p3 _ (o.blk s H C cl fp), fun s H C cl fp => p4 _ (o.blk s H C cl fp)⟩, ?_⟩
            refine simE_lc q1 q2 (gw_wipe (q5 sl hsl) fun i hi => ?_) q3 q4
            have := List.all_eq_true.mp hall i hi
            simpa using this
          · cases h
        · cases h
      · cases h
    · cases h
  · cases h
theorem ok_callU {x : Str} {f : Addr} {sg : Sig} {pats : List (Str × Nat × List Str)} {p pos : Pos} {es : List Expr} {kws : List Keyword} {ar : List Arr} {c1 c2 : Cs} (hn : okName x = true) (hg : isGl g.sc x = true) (hs : noStars es = true) (hk : allNamed kws = true)
    (hf : FnAt D f sg x "" pats) (hm : D.mg x = some (.ref f)) (hp : pats.contains (x, es.length, kws.filterMap (·.arg)) = true) (har : arrOf sg es.length (kws.filterMap (·.arg)) = some ar) (as : OkEs D g es c1) (ks : OkK D g kws c2) : OkE D g (.Call (.Name x p) es kws pos) (.call x ar c1 c2) := by
  obtain ⟨fd, dv, wf, k1, F, hw, hb⟩ := hf.ex
  obtain ⟨hd, hB⟩ := hb _ _ _ hp har
  obtain ⟨t, pt, st, _, tnil⟩ := as
  obtain ⟨tk, ptk, stk⟩ := ks
  rw [← named_len hk] at stk
  rw [← arrOf_len har] at F
  obtain ⟨n1, n2, n3⟩ := okName_of hn
  refine ⟨tCallU es.length (kws.filterMap (·.arg)).length (spF D.W ar.length wf) (fun vs zs => arrV dv ar (vs ++ zs)) (fun _ _ _ => False) t tk, fun X o => ?_, sim_callU st stk hd hw⟩
  cases es with
  | nil =>
    cases tnil rfl
    exact pe_callU0 (o.fnOk F) (o.room.mono (by omega)) (gl_of o hg) (by rw [o.mg]; exact hm) (by rw [o.k]; exact k1) (by rw [o.k]; exact hB) passN (ptk X o) (named_all hk) named_map n1
      (by rw [noStars_any (es := []) rfl, named_any hk]; rfl)
  | cons e es =>
    have h1 := hs
    simp only [noStars, Bool.and_eq_true, Bool.not_eq_true'] at h1
    exact pe_callU (o.fnOk F) (o.room.mono (by omega)) (gl_of o hg) (by rw [o.mg]; exact hm) (by rw [o.k]; exact k1) (by rw [o.k]; exact hB) passN (pt X o) (ptk X o) (named_all hk) named_map n1
      (star_cons h1.1) (by rw [noStars_any hs, named_any hk]; rfl)
theorem ok_makeU {x : Str} {f Ca : Addr} {sg : Sig} {pats : List (Str × Nat × List Str)} {p pos : Pos} {es : List Expr} {ar : List Arr} {c1 : Cs} {own : Bool} (hn : okName x = true) (hg : isGl g.sc x = true) (hs : noStars es = true) (hne : es.isEmpty = false)
    (hf : FnAt D f sg (x ++ ".__init__") x pats) (hC : D.W.cls x = some Ca) (hm : D.mg x = some (.ref Ca)) (hM : Mk D.W.K Ca f) (hp : pats.contains (x ++ ".__init__", es.length + 1, []) = true) (har : arrOf sg (es.length + 1) [] = some ar) (as : OkEs D g es c1) :
    OkE D g (.Call (.Name x p) es [] pos) (.make x own ar c1) := by
  obtain ⟨fd, dv, wf, k1, F, hw, hb⟩ := hf.ex
  obtain ⟨hd, hB⟩ := hb _ _ _ hp har
  obtain ⟨t, pt, st, _, tnil⟩ := as
  rw [← arrOf_len har] at F
  obtain ⟨n1, n2, n3⟩ := okName_of hn
  refine ⟨tMakeU Ca (es.length + 1) (spF D.W ar.length wf) (fun vs => arrV dv ar vs) (fun _ _ _ => False) t, fun X o => ?_, sim_makeU st hd hC hw⟩
  cases es with
  | nil => cases hne
  | cons e es =>
    have h1 := hs
    simp only [noStars, Bool.and_eq_true, Bool.not_eq_true'] at h1
    exact pe_makeU (by rw [o.k]; exact hM) (o.fnOk F) o.room (gl_of o hg) (by rw [o.mg]; exact hm) (by rw [o.k]; exact bnd0 hB) passN (pt X o) n1 (star_cons h1.1) (noStars_any h1.2)
theorem ok_methU {cn mn : Str} {f Ca : Addr} {sg : Sig} {pats : List (Str × Nat × List Str)} {ap pos : Pos} {oe : Expr} {es : List Expr} {kws : List Keyword} {ar : List Arr} {c0 : C} {c1 c2 : Cs} (hc : isCallE oe = false) (hs : noStars es = true) (hk : allNamed kws = true)
    (hl : (ap.endLine == pos.line) = true) (hlen : es.length + kws.length < 20) (hf : FnAt D f sg (cn ++ "." ++ mn) cn pats) (hC : D.W.cls cn = some Ca) (hM : Meth D.W.K Ca mn f) (hp : pats.contains (cn ++ "." ++ mn, es.length + 1, kws.filterMap (·.arg)) = true)
    (har : arrOf sg (es.length + 1) (kws.filterMap (·.arg)) = some ar) (ob : OkE D g oe c0) (as : OkEs D g es c1) (ks : OkK D g kws c2) : OkE D g (.Call (.Attribute oe mn ap) es kws pos) (.meth cn mn ar c0 c1 c2) := by
  obtain ⟨fd, dv, wf, k1, F, hw, hb⟩ := hf.ex
  obtain ⟨hd, hB⟩ := hb _ _ _ hp har
  obtain ⟨to, po, so⟩ := ob
  obtain ⟨t, pt, st, _, tnil⟩ := as
  obtain ⟨tk, ptk, stk⟩ := ks
  rw [← named_len hk] at stk
  rw [← arrOf_len har] at F
  refine ⟨tMethU Ca mn (es.length + 1) (kws.filterMap (·.arg)).length (spF D.W ar.length wf) (fun vs zs => arrV dv ar (vs ++ zs)) (fun _ _ _ => False) to t tk, fun X o => ?_, sim_methU so st stk hd hC hw⟩
  obtain ⟨pl, he⟩ := methEq (o := oe) (m := mn) (apos := ap) (pos := pos) (es := es) (kws := kws) (env := X.env) hc hs hk hl (by omega)
  have cl : Cls X.K Ca := by rw [o.k]; exact D.W.okC _ _ hC
  cases es with
  | nil =>
    cases tnil rfl
    exact pe_methU0 (po X o) cl (by rw [o.k]; exact hM) (o.fnOk F) (o.room.mono (by omega)) (by rw [o.k]; exact hB) passN (ptk X o) (named_all hk) named_map (by rw [noStars_any (es := []) rfl, named_any hk]; rfl) he
  | cons e es =>
    have h1 := hs
    simp only [noStars, Bool.and_eq_true, Bool.not_eq_true'] at h1
    exact pe_methU (po X o) cl (by rw [o.k]; exact hM) (o.fnOk F) (o.room.mono (by omega)) (by rw [o.k]; exact hB) passN (pt X o) (ptk X o) (named_all hk) named_map (star_cons h1.1) (by rw [noStars_any hs, named_any hk]; rfl) he
theorem ok_sp (m : MgOk D g.gn) {x : Str} {p pos : Pos} {es as : List Expr} {b : Spc} {own : Bool} {cs : Cs} (hn : okName x = true) (hg : isGl g.sc x = true) (h : spOf g x es = some (b, as)) (ha : OkEs D g as cs) : OkE D g (.Call (.Name x p) es [] pos) (.sp own b cs) := by
  obtain ⟨t, pt, st, _, _⟩ := ha
  unfold spOf at h
  split at h
  · split at h
    · rename_i hc
      obtain ⟨rfl, rfl, h3, h4⟩ := hc
      cases h
      exact ⟨_, fun X o => by rw [← o.k]; exact pe_sset o.calm (gl_of o hg) (by rw [o.mg]; exact m.bi _ (by decide +kernel)) (gl_of o h3) (by rw [o.mg]; exact m.bi _ (by decide +kernel)) (pt X o) (star_cons h4), sim_sp st.to simL_sset⟩
    · cases h
  · split at h
    · rename_i hc
      obtain ⟨rfl, rfl, h3, h4, h5⟩ := hc
      split at h
      · cases h
        exact ⟨_, fun X o => by rw [← o.k]; exact pe_zipL o.calm (gl_of o hg) (by rw [o.mg]; exact m.bi _ (by decide +kernel)) (gl_of o h3) (by rw [o.mg]; exact m.bi _ (by decide +kernel)) (pt X o) (star_cons h4) (star_cons h5), sim_sp st.to simL_zipL⟩
      · split at h
        · rename_i hk
          cases h
          subst hk
          exact ⟨_, fun X o => by rw [← o.k]; exact pe_zipS o.calm (gl_of o hg) (by rw [o.mg]; exact m.bi _ (by decide +kernel)) (gl_of o h3) (by rw [o.mg]; exact m.bi _ (by decide +kernel)) (pt X o) (star_cons h4) (star_cons h5), sim_sp st.to simL_zipS⟩
        · cases h
      · cases h
    · cases h
  · cases h
theorem arSelf_eq {ar : List Arr} (h : arSelf ar = true) : ar = [.at_ 0] := by
  unfold arSelf at h
  split at h
  · rfl
  · cases h
theorem ok_olen (m : MgOk D g.gn) {x cn : Str} {p pos : Pos} {es : List Expr} {a : Expr} {c : C} (hn : okName x = true) (hg : isGl g.sc x = true) (h : lenOf g x pos es = some (cn, a)) (ha : OkE D g a c) : OkE D g (.Call (.Name x p) es [] pos) (.olen cn c) := by
  unfold lenOf at h
  split at h
  · rename_i a'
    split at h
    · rename_i hc
      obtain ⟨rfl, hst⟩ := hc
      split at h
      · rename_i c' hlk
        split at h
        · rename_i sg hsg
          split at h
          · rename_i hp
            cases h
            obtain ⟨Ca, f, hC, hM, hf⟩ := m.mth _ _ _ hsg
            obtain ⟨fd, dv, wf, k1, F, hw, hb⟩ := hf.ex
            obtain ⟨ar, har, hs⟩ := map_some hp.2
            have har2 := arSelf_eq hs.symm
            subst har2
            obtain ⟨hd, hB⟩ := hb _ _ _ hp.1 har
            obtain ⟨t, pt, st⟩ := ha
            rw [← arrOf_len har] at F
            refine ⟨_, fun X o => ?_, sim_olen (dv := dv) (E := fun _ _ _ => False) st hC hw⟩
            exact pe_callB (call_lenO (by rw [o.k]; exact hM) (o.fnOk F) o.room (by rw [o.k]; exact hB) passN) (gl_of o hg) (by rw [o.mg]; exact m.bi _ (by decide +kernel)) (by decide +kernel) (pa_cons (pt X o) pa_nil (star_cons hst)) (by decide) (by decide) (star_cons hst) (noStars_any (es := []) rfl)
          · cases h
        · cases h
      · cases h
    · cases h
  · cases h
theorem snd_R (ih : Snd D n) : ∀ g e c, MgOk D g.gn → cmpR (n + 1) g e = some c → OkE D g e c := by
  intro g e c m h
  have h0 := h
  rw [cmpR.eq_def] at h
  simp only at h
  split at h
  · -- a name
    rename_i x pos
    split at h
    · rename_i hn
      obtain ⟨n1, n2, n3⟩ := okName_of hn
      split at h
      · rename_i hl
        obtain ⟨i, hi, rfl⟩ := map_some h
        exact ⟨_, fun X o => pe_var (by rw [o.n]; exact ixOf_get hi) (vis_of o hl) n1 n2, sim_var⟩
      · split at h
        · rename_i hg
          obtain ⟨d, hd, rfl⟩ := map_some h
          obtain ⟨v, u, e1, e2, e3⟩ := m.cst x d hd
          exact ⟨_, fun X o => pe_glob (gl_of o hg) (by rw [o.mg]; exact e1) e2 n1, sim_cst e3⟩
        · cases h
    · cases h
  · cases h; exact ⟨_, fun X o => pe_int, sim_cst fun F => .int _⟩
  · cases h; exact ⟨_, fun X o => pe_bl, sim_cst fun F => .bl _⟩
  · cases h; exact ⟨_, fun X o => pe_non, sim_cst fun F => .non⟩
  · cases h; exact ⟨_, fun X o => pe_str, sim_cst fun F => .str _⟩
  · split at h
    · rename_i hop
      split at h
      · rename_i x y hx hy
        cases h
        obtain ⟨ta, p1, q1⟩ := ih.E _ _ _ m hx
        obtain ⟨tb, p2, q2⟩ := ih.E _ _ _ m hy
        obtain ⟨r, p3, q3⟩ := okOp D _ hop
        exact ⟨_, fun X o => pe_op (p3 X o.k) (p1 X o) (p2 X o), sim_op q1 q2 q3⟩
      · cases h
    · cases h
  · obtain ⟨x, hx, rfl⟩ := map_some h
    obtain ⟨ta, p1, q1⟩ := ih.E _ _ _ m hx
    exact ⟨_, fun X o => pe_un un_neg (p1 X o), sim_neg q1⟩
  · obtain ⟨x, hx, rfl⟩ := map_some h
    obtain ⟨ta, p1, q1⟩ := ih.E _ _ _ m hx
    exact ⟨_, fun X o => pe_not (p1 X o), sim_not q1⟩
  · obtain ⟨t, p, q⟩ := ih.B _ _ _ _ m h
    exact ⟨t, fun X o => p X _ o, q⟩
  · split at h
    · cases h
    · rename_i hop
      split at h
      · rename_i x y hx hy
        cases h
        obtain ⟨ta, p1, q1⟩ := ih.E _ _ _ m hx
        obtain ⟨tb, p2, q2⟩ := ih.E _ _ _ m hy
        obtain ⟨r, p3, q3⟩ := okCmp D (op := _)
        exact ⟨_, fun X o => pe_cmpR (p3 g X o) (p1 X o) (p2 X o) (by simpa using hop), sim_cmp q1 q2 q3⟩
      · cases h
  · split at h
    · cases h
    · rename_i hop
      split at h
      · rename_i x y z hx hy hz
        cases h
        obtain ⟨ta, p1, q1⟩ := ih.E _ _ _ m hx
        obtain ⟨tb, p2, q2⟩ := ih.E _ _ _ m hy
        obtain ⟨tc, p4, q4⟩ := ih.E _ _ _ m hz
        have hop1 : ∀ _ : _ ∨ _, False := fun q => hop (q.elim .inl fun q => .inr (.inl q))
        have hop2 : ∀ _ : _ ∨ _, False := fun q => hop (q.elim (fun q => .inr (.inr (.inl q))) fun q => .inr (.inr (.inr q)))
        obtain ⟨r, p3, q3⟩ := okCmp D (op := _)
        obtain ⟨r', p5, q5⟩ := okCmp D (op := _)
        exact ⟨_, fun X o => pe_chain (p3 g X o) (p5 g X o) (p1 X o) (p2 X o) (p4 X o) (by show behindInMarks _ _ = false; exact nomark' hop2 _), sim_chain q1 q2 q4 q3 q5⟩
      · cases h
  · split at h
    · rename_i x y z hx hy hz
      cases h
      obtain ⟨ta, p1, q1⟩ := ih.T _ _ _ m hx
      obtain ⟨tb, p2, q2⟩ := ih.E _ _ _ m hy
      obtain ⟨tc, p4, q4⟩ := ih.E _ _ _ m hz
      exact ⟨_, fun X o => pe_ifExp (p1 X o) (p2 X o) (p4 X o), sim_ife q1 q2 q4⟩
    · cases h
  · obtain ⟨x, hx, rfl⟩ := map_some h
    obtain ⟨ta, p1, q1, _⟩ := ih.Es _ _ _ m hx
    exact ⟨_, fun X o => pe_tup (p1 X o), sim_tup q1.to⟩
  · obtain ⟨x, hx, rfl⟩ := map_some h
    obtain ⟨ta, p1, q1, _⟩ := ih.Es _ _ _ m hx
    exact ⟨_, fun X o => pe_lst (p1 X o), sim_lst q1.to⟩
  · split at h
    · rename_i x l u hx hl hu
      cases h
      obtain ⟨ta, p1, q1⟩ := ih.E _ _ _ m hx
      obtain ⟨tl, p2, q2⟩ := ih.O _ _ _ m hl
      obtain ⟨tu, p3, q3⟩ := ih.O _ _ _ m hu
      exact ⟨_, fun X o => pe_slice (by have := @sl_all X; rw [o.k] at this; exact this) (p1 X o) (p2 X o) (p3 X o), sim_slc q1 q2 q3⟩
    · cases h
  · obtain ⟨x, hx, rfl⟩ := map_some h
    obtain ⟨ta, p1, q1⟩ := ih.E _ _ _ m hx
    exact ⟨_, fun X o => by rw [← o.k]; exact pe_revA (p1 X o), sim_rev q1⟩
  · split at h
    · cases h
    · rename_i hsl
      split at h
      · rename_i x y hx hy
        cases h
        obtain ⟨ta, p1, q1⟩ := ih.E _ _ _ m hx
        obtain ⟨tb, p2, q2⟩ := ih.E _ _ _ m hy
        exact ⟨_, fun X o => pe_ix (by have := @ix_seq X; rw [o.k] at this; exact this) (p1 X o) (p2 X o) (plainIx (by simpa using hsl)), sim_ix q1 q2 sim_ixA⟩
      · cases h
  · split at h
    · cases h
    · rename_i hc
      split at h
      · rename_i hf
        obtain ⟨x, hx, rfl⟩ := map_some h
        obtain ⟨ta, p1, q1⟩ := ih.E _ _ _ m hx
        exact ⟨_, fun X o => by rw [← o.k]; exact pe_fld (p1 X o) (baseEq (by simpa using hc)), sim_fld q1 (m.flds _ (by simpa using hf))⟩
      · cases h
  · -- a call of a name
    rename_i x p es kws pos
    split at h
    · rename_i hc
      simp only [Bool.and_eq_true, decide_eq_true_eq] at hc
      obtain ⟨⟨⟨⟨hn, hg⟩, hs⟩, hk⟩, hl⟩ := hc
      split at h
      · rename_i sg hsg
        obtain ⟨f, hm, hf⟩ := m.fns x sg hsg
        split at h
        · rename_i hp
          split at h
          · rename_i ar as ks har has hks
            cases h
            exact ok_callU hn hg hs hk hf hm hp har (ih.Es _ _ _ m has) (ih.K _ _ _ m hks)
          · cases h
        · cases h
      · split at h
        · rename_i sg hsg
          obtain ⟨Ca, f, hC, hm, hM, hf⟩ := m.cls x sg hsg
          split at h
          · rename_i hp
            simp only [Bool.and_eq_true, Bool.not_eq_true'] at hp
            have ek : kws = [] := List.isEmpty_iff.mp hp.1.1
            subst ek
            split at h
            · rename_i ar as har has
              cases h
              exact ok_makeU hn hg hs hp.1.2 hf hC hm hM hp.2 har (ih.Es _ _ _ m has)
            · cases h
          · cases h
        · split at h
          · rename_i hke
            have ek : kws = [] := List.isEmpty_iff.mp hke
            subst ek
            split at h
            · rename_i hx
              subst hx
              have hgi := fun (X : Cx) (o : XOk D g X) => gl_of o hg
              have hmi := fun (X : Cx) (o : XOk D g X) => (show X.mg "isinstance" = none by rw [o.mg]; exact m.bi _ (by decide +kernel))
              split at h
              · rename_i a t tp
                split at h
                · rename_i c1 ts hc1 hts
                  split at h
                  · rename_i hq
                    cases h
                    simp only [Bool.and_eq_true] at hq
                    obtain ⟨ta, p1, q1⟩ := ih.E _ _ _ m hc1
                    obtain ⟨k1, k2, k3⟩ := tys_ok (g := g) m _ _ hts (by simp [hq.1.1, hq.1.2])
                    obtain ⟨u, rfl⟩ : ∃ u, ts = [u] := List.length_eq_one_iff.mp k2
                    have h1 := hs
                    simp only [noStars, Bool.and_eq_true, Bool.not_eq_true'] at h1
                    exact ⟨_, fun X o => by rw [← o.k]; exact pe_isA (hgi X o) (hmi X o) (pa_cons (p1 X o) (k3 X o) (star_cons h1.1)) hs, sim_isi1 q1 (k1 u List.mem_cons_self)⟩
                  · cases h
                · cases h
              · rename_i a tys k1 p1
                split at h
                · rename_i c1 ts hc1 hts
                  split at h
                  · rename_i hq
                    cases h
                    simp only [Bool.and_eq_true, decide_eq_true_eq] at hq
                    obtain ⟨ta, p1, q1⟩ := ih.E _ _ _ m hc1
                    obtain ⟨k1, k2, k3⟩ := tys_ok (g := g) m _ _ hts hq.1
                    have h1 := hs
                    simp only [noStars, Bool.and_eq_true, Bool.not_eq_true'] at h1
                    exact ⟨_, fun X o => by rw [← o.k]; exact pe_isA (hgi X o) (hmi X o) (pa_cons (p1 X o) (pa_cons (pe_tup (k3 X o)) pa_nil rfl) (star_cons h1.1)) hs, sim_isiT q1 k1 (by omega)⟩
                  · cases h
                · cases h
              · cases h
            · split at h
              · rename_i cn a hlen
                obtain ⟨c0, hc0, rfl⟩ := map_some h
                exact ok_olen m hn hg hlen (ih.E _ _ _ m hc0)
              · split at h
                · rename_i b as hsp
                  obtain ⟨cs, hcs, rfl⟩ := map_some h
                  exact ok_sp m hn hg hsp (ih.Es _ _ _ m hcs)
                · split at h
                  · rename_i b hb
                    obtain ⟨as, has, rfl⟩ := map_some h
                    obtain ⟨b1, b2, b3, b4⟩ := biOf_ok hb
                    obtain ⟨t, pt, st, _, _⟩ := ih.Es _ _ _ m has
                    refine ⟨_, fun X o => ?_, sim_bi st.to (sim_biA b)⟩
                    cases es with
                    | nil => exact absurd b4 (by simp)
                    | cons e es =>
                      rw [← o.k]
                      exact pe_bi o.calm (gl_of o hg) (by rw [o.mg]; exact m.bi x b3) b2 hn (pt X o) hs
                  · cases h
          · cases h
    · cases h
  · -- a method
    rename_i oe mn ap es kws pos
    split at h
    · cases h
    · rename_i hc
      simp only [Bool.or_eq_true, Bool.not_eq_true', not_or, Bool.not_eq_true, Bool.not_eq_false, decide_eq_false_iff_not, Classical.not_not] at hc
      obtain ⟨⟨⟨⟨hcall, hs⟩, hk⟩, hl⟩, hlen⟩ := hc
      split at h
      · rename_i cn hcn
        split at h
        · rename_i sg hsg
          obtain ⟨Ca, f, hC, hM, hf⟩ := m.mth _ _ _ hsg
          split at h
          · rename_i hp
            split at h
            · rename_i ar x as ks har hx has hks
              cases h
              exact ok_methU hcall hs hk hl hlen hf hC hM hp har (ih.E _ _ _ m hx) (ih.Es _ _ _ m has) (ih.K _ _ _ m hks)
            · cases h
          · cases h
        · cases h
      · split at h
        · rename_i hke
          have ek : kws = [] := List.isEmpty_iff.mp hke
          subst ek
          split at h
          · rename_i hx
            subst hx
            split at h
            · rename_i e1
              split at h
              · rename_i x y hx hy
                cases h
                obtain ⟨ta, p1, q1⟩ := ih.E _ _ _ m hx
                obtain ⟨tb, p2, q2⟩ := ih.E _ _ _ m hy
                have h1 := hs
                simp only [noStars, Bool.and_eq_true, Bool.not_eq_true'] at h1
                exact ⟨_, fun X o => by
                  rw [← o.k]
                  exact pe_bm PySem.F.plainAttrs_list slot_list_append type_list_append mt_append (p1 X o) (pa_cons (p2 X o) pa_nil (star_cons h1.1)) (baseEq hcall) (by rw [noStars_all hs]; rfl) hl (star_cons h1.1) (noStars_any (es := []) rfl), sim_append q1 q2⟩
              · cases h
            · cases h
          · cases h
        · cases h
  · rename_i elt tg iter ifs sc pos
    obtain ⟨ow, wi, gt, tt, te, hset, p, q⟩ := lc_parts ih m h0
    refine ⟨_, fun X o => ?_, q⟩
    obtain ⟨p1, p2, p3, p4, p5⟩ := p X o
    exact pe_lc o.calm (by rw [o.n]; exact o.nd) p1 p2 p3 p4 p5 (notSet hset)
  · cases h
theorem snd_E (ih : Snd D n) : ∀ g e c, MgOk D g.gn → cmpE (n + 1) g e = some c → OkE D g e c := by
  intro g e c m h
  rw [cmpE.eq_def] at h
  simp only at h
  split at h
  · rename_i c0 h0
    obtain ⟨t, p, q⟩ := ih.R _ _ _ m h0
    cases h
    split
    · exact ⟨t, p, sim_frz q⟩
    · exact ⟨t, p, q⟩
  · cases h
theorem snd_B (ih : Snd D n) : ∀ g op vs c, MgOk D g.gn → cmpB (n + 1) g op vs = some c → OkB D g op vs c := by
  intro g op vs c m h
  rw [cmpB.eq_def] at h
  simp only at h
  split at h
  · cases h
  · obtain ⟨t, p, q⟩ := ih.E _ _ _ m h
    exact ⟨t, fun X pos o => pe_one (p X o), q⟩
  · split at h
    · rename_i x y hx hy
      obtain ⟨ta, p1, q1⟩ := ih.E _ _ _ m hx
      obtain ⟨tb, p2, q2⟩ := ih.B _ _ _ _ m hy
      cases op with
      | And => cases h; exact ⟨_, fun X pos o => pe_and (p1 X o) (p2 X pos o), sim_and q1 q2⟩
      | Or => cases h; exact ⟨_, fun X pos o => pe_or (p1 X o) (p2 X pos o), sim_or q1 q2⟩
    · cases h
theorem snd_T (ih : Snd D n) : ∀ g e c, MgOk D g.gn → cmpT (n + 1) g e = some c → OkT D g e c := by
  intro g e c m h
  rw [cmpT.eq_def] at h
  simp only at h
  split at h
  · obtain ⟨x, hx, rfl⟩ := map_some h
    obtain ⟨ta, p1, q1⟩ := ih.T _ _ _ m hx
    exact ⟨_, fun X o => pt_not (p1 X o), simT_not q1⟩
  · obtain ⟨t, p, q⟩ := ih.TB _ _ _ _ m h
    exact ⟨t, fun X o => (p X _ o).pt, q⟩
  · split at h
    · cases h
    · rename_i hop
      split at h
      · rename_i x y hx hy
        cases h
        obtain ⟨ta, p1, q1⟩ := ih.E _ _ _ m hx
        obtain ⟨tb, p2, q2⟩ := ih.E _ _ _ m hy
        obtain ⟨r, p3, q3⟩ := okCmp D (op := _)
        exact ⟨_, fun X o => pt_cmpR (p3 g X o) (p1 X o) (p2 X o) (by simpa using hop), simT_test (sim_cmp q1 q2 q3)⟩
      · cases h
  · split at h
    · cases h
    · rename_i hop
      split at h
      · rename_i x y z hx hy hz
        cases h
        obtain ⟨ta, p1, q1⟩ := ih.E _ _ _ m hx
        obtain ⟨tb, p2, q2⟩ := ih.E _ _ _ m hy
        obtain ⟨tc, p4, q4⟩ := ih.E _ _ _ m hz
        have hop1 : ∀ _ : _ ∨ _, False := fun q => hop (q.elim .inl fun q => .inr (.inl q))
        have hop2 : ∀ _ : _ ∨ _, False := fun q => hop (q.elim (fun q => .inr (.inr (.inl q))) fun q => .inr (.inr (.inr q)))
        obtain ⟨r, p3, q3⟩ := okCmp D (op := _)
        obtain ⟨r', p5, q5⟩ := okCmp D (op := _)
        exact ⟨_, fun X o => pt_chain (p3 g X o) (p5 g X o) (p1 X o) (p2 X o) (p4 X o) (by show behindInMarks _ _ = false; exact nomark' hop2 _), simT_test (sim_chain q1 q2 q4 q3 q5)⟩
      · cases h
  · split at h
    · cases h
    · rename_i ht
      obtain ⟨t, p, q⟩ := ih.E _ _ _ m h
      exact ⟨_, fun X o => pt_val (p X o) (isT_plain (by simpa using ht)), simT_val q⟩
theorem snd_TB (ih : Snd D n) : ∀ g op vs c, MgOk D g.gn → cmpTB (n + 1) g op vs = some c → OkTB D g op vs c := by
  intro g op vs c m h
  rw [cmpTB.eq_def] at h
  simp only at h
  split at h
  · cases h
  · obtain ⟨t, p, q⟩ := ih.T _ _ _ m h
    cases op with
    | And => exact ⟨t, fun X pos o => pw_and1 (p X o), q⟩
    | Or => exact ⟨t, fun X pos o => pw_or1 (p X o), q⟩
  · split at h
    · rename_i x y hx hy
      obtain ⟨ta, p1, q1⟩ := ih.T _ _ _ m hx
      obtain ⟨tb, p2, q2⟩ := ih.TB _ _ _ _ m hy
      cases op with
      | And => cases h; exact ⟨_, fun X pos o => pw_and (p1 X o) (p2 X pos o), simT_and q1 q2⟩
      | Or => cases h; exact ⟨_, fun X pos o => pw_or (p1 X o) (p2 X pos o), simT_or q1 q2⟩
    · cases h
theorem snd_Es (ih : Snd D n) : ∀ g es c, MgOk D g.gn → cmpEs (n + 1) g es = some c → OkEs D g es c := by
  intro g es c m h
  rw [cmpEs.eq_def] at h
  simp only at h
  split at h
  · cases h
    exact ⟨_, fun X o => pa_nil, simAn_nil, rfl, fun _ => rfl⟩
  · rename_i e r
    split at h
    · cases h
    · rename_i hst
      have hst' : isStar e = false := by simpa using hst
      split at h
      · rename_i x y hx hy
        cases h
        obtain ⟨ta, p1, q1⟩ := ih.E _ _ _ m hx
        obtain ⟨tb, p2, q2, q3, _⟩ := ih.Es _ _ _ m hy
        exact ⟨_, fun X o => pa_cons (p1 X o) (p2 X o) (star_cons hst'), simAn_cons q1 q2, by simp [noStars, hst', q3], fun e => nomatch e⟩
      · cases h
theorem snd_K (ih : Snd D n) : ∀ g es c, MgOk D g.gn → cmpK (n + 1) g es = some c → OkK D g es c := by
  intro g es c m h
  rw [cmpK.eq_def] at h
  simp only at h
  split at h
  · cases h
    exact ⟨_, fun X o => pk_nil, simAn_nil⟩
  · split at h
    · rename_i x y hx hy
      cases h
      obtain ⟨ta, p1, q1⟩ := ih.E _ _ _ m hx
      obtain ⟨tb, p2, q2⟩ := ih.K _ _ _ m hy
      exact ⟨_, fun X o => pk_cons (p1 X o) (p2 X o), simAn_cons q1 q2⟩
    · cases h
theorem snd_O (ih : Snd D n) : ∀ g e c, MgOk D g.gn → cmpO (n + 1) g e = some c → OkO D g e c := by
  intro g e c m h
  rw [cmpO.eq_def] at h
  simp only at h
  split at h
  · cases h
    exact ⟨_, fun X o => po_none, simO_no⟩
  · obtain ⟨x, hx, rfl⟩ := map_some h
    obtain ⟨ta, p1, q1⟩ := ih.E _ _ _ m hx
    exact ⟨_, fun X o => po_some (p1 X o), simO_so q1⟩
theorem simIf_no {W : Ab} {J : JW} {s : Sm} : SimT W J tYes (wIf s .no) := fun {F M H σ Γ Φ Q} j c e w k => by
  simp only [wIf] at w
  exact k _ F M H c Stp.refl w
theorem simIf_so {W : Ab} {J : JW} {s : Sm} {t : TT} {a : C} (h : SimT W J t (wT s a)) : SimT W J t (wIf s (.so a)) := fun {F M H σ Γ Φ Q} j c e w k => by
  simp only [wIf] at w
  exact h (Φ := Φ) j c e w k
theorem snd_If (ih : Snd D n) : ∀ g es c, MgOk D g.gn → cmpIf (n + 1) g es = some c → OkIf D g es c := by
  intro g es c m h
  rw [cmpIf.eq_def] at h
  simp only at h
  split at h
  · cases h
    exact ⟨_, fun X o => pts_nil, simIf_no⟩
  · obtain ⟨x, hx, rfl⟩ := map_some h
    obtain ⟨ta, p1, q1⟩ := ih.T _ _ _ m hx
    exact ⟨_, fun X o => pts_one (p1 X o), simIf_so q1⟩
  · cases h
theorem snd_Iseq (ih : Snd D n) (m : MgOk D g.gn) {e tg : Expr} {c : I} (h : (cmpE n g e).map I.seq = some c) : OkI D g e tg c := by
  obtain ⟨x, hx, rfl⟩ := map_some h
  obtain ⟨ta, p1, q1⟩ := ih.E _ _ _ m hx
  exact ⟨_, fun X o => by rw [← o.k]; exact pi_seq (p1 X o), simI_seq q1⟩
theorem snd_I (ih : Snd D n) : ∀ g e tg c, MgOk D g.gn → cmpI (n + 1) g e tg = some c → OkI D g e tg c := by
  intro g e tg c m h
  rw [cmpI.eq_def] at h
  simp only at h
  split at h
  · rename_i x p es kws pos
    split at h
    · rename_i hc
      simp only [Bool.and_eq_true] at hc
      obtain ⟨⟨⟨hg, hn⟩, _⟩, _⟩ := hc
      have hgi := fun (X : Cx) (o : XOk D g X) => gl_of o hg
      have hmi := fun (X : Cx) (o : XOk D g X) (q : x ∈ biNames) => (show X.mg x = none by rw [o.mg]; exact m.bi _ q)
      split at h
      · rename_i hx
        subst hx
        split at h
        · rename_i a
          split at h
          · cases h
          · rename_i hs
            have hs' : isStar a = false := by simpa using hs
            obtain ⟨x, hx, rfl⟩ := map_some h
            obtain ⟨ta, p1, q1⟩ := ih.E _ _ _ m hx
            exact ⟨_, fun X o => pi_range1 (hgi X o) (hmi X o (by decide +kernel)) (pa_cons (p1 X o) pa_nil (star_cons hs')) (star_cons hs'), simI_range1 q1⟩
        · rename_i a b
          split at h
          · cases h
          · rename_i hs
            simp only [Bool.or_eq_true, not_or, Bool.not_eq_true] at hs
            split at h
            · rename_i x y hx hy
              cases h
              obtain ⟨ta, p1, q1⟩ := ih.E _ _ _ m hx
              obtain ⟨tb, p2, q2⟩ := ih.E _ _ _ m hy
              exact ⟨_, fun X o => pi_range2 (hgi X o) (hmi X o (by decide +kernel)) (pa_cons (p1 X o) (pa_cons (p2 X o) pa_nil (star_cons hs.2)) (star_cons hs.1)) (by rw [star_cons hs.1, star_cons hs.2]; rfl) (star_cons hs.2), simI_range2 q1 q2⟩
            · cases h
        · cases h
      · split at h
        · rename_i hx
          subst hx
          split at h
          · rename_i a b
            split at h
            · cases h
            · rename_i hs
              simp only [Bool.or_eq_true, not_or, Bool.not_eq_true] at hs
              split at h
              · rename_i x y hx hy
                cases h
                obtain ⟨ta, p1, q1⟩ := ih.E _ _ _ m hx
                obtain ⟨tb, p2, q2⟩ := ih.E _ _ _ m hy
                exact ⟨_, fun X o => by rw [← o.k]; exact pi_zipM (hgi X o) (hmi X o (by decide +kernel)) (pa_cons (p1 X o) (pa_cons (p2 X o) pa_nil (star_cons hs.2)) (star_cons hs.1)) (star_cons hs.1) (star_cons hs.2), simI_zip q1 q2⟩
              · cases h
          · rename_i a b
            split at h
            · cases h
            · rename_i hs
              simp only [Bool.or_eq_true, not_or, Bool.not_eq_true, Bool.not_eq_true', Bool.not_eq_false, decide_eq_false_iff_not, decide_eq_true_eq, Classical.not_not] at hs
              obtain ⟨⟨hs1, hs2⟩, hs3⟩ := hs
              split at h
              · rename_i x y hx hy
                cases h
                subst hs3
                obtain ⟨ta, p1, q1⟩ := ih.E _ _ _ m hx
                obtain ⟨tb, p2, q2⟩ := ih.E _ _ _ m hy
                exact ⟨_, fun X o => by rw [← o.k]; exact pi_zipS (hgi X o) (hmi X o (by decide +kernel)) (pa_cons (p1 X o) (pa_cons (p2 X o) pa_nil (star_cons hs2)) (star_cons hs1)) (star_cons hs1) (star_cons hs2), simI_zip q1 q2⟩
              · cases h
          · cases h
        · split at h
          · rename_i hx
            subst hx
            split at h
            · rename_i a
              split at h
              · cases h
              · rename_i hs
                have hs' : isStar a = false := by simpa using hs
                obtain ⟨x, hx, rfl⟩ := map_some h
                obtain ⟨ta, p1, q1⟩ := ih.E _ _ _ m hx
                exact ⟨_, fun X o => by rw [← o.k]; exact pi_enumM (hgi X o) (hmi X o (by decide +kernel)) (pa_cons (p1 X o) pa_nil (star_cons hs')) (star_cons hs'), simI_enum q1⟩
            · cases h
          · exact snd_Iseq ih m h
    · exact snd_Iseq ih m h
  · exact snd_Iseq ih m h
theorem gw_name (i : Nat) : GW (gName i) [i] := fun v σ H Q Q' k h => k _ _ (by simp) (fun j hj => by rw [List.getElem?_set_ne (fun e => hj (by simp [e]))]) h
theorem gw_mono {t : TG} {a b : List Nat} (h : GW t a) (hs : ∀ i ∈ a, i ∈ b) : GW t b := fun v σ H Q Q' k q => h v σ H Q Q' (fun σ2 H2 e1 e2 => k σ2 H2 e1 fun i hi => e2 i fun z => hi (hs i z)) q
theorem gw_tup {K : PySem.W.Frag} {k : Nat} {t : TGs} {sl : List Nat} (h : GWs t sl) : GW (gTup K k t) sl := fun v σ H Q Q' kk q => by
  obtain ⟨a, xs, e1, e2, e3, q⟩ := q
  exact ⟨a, xs, e1, e2, e3, h xs σ H Q Q' kk q⟩
theorem gws_nil : GWs gNil [] := fun vs σ H Q Q' k q => ⟨q.1, k _ _ rfl (fun _ _ => rfl) q.2⟩
theorem gws_cons {t : TG} {u : TGs} {a b : List Nat} (h1 : GW t a) (h2 : GWs u b) : GWs (gCons t u) (a ++ b) := fun vs σ H Q Q' k q => by
  obtain ⟨v, r, e, q⟩ := q
  refine ⟨v, r, e, h1 v σ H _ _ (fun σ2 H2 l1 o1 q2 => ?_) q⟩
  refine h2 r σ2 H2 Q Q' (fun σ3 H3 l2 o2 q3 => k σ3 H3 (l2.trans l1) (fun i hi => ?_) q3) q2
  rw [List.mem_append, not_or] at hi
  rw [o2 i hi.2, o1 i hi.1]
theorem snd_G (ih : Snd D n) : ∀ g e c, MgOk D g.gn → cmpG (n + 1) g e = some c → OkG D g e c := by
  intro g e c m h
  rw [cmpG.eq_def] at h
  simp only at h
  split at h
  · rename_i x pos
    split at h
    · rename_i hs
      obtain ⟨i, hi, rfl⟩ := map_some h
      refine ⟨_, fun X o => pg_name (by rw [o.n]; exact o.nd) (by rw [o.n]; exact ixOf_get hi) (sto_of o hs) (fn_of' o hs), simG_name, fun sl e => ?_⟩
      cases e
      exact gw_name i
    · cases h
  · rename_i es k pos
    split at h
    · rename_i gs hgs
      split at h
      · rename_i hsome
        cases h
        obtain ⟨t, p, q, r, hs, hl⟩ := ih.Gs _ _ _ m hgs
        obtain ⟨sl, hsl⟩ := Option.isSome_iff_exists.mp hsome
        refine ⟨_, fun X o => by rw [← o.k]; exact pg_tup o.calm (p X o) (ass_len hs).1 (ass_len hs).2, simG_tup q fun w => ?_, fun sl' e => ?_⟩
        · rw [(wGs_run _ _ hsl w).1, hl]
        · exact gw_tup (r sl' (by simpa [gSlots] using e))
      · cases h
    · cases h
  · rename_i o' i pos
    split at h
    · cases h
    · rename_i hsl
      split at h
      · rename_i x y hx hy
        cases h
        obtain ⟨ta, p1, q1⟩ := ih.E _ _ _ m hx
        obtain ⟨tb, p2, q2⟩ := ih.E _ _ _ m hy
        exact ⟨_, fun X o => pg_sub (p1 X o) (p2 X o) set_list (subSet (by simpa using hsl)), simG_sub q1 q2, fun sl e => by simp [gSlots] at e⟩
      · cases h
  · cases h
theorem snd_Gs (ih : Snd D n) : ∀ g es c, MgOk D g.gn → cmpGs (n + 1) g es = some c → OkGs D g es c := by
  intro g es c m h
  rw [cmpGs.eq_def] at h
  simp only at h
  split at h
  · cases h
    refine ⟨_, fun X o => pgs_nil, simGs_nil, fun sl e => ?_, rfl, rfl⟩
    cases e
    exact gws_nil
  · rename_i e r
    split at h
    · cases h
    · rename_i hst
      have hst' : isStar e = false := by simpa using hst
      split at h
      · rename_i x y hx hy
        cases h
        obtain ⟨ta, p1, q1, r1⟩ := ih.G _ _ _ m hx
        obtain ⟨tb, p2, q2, r2, hs, hl⟩ := ih.Gs _ _ _ m hy
        refine ⟨_, fun X o => pgs_cons (p1 X o) (p2 X o) (ass_cons hst'), simGs_cons q1 q2, fun sl e => ?_, by simp [noStars, hst', hs], by simp [gsLen, hl]⟩
        simp only [gSlots.go] at e
        split at e
        · rename_i a b ha hb
          cases e
          exact gws_cons (r1 a ha) (r2 b hb)
        · cases e
      · cases h
theorem snd_all (D : Wd) : ∀ n, Snd D n
  | 0 => {
    E := fun g e c m h => by rw [cmpE.eq_def] at h; cases h
    R := fun g e c m h => by rw [cmpR.eq_def] at h; cases h
    B := fun g op e c m h => by rw [cmpB.eq_def] at h; cases h
    T := fun g e c m h => by rw [cmpT.eq_def] at h; cases h
    TB := fun g op e c m h => by rw [cmpTB.eq_def] at h; cases h
    Es := fun g e c m h => by rw [cmpEs.eq_def] at h; cases h
    K := fun g e c m h => by rw [cmpK.eq_def] at h; cases h
    O := fun g e c m h => by rw [cmpO.eq_def] at h; cases h
    If := fun g e c m h => by rw [cmpIf.eq_def] at h; cases h
    I := fun g e tg c m h => by rw [cmpI.eq_def] at h; cases h
    G := fun g e c m h => by rw [cmpG.eq_def] at h; cases h
    Gs := fun g e c m h => by rw [cmpGs.eq_def] at h; cases h }
  | n + 1 => let ih := snd_all D n
    { E := snd_E ih, R := snd_R ih, B := snd_B ih, T := snd_T ih, TB := snd_TB ih, Es := snd_Es ih, K := snd_K ih, O := snd_O ih, If := snd_If ih, I := snd_I ih, G := snd_G ih, Gs := snd_Gs ih }
end
end Sw
set_option maxRecDepth 100000
set_option maxHeartbeats 4000000
/-! Sw: soundness, statements. -/
namespace Sw
open PySem L2 SwZ
def rIxLT (K : PySem.W.Frag) : R2 := rOr (rIxL K) (rIxT K)
theorem get_list {X : Cx} : PGet X (rIxL X.K) := by
  intro pins s σ H o i ov iv Q I ro ri h
  obtain ⟨p, xs, i, z, rfl, rfl, hq, he, q⟩ := h
  cases ro
  obtain ⟨t, rfl⟩ := ri
  obtain ⟨its, r, pl, hz⟩ := I.list hq
  obtain ⟨j, h1, h2, h3, h4, h5⟩ := atI_get he
  obtain ⟨w, ew, rw'⟩ := r.get h2
  have hl := r.length
  have hn := line63
  have fin : EP X pins σ Q w s := ⟨z, H, I, rw', q⟩
  by_cases h0 : 0 ≤ i
  · have hj : i.toNat = j := by
      rw [seqIndex_of h0 h5] at h1
      exact Option.some.inj h1
    exact wpAny_getItem_list pl.isList h0 (by omega) (by rw [hj]; simpa using ew) fin
  · have hj : (i + (its.toArray.size : Int)).toNat = j := by
      rw [seqIndex_neg (by omega) h4] at h1
      rw [List.size_toArray, ← hl]
      exact Option.some.inj h1
    exact wpAny_getItem_list_neg pl.isList (by omega) (by rw [List.size_toArray] <;> omega) (by omega) (by rw [hj]; simpa using ew) fin
theorem get_tup {X : Cx} : PGet X (rIxT X.K) := by
  intro pins s σ H o i ov iv Q I ro ri h
  obtain ⟨p, xs, i, z, rfl, rfl, hq, he, q⟩ := h
  cases ro
  obtain ⟨t, rfl⟩ := ri
  obtain ⟨its, r, pl, hz⟩ := I.tuple hq
  obtain ⟨j, h1, h2, h3, h4, h5⟩ := atI_get he
  obtain ⟨w, ew, rw'⟩ := r.get h2
  have hl := r.length
  have hn := line63
  have fin : EP X pins σ Q w s := ⟨z, H, I, rw', q⟩
  exact PyProof.Rows.getItem_tuple (j := j) pl (by omega) (by omega) (by rw [List.size_toArray, ← hl]; exact h1) (by simpa using ew) fin
theorem get_seq {X : Cx} : PGet X (rIxLT X.K) := by
  intro pins s σ H o i ov iv Q I ro ri h
  rcases h with h | h
  · exact get_list pins s σ H o i ov iv Q I ro ri h
  · exact get_tup pins s σ H o i ov iv Q I ro ri h
section
variable {W : Ab} {J : JW}
theorem sim_ixLT : SimR W J (rIxLT W.K) wIx := simR_imp fun {F M H x y d e Φ Q} c rx ry w k => by
  unfold wIx at w
  split at w
  · cases ry
    split at w
    · rename_i xs e1
      unfold atD at w
      split at w
      · rename_i z e2
        obtain ⟨a, vs, rfl, q, h⟩ := seq_ok' c rx e1
        obtain ⟨v, e3, rv⟩ := atI_rel q e2
        have kk := k _ _ _ _ _ c Stp.refl rv w
        rcases h with h | h
        · exact .inl ⟨a, vs, _, v, rfl, rfl, h, e3, kk⟩
        · exact .inr ⟨a, vs, _, v, rfl, rfl, h, e3, kk⟩
      · exact w.elim
    · exact w.elim
  · exact w.elim
theorem simS_augL {s : Sm} {to ti te : TE} {o i e : C} {op : Operator} (ho : SimE W J to (wE s o)) (hi : SimE W J ti (wE s i)) (he : SimE W J te (wE s e)) : SimS W J (tAugS to ti te (rIxLT W.K) (rAug op) rSetL) (wS s (.augS o i op e)) := fun {F M H σ Γ k D} j c ev w ends => by
  simp only [wS] at w
  refine ho j c ev w fun x1 d1 F1 M1 H1 c1 s1 r1 w1 => ?_
  refine hi (J.step j s1) c1 (ev.up s1.f) w1 fun x2 d2 F2 M2 H2 c2 s2 r2 w2 => ?_
  have t2 := s1.trans s2
  refine sim_ixLT (J.step j t2) c2 (r1.up s2.f) r2 w2 fun x3 d3 F3 M3 H3 c3 s3 r3 w3 => ?_
  have t3 := t2.trans s3
  refine he (J.step j t3) c3 (ev.up t3.f) w3 fun x4 d4 F4 M4 H4 c4 s4 r4 w4 => ?_
  have t4 := t3.trans s4
  refine sim_aug op (J.step j t4) c4 (r3.up s4.f) r4 w4 fun x5 d5 F5 M5 H5 c5 s5 r5 w5 => ?_
  have t5 := t4.trans s5
  have u5 := ((s2.trans s3).trans s4).trans s5
  have v5 := (s3.trans s4).trans s5
  exact setI_ok c5 (r1.up u5.f) (r2.up v5.f) r5 w5 fun F6 M6 H6 c6 s6 w6 => ends.nx _ _ F6 M6 H6 c6 (t5.trans s6) (ev.up (t5.trans s6).f) w6
end
/-- a def's context -/
structure SX (D : Wd) (g : Cfg) (X : Cx) : Prop where
  x : XOk D g X
  sc : X.env.scope = g.sc
  blk : X.env.blockKind = .function
def OkS (D : Wd) (g : Cfg) (e : Stmt) (c : S) : Prop := ∃ t, (∀ X, SX D g X → PS X e t) ∧ SimS D.W D.J t (wS D.s c)
def OkSs (D : Wd) (g : Cfg) (e : List Stmt) (c : Ss) : Prop := ∃ t, (∀ X, SX D g X → PSs X e t) ∧ SimS D.W D.J t (wSs D.s c)
theorem sw_lc (elt : Expr) (gens : List Comprehension) (sc : Scope) (p : Pos) (t : Str) (q : Pos) (l : Nat) (env : PySem.Env) :
    (swapsWith (.ListComp elt gens sc p) (some (.Name t q)) l env = pure false) ∨ (swapsWith (.ListComp elt gens sc p) (some (.Name t q)) l env = pure true ∧ env.scope.names.lookup t = some .local) := by
  have e : swapsWith (.ListComp elt gens sc p) (some (.Name t q)) l env = pure (env.blockKind == .function && env.kindOf t == some .local && q.line == p.line && !(sc.names.any fun (n, k) => n == t && (k == .local || k == .cell))) := rfl
  rw [e]
  cases hb : (env.blockKind == .function && env.kindOf t == some .local && q.line == p.line && !(sc.names.any fun (n, k) => n == t && (k == .local || k == .cell))) with
  | false => exact .inl rfl
  | true =>
    refine .inr ⟨rfl, ?_⟩
    simp only [Bool.and_eq_true] at hb
    have := hb.1.1.2
    show env.kindOf t = _
    cases hk : env.kindOf t with
    | none => rw [hk] at this; cases this
    | some k => rw [hk] at this; cases k <;> first | rfl | cases this
theorem lc_shape {n : Nat} {g : Cfg} {e : Expr} {c : C} (hc : isComp e = true) (h : cmpR n g e = some c) : ∃ elt tg iter ifs sc pos, e = .ListComp elt [⟨tg, iter, ifs, 0⟩] sc pos ∧ ∃ k, n = k + 1 := by
  cases n with
  | zero => rw [cmpR.eq_def] at h; cases h
  | succ n =>
    rw [cmpR.eq_def] at h
    simp only at h
    split at h
    all_goals first | (cases hc; done) | (cases h; done) | exact ⟨_, _, _, _, _, _, rfl, _, rfl⟩
theorem sole {tg e : Expr} {l : Nat} {env : PySem.Env} : swapsWithSole [tg] e l env = swapsWith e (some tg) l env := rfl
def isTup : Expr → Bool
  | .Tuple .. => true
  | _ => false
theorem noSwap {ts : List Expr} {k : Nat} {p : Pos} {e : Expr} {env : PySem.Env} (h : isTup e = false) : swappedStores [.Tuple ts k p] e env = pure none := by
  cases e <;> first | rfl | cases h
theorem starM {a : Expr} (h : isStar a = false) : (match (generalizing := false) a with | .Starred _ _ => true | _ => false) = false := by
  cases a <;> first | (cases h; done) | rfl
theorem swPar {x y : Str} {px py pt pt2 : Pos} {kt k2 : Nat} {a b : Expr} {env : PySem.Env} (hb : env.blockKind = .function) (hx : env.scope.names.lookup x = some .local) (hy : env.scope.names.lookup y = some .local) (hl : (py.line == px.line) = true) (hxy : x ≠ y) (ha : isStar a = false) (hbb : isStar b = false)
    (hf : [a, b].all (foldedForSure 8) = false) (hc : [a, b].all (constantsAlone 8) = false) : swappedStores [.Tuple [.Name x px, .Name y py] kt pt] (.Tuple [a, b] k2 pt2) env = pure (some [x, y]) := by
  have k1 : env.kindOf x = some .local := hx
  have k2 : env.kindOf y = some .local := hy
  have hl' : py.line = px.line := by simpa using hl
  have pl : (Expr.Name x px).pos = px := rfl
  have sa := starM ha
  have sb := starM hbb
  have hyx : ¬ y = x := fun e => hxy e.symm
  have dup : [x, y].eraseDups = [x, y] := by
    have : (y == x) = false := by simpa using fun e => hxy e.symm
    simp [List.eraseDups_cons, List.filter_cons, this]
  have hf' : (foldedForSure 8 a && foldedForSure 8 b) = false := by simpa [List.all_cons] using hf
  have hc' : (constantsAlone 8 a && constantsAlone 8 b) = false := by simpa [List.all_cons] using hc
  have hf2 : ¬ (foldedForSure 8 a = true ∧ foldedForSure 8 b = true) := fun q => by rw [q.1, q.2] at hf'; cases hf'
  have hc2 : ¬ (constantsAlone 8 a = true ∧ constantsAlone 8 b = true) := fun q => by rw [q.1, q.2] at hc'; cases hc'
  unfold swappedStores
  simp [hb, sa, sb, k1, k2, hl', pl, dup, hf2, hc2]
  intro q
  rcases q with q | q
  · exfalso; clear hf hc sa sb hf' hc' hf2 hc2; cases a <;> first | (cases ha; done) | (cases q; done)
  · exfalso; clear hf hc sa sb hf' hc' hf2 hc2; cases b <;> first | (cases hbb; done) | (cases q; done)
theorem swOdd {ts vs : List Expr} {k k2 : Nat} {p p2 : Pos} {env : PySem.Env} (h : ts.any (oddT env.scope) = true) : swappedStores [.Tuple ts k p] (.Tuple vs k2 p2) env = pure none := by
  have hl : ∀ (line : Nat) (ts : List Expr), ts.any (oddT env.scope) = true → (ts.filterMap fun
    | .Name id pos => if env.kindOf id == some .local && pos.line == line then some id else none
    | _ => none).length < ts.length := by
    intro line ts
    induction ts with
    | nil => intro h; cases h
    | cons t r ih =>
      intro h
      have le : (r.filterMap fun
        | .Name id pos => if env.kindOf id == some .local && pos.line == line then some id else none
        | _ => none).length ≤ r.length := List.length_filterMap_le _ _
      rw [List.filterMap_cons]
      split
      · simp only [List.length_cons]; omega
      · rename_i b hb
        simp only [List.length_cons]
        have : r.any (oddT env.scope) = true := by
          rw [List.any_cons, Bool.or_eq_true] at h
          rcases h with h | h
          · cases t with
            | Name x pos =>
              simp only [oddT] at hb h
              split at hb
              · rename_i hc
                rw [Bool.and_eq_true] at hc
                have hk : env.kindOf x = some .local := by simpa using hc.1
                rw [Bool.not_eq_true', decide_eq_false_iff_not] at h
                exact absurd hk h
              · cases hb
            | _ => cases hb
          · exact h
        have := ih this
        omega
  unfold swappedStores
  simp only [pure_bind]
  split
  · rfl
  · split
    · rfl
    · have := hl ((ts.head?.map (·.pos.line)).getD 0) ts h
      split
      · rfl
      · rename_i hx
        exact absurd (by rw [Bool.or_eq_true]; exact .inl (bne_iff_ne.mpr (Nat.ne_of_lt this))) hx
theorem swPar3 {x y z : Str} {px py pz pt pt2 : Pos} {kt k2 : Nat} {a b c : Expr} {env : PySem.Env} (hb : env.blockKind = .function) (hx : env.scope.names.lookup x = some .local) (hy : env.scope.names.lookup y = some .local) (hz : env.scope.names.lookup z = some .local)
    (hl : (py.line == px.line) = true) (hm : (pz.line == px.line) = true) (hxy : x ≠ y) (hxz : x ≠ z) (hyz : y ≠ z) (ha : isStar a = false) (hbb : isStar b = false) (hcc : isStar c = false)
    (hf : [a, b, c].all (foldedForSure 8) = false) (hc : [a, b, c].all (constantsAlone 8) = false) : swappedStores [.Tuple [.Name x px, .Name y py, .Name z pz] kt pt] (.Tuple [a, b, c] k2 pt2) env = pure (some [x, y, z]) := by
  have k1 : env.kindOf x = some .local := hx
  have k2 : env.kindOf y = some .local := hy
  have k3 : env.kindOf z = some .local := hz
  have hl' : py.line = px.line := by simpa using hl
  have hm' : pz.line = px.line := by simpa using hm
  have pl : (Expr.Name x px).pos = px := rfl
  have dup : [x, y, z].eraseDups = [x, y, z] := by
    have e1 : (y == x) = false := by simpa using fun e => hxy e.symm
    have e2 : (z == x) = false := by simpa using fun e => hxz e.symm
    have e3 : (z == y) = false := by simpa using fun e => hyz e.symm
    simp [List.eraseDups_cons, List.filter_cons, e1, e2, e3]
  have hf' : (foldedForSure 8 a && (foldedForSure 8 b && foldedForSure 8 c)) = false := by simpa [List.all_cons] using hf
  have hc' : (constantsAlone 8 a && (constantsAlone 8 b && constantsAlone 8 c)) = false := by simpa [List.all_cons] using hc
  have hf2 : ¬ (foldedForSure 8 a = true ∧ foldedForSure 8 b = true ∧ foldedForSure 8 c = true) := fun q => by rw [q.1, q.2.1, q.2.2] at hf'; cases hf'
  have hc2 : ¬ (constantsAlone 8 a = true ∧ constantsAlone 8 b = true ∧ constantsAlone 8 c = true) := fun q => by rw [q.1, q.2.1, q.2.2] at hc'; cases hc'
  unfold swappedStores
  simp [hb, k1, k2, k3, hl', hm', pl, dup, hf2, hc2]
  intro q
  rcases q with q | q | q
  · exfalso; clear hf hc hf' hc' hf2 hc2; cases a <;> first | (cases ha; done) | (cases q; done)
  · exfalso; clear hf hc hf' hc' hf2 hc2; cases b <;> first | (cases hbb; done) | (cases q; done)
  · exfalso; clear hf hc hf' hc' hf2 hc2; cases c <;> first | (cases hcc; done) | (cases q; done)
section
variable {D : Wd} {n : Nat} {g : Cfg}
theorem ok_setN (m : MgOk D g.gn) {x : Str} {px pos : Pos} {e : Expr} {i : Nat} {c : C} (hs : isSto g.sc x = true) (hi : ixOf g.N x = some i) (h : cmpE n g e = some c) : OkS D g (.Assign [.Name x px] e pos) (.asg (.name i) c) := by
  obtain ⟨t, p, q⟩ := (snd_all D n).E _ _ _ m h
  cases hc : isComp e with
  | false => exact ⟨_, fun X o => ps_set (by rw [o.x.n]; exact o.x.nd) (by rw [o.x.n]; exact ixOf_get hi) (sto_of o.x hs) (p X o.x) (swN hc) (fn_of' o.x hs), simS_asg q simG_name⟩
  | true =>
    cases n with
    | zero => rw [cmpE.eq_def] at h; cases h
    | succ n =>
      rw [cmpE.eq_def] at h
      simp only at h
      split at h
      · rename_i c0 h0
        obtain ⟨elt, tg, iter, ifs, sc, lp, rfl, k, rfl⟩ := lc_shape hc h0
        obtain ⟨ow, wi, gt, tt, te, hset, p', q'⟩ := lc_parts (snd_all D k) m h0
        have sim : SimE D.W D.J (tLc wi gt tt te (ow.map (·.2))) (wE D.s c) := by
          cases h
          split
          · exact sim_frz q'
          · exact q'
        refine ⟨_, fun X o => ?_, simS_asg sim simG_name⟩
        obtain ⟨p1, p2, p3, p4, p5⟩ := p' X o.x
        have hN : X.N.Nodup := by rw [o.x.n]; exact o.x.nd
        have hi' : X.N[i]? = some x := by rw [o.x.n]; exact ixOf_get hi
        rcases sw_lc elt [⟨tg, iter, ifs, 0⟩] sc lp x px pos.line X.env with hsw | ⟨hsw, hl⟩
        · exact ps_set hN hi' (sto_of o.x hs) (pe_lc o.x.calm hN p1 p2 p3 p4 p5 (notSet hset)) hsw (fn_of' o.x hs)
        · exact ps_setLc o.x.calm hN hi' hl hsw p1 p2 p3 p4 p5 (notSet hset)
      · cases h
structure SndS (D : Wd) (n : Nat) : Prop where
  S : ∀ g e c, MgOk D g.gn → cmpS n g e = some c → OkS D g e c
  Ss : ∀ g e c, MgOk D g.gn → cmpSs n g e = some c → OkSs D g e c
theorem snd_S (ih : SndS D n) : ∀ g e c, MgOk D g.gn → cmpS (n + 1) g e = some c → OkS D g e c := by
  intro g e c m h
  have iE := snd_all D n
  rw [cmpS.eq_def] at h
  simp only at h
  split at h
  · -- o.f = e
    rename_i o f px e pos
    split at h
    · rename_i hc
      simp only [Bool.and_eq_true, Bool.not_eq_true'] at hc
      split at h
      · rename_i x y hx hy
        cases h
        obtain ⟨ta, p1, q1⟩ := iE.E _ _ _ m hx
        obtain ⟨tb, p2, q2⟩ := iE.E _ _ _ m hy
        exact ⟨_, fun X o => by rw [← o.x.k]; exact ps_fld (p1 X o.x) (p2 X o.x) (swN hc.2), simS_fld q1 q2 (m.flds _ (by simpa using hc.1))⟩
      · cases h
    · cases h
  · -- x, y = a, b
    rename_i ts k2 p2 vs k p pos
    split at h
    · rename_i hp
      split at h
      · rename_i x px y py a b
        split at h
        · rename_i i l u v hi hl hu hv
          cases h
          obtain ⟨ta, p1, q1⟩ := iE.E _ _ _ m hu
          obtain ⟨tb, p3, q3⟩ := iE.E _ _ _ m hv
          unfold parN at hp
          simp only [Bool.and_eq_true, Bool.not_eq_true', decide_eq_true_eq] at hp
          obtain ⟨⟨⟨⟨⟨⟨⟨h1, h2⟩, h3⟩, h4⟩, h5⟩, h6⟩, h7⟩, h8⟩ := hp
          refine ⟨_, fun X o => ?_, simS_par2 q1 q3⟩
          have hij : i ≠ l := fun e => by
            subst e
            have e1 := ixOf_get hi
            have e2 := ixOf_get hl
            rw [e1] at e2
            exact h4 (Option.some.inj e2)
          exact ps_par o.x.calm (by rw [o.x.n]; exact o.x.nd) (by rw [o.x.n]; exact ixOf_get hi) (by rw [o.x.n]; exact ixOf_get hl) hij (loc_of o.x h1) (loc_of o.x h2) (pa_cons (p1 X o.x) (pa_cons (p3 X o.x) pa_nil (star_cons h6)) (star_cons h5))
            (swPar o.blk (loc_of o.x h1) (loc_of o.x h2) h3 h4 h5 h6 h7 h8) rfl
        · cases h
      · cases h
    · split at h
      · rename_i hp
        split at h
        · rename_i x px y py z pz a b c
          split at h
          · rename_i i l r u v w hi hl hr hu hv hw
            cases h
            obtain ⟨ta, p1, q1⟩ := iE.E _ _ _ m hu
            obtain ⟨tb, p3, q3⟩ := iE.E _ _ _ m hv
            obtain ⟨tc, p5, q5⟩ := iE.E _ _ _ m hw
            unfold par3N at hp
            simp only [Bool.and_eq_true, Bool.not_eq_true', decide_eq_true_eq] at hp
            obtain ⟨⟨⟨⟨⟨⟨⟨⟨⟨⟨⟨⟨h1, h2⟩, h3⟩, h4⟩, h5⟩, h6⟩, h7⟩, h8⟩, h9⟩, h10⟩, h11⟩, h12⟩, h13⟩ := hp
            refine ⟨_, fun X o => ?_, simS_par3 q1 q3 q5⟩
            have ne : ∀ {i j : Nat} {x y : Str}, ixOf g.N x = some i → ixOf g.N y = some j → x ≠ y → i ≠ j := fun e1 e2 hn e => by
              subst e
              have e1 := ixOf_get e1
              rw [ixOf_get e2] at e1
              exact hn (Option.some.inj e1).symm
            exact ps_par3 o.x.calm (by rw [o.x.n]; exact o.x.nd) (by rw [o.x.n]; exact ixOf_get hi) (by rw [o.x.n]; exact ixOf_get hl) (by rw [o.x.n]; exact ixOf_get hr) (ne hi hl h6) (ne hi hr h7) (ne hl hr h8) (loc_of o.x h1) (loc_of o.x h2) (loc_of o.x h3)
              (pa_cons (p1 X o.x) (pa_cons (p3 X o.x) (pa_cons (p5 X o.x) pa_nil (star_cons h11)) (star_cons h10)) (star_cons h9)) (swPar3 o.blk (loc_of o.x h1) (loc_of o.x h2) (loc_of o.x h3) h4 h5 h6 h7 h8 h9 h10 h11 h12 h13) rfl
          · cases h
        · cases h
      · split at h
        · rename_i hodd
          split at h
          · rename_i t c1 ht hc1
            cases h
            obtain ⟨ta, p1, q1, _⟩ := iE.G _ _ _ m ht
            obtain ⟨tb, p2', q2⟩ := iE.E _ _ _ m hc1
            exact ⟨_, fun X o => ps_asg (p2' X o.x) (p1 X o.x) rfl (swOdd (by rw [o.sc]; exact hodd)) rfl, simS_asg q2 q1⟩
          · cases h
        · cases h
  · -- tg = e
    rename_i tg e pos _ _
    split at h
    · split at h
      · rw [Bool.or_true] at h; cases h
      · rename_i hnt
        rw [Bool.or_false] at h
        split at h
        · cases h
        · rename_i hc
          have hc' : isComp e = false := by simpa using hc
          have hnt' : isTup e = false := by
            cases e with
            | Tuple a b c => exact (hnt _ _ _ rfl).elim
            | _ => rfl
          split at h
          · rename_i t c1 ht hc1
            cases h
            obtain ⟨ta, p1, q1, _⟩ := iE.G _ _ _ m ht
            obtain ⟨tb, p2, q2⟩ := iE.E _ _ _ m hc1
            exact ⟨_, fun X o => ps_asg (p2 X o.x) (p1 X o.x) (by rw [sole]; exact swN hc') (noSwap hnt') rfl, simS_asg q2 q1⟩
          · cases h
    · rename_i x px
      split at h
      · rename_i t c1 ht hc1
        cases h
        cases n with
        | zero => rw [cmpG.eq_def] at ht; cases ht
        | succ n =>
          rw [cmpG.eq_def] at ht
          try simp only at ht
          split at ht
          · rename_i hs
            obtain ⟨i, hi, rfl⟩ := map_some ht
            exact ok_setN m hs hi hc1
          · cases ht
      · cases h
    · rename_i o' i px
      split at h
      · cases h
      · rename_i hc
        split at h
        · rename_i t c1 ht hc1
          cases h
          obtain ⟨ta, p1, q1, _⟩ := iE.G _ _ _ m ht
          obtain ⟨tb, p2, q2⟩ := iE.E _ _ _ m hc1
          exact ⟨_, fun X o => ps_asg (p2 X o.x) (p1 X o.x) (by rw [sole]; exact swN (by simpa using hc)) rfl rfl, simS_asg q2 q1⟩
        · cases h
    · cases h
  · -- x op= e
    rename_i x px op e pos
    split at h
    · rename_i hs
      split at h
      · rename_i i c1 hi hc1
        cases h
        obtain ⟨tb, p2, q2⟩ := iE.E _ _ _ m hc1
        exact ⟨_, fun X o => ps_aug (by rw [o.x.n]; exact o.x.nd) (by rw [o.x.n]; exact ixOf_get hi) (sto_of o.x hs) (p2 X o.x) (op_aug op) (fn_of' o.x hs), simS_aug q2⟩
      · cases h
    · cases h
  · rename_i o' i px op e pos
    split at h
    · cases h
    · rename_i hs
      split at h
      · rename_i x y c1 hx hy hc1
        cases h
        obtain ⟨ta, p1, q1⟩ := iE.E _ _ _ m hx
        obtain ⟨tb, p2, q2⟩ := iE.E _ _ _ m hy
        obtain ⟨tc, p3, q3⟩ := iE.E _ _ _ m hc1
        exact ⟨_, fun X o => by rw [← o.x.k]; exact ps_augS (p1 X o.x) (p2 X o.x) get_seq (p3 X o.x) (op_aug op) set_list (augIx (by simpa using hs)), simS_augL q1 q2 q3⟩
      · cases h
  · rename_i e pos
    split at h
    · cases h
    · rename_i hc
      obtain ⟨c1, hc1, rfl⟩ := map_some h
      obtain ⟨tb, p2, q2⟩ := iE.E _ _ _ m hc1
      exact ⟨_, fun X o => ps_expr (p2 X o.x) (swN (by simpa using hc)), simS_expr q2⟩
  · cases h
    exact ⟨_, fun X o => ps_retN, simS_retN⟩
  · obtain ⟨c1, hc1, rfl⟩ := map_some h
    obtain ⟨tb, p2, q2⟩ := iE.E _ _ _ m hc1
    exact ⟨_, fun X o => ps_ret (p2 X o.x), simS_ret q2⟩
  · split at h
    · rename_i t a b ht ha hb
      cases h
      obtain ⟨ta, p1, q1⟩ := iE.T _ _ _ m ht
      obtain ⟨tb, p2, q2⟩ := ih.Ss _ _ _ m ha
      obtain ⟨tc, p3, q3⟩ := ih.Ss _ _ _ m hb
      exact ⟨_, fun X o => ps_if (p1 X o.x) (p2 X o) (p3 X o), simS_ite q1 q2 q3⟩
    · cases h
  · split at h
    · rename_i t a ht ha
      cases h
      obtain ⟨ta, p1, q1⟩ := iE.T _ _ _ m ht
      obtain ⟨tb, p2, q2⟩ := ih.Ss _ _ _ m ha
      exact ⟨_, fun X o => ps_while (by rw [o.x.xe]; exact PassesOwn.never) (p1 X o.x) (p2 X o), simS_whl q1 q2⟩
    · cases h
  · split at h
    · cases h
    · rename_i hset
      split at h
      · rename_i i t b hi ht hb
        cases h
        obtain ⟨ta, p1, q1⟩ := iE.I _ _ _ _ m hi
        obtain ⟨tb, p2, q2, _⟩ := iE.G _ _ _ m ht
        obtain ⟨tc, p3, q3⟩ := ih.Ss _ _ _ m hb
        exact ⟨_, fun X o => ps_for (by rw [o.x.xe]; exact PassesOwn.never) o.x.calm (p1 X o.x) (p2 X o.x) (p3 X o) (notSet (by simpa using hset)), simS_for q1 q2 q3⟩
      · cases h
  · cases h; exact ⟨_, fun X o => ps_pass, simS_pass⟩
  · cases h; exact ⟨_, fun X o => ps_break, simS_brk⟩
  · cases h; exact ⟨_, fun X o => ps_continue, simS_cont⟩
  · cases h
    exact ⟨fun _ _ _ => False, fun X o => ⟨fun _ _ _ _ _ _ q => q.elim⟩, simS_never (t := fun _ _ _ => False)⟩
  · cases h
theorem snd_Ss (ih : SndS D n) : ∀ g e c, MgOk D g.gn → cmpSs (n + 1) g e = some c → OkSs D g e c := by
  intro g e c m h
  rw [cmpSs.eq_def] at h
  simp only at h
  split at h
  · cases h
    exact ⟨_, fun X o => pss_nil, simSs_nil⟩
  · split at h
    · rename_i x y hx hy
      cases h
      obtain ⟨ta, p1, q1⟩ := ih.S _ _ _ m hx
      obtain ⟨tb, p2, q2⟩ := ih.Ss _ _ _ m hy
      exact ⟨_, fun X o => pss_cons (p1 X o) (p2 X o), simSs_cons q1 q2⟩
    · cases h
theorem snd_stmts (D : Wd) : ∀ n, SndS D n
  | 0 => ⟨fun g e c m h => (by rw [cmpS.eq_def] at h; cases h), fun g e c m h => (by rw [cmpSs.eq_def] at h; cases h)⟩
  | n + 1 => ⟨snd_S (snd_stmts D n), snd_Ss (snd_stmts D n)⟩
end
end Sw
set_option maxRecDepth 100000
set_option maxHeartbeats 4000000
/-! Sw: the text's functions as a table; each keeps its word, by levels; the end of a law. -/
namespace Sw
open PySem L2 SwZ
/-- a def, compiled -/
structure Fd where
  nm : Str
  np : Nat
  nN : Nat
  body : Ss
abbrev Tb := List Fd
def lkF (x : Str) : Tb → Option Fd
  | [] => none
  | e :: r => if x = e.nm then some e else lkF x r
def startD (n : Nat) (ds : List Sw.D) : Sw.Env := ds.map some ++ List.replicate (n - ds.length) none
def noX : Sw.D → MM → Prop := fun _ _ => False
/-- cells may be forgotten -/
def MSub (M M' : MM) : Prop := ∀ a c, M a = some c → M' a = some c
def rtn (Φ : Sw.D → MM → Prop) : Sw.D → MM → Prop := fun d M' => ∃ M, MSub M M' ∧ Φ d M
theorem MSub.refl {M : MM} : MSub M M := fun _ _ h => h
theorem MSub.trans {M M1 M2 : MM} (x : MSub M M1) (y : MSub M1 M2) : MSub M M2 := fun a c h => y a c (x a c h)
theorem rtn_self {Φ : Sw.D → MM → Prop} {d : Sw.D} {M : MM} (h : Φ d M) : rtn Φ d M := ⟨M, .refl, h⟩
theorem Conc.drop {W : Ab} {F H : Hp} {M M' : MM} (c : Conc W F M' H) (h : MSub M M') : Conc W F M H := ⟨c.ex, fun a x e => c.cell a x (h a x e)⟩
theorem Stp.drop {F F1 : Hp} {M M1 M2 : MM} {H H1 : Hp} (s : Stp F M H F1 M1 H1) (h : MSub M2 M1) : Stp F M H F1 M2 H1 := ⟨s.f, s.k, s.nf, fun a e => s.nm a (by
  obtain ⟨c, q⟩ := Option.ne_none_iff_exists'.mp e
  rw [h a c q]; exact fun z => nomatch z), s.t⟩
def callA (T : Tb) : Nat → Str → List Sw.D → MM → (Sw.D → MM → Prop) → (Sw.D → MM → Prop) → Prop
  | 0, _, _, _, _, _ => False
  | k + 1, f, ds, M, Φ, _ => match lkF f T with
    | some e => ds.length = e.np ∧ wSs ⟨callA T k, noX⟩ e.body { nx := fun _ M' => rtn Φ .non M', rt := rtn Φ } (startD e.nN ds) M
    | none => False
@[irreducible] def callAt (T : Tb) (k : Nat) (f : Str) (ds : List Sw.D) (M : MM) (Φ Ψ : Sw.D → MM → Prop) : Prop := callA T k f ds M Φ Ψ
theorem callAt_eq (T : Tb) (k : Nat) : callAt T k = callA T k := by
  funext f ds M Φ Ψ
  unfold callAt
  rfl
theorem callAt_zero {T : Tb} {f : Str} {ds : List Sw.D} {M : MM} {Φ Ψ : Sw.D → MM → Prop} : callAt T 0 f ds M Φ Ψ = False := by
  rw [callAt_eq]
  rfl
theorem callAt_succ {T : Tb} {k : Nat} {f : Str} {ds : List Sw.D} {M : MM} {Φ Ψ : Sw.D → MM → Prop} : callAt T (k + 1) f ds M Φ Ψ = match lkF f T with
    | some e => ds.length = e.np ∧ wSs ⟨callAt T k, noX⟩ e.body { nx := fun _ M' => rtn Φ .non M', rt := rtn Φ } (startD e.nN ds) M
    | none => False := by
  rw [callAt_eq, callAt_eq]
  rfl
def smAt (T : Tb) (k : Nat) : Sm := ⟨callAt T k, noX⟩
def J0 : JW := ⟨fun _ _ _ => True, fun _ _ => trivial⟩
structure DefAt (W : Ab) (gn : Gn) (T : Tb) (nm : Str) (sg : Sig) (f : Addr) (fd : FuncData) : Prop where
  ex : ∃ (x qual : Str) (params : Arguments) (body : List Stmt) (scope : Scope) (dvs : List V) (kws : List (Str × V)) (N : List Str) (e : Fd) (fuel : Nat) (own frz : List Pos) (mcl : List (Pos × Str)) (dv : List V),
    FunD W.K x qual params body scope dvs kws f fd ∧ FnScope N sg.ps scope ∧ lkF nm T = some e ∧ e.np = sg.ps.length ∧ e.nN = N.length ∧ cmpSs fuel ⟨gn, N, scope, own, frz, mcl⟩ body = some e.body ∧
    ∀ n ks ar, gn.pats.contains (nm, n, ks) = true → arrOf sg n ks = some ar → DflOk W dv ar ∧ Bnd W.K fd sg.ps n ks (fun vs zs => arrV dv ar (vs ++ zs))
structure POk (W : Ab) (gn : Gn) (T : Tb) (mg : Str → Option Value) : Prop where
  cst : ∀ x d, lk x gn.cst = some d → ∃ v u, mg x = some u ∧ RelV v u ∧ ∀ F : Hp, Rp W F v d
  fns : ∀ x sg, lk x gn.fns = some sg → ∃ f fd, mg x = some (.ref f) ∧ DefAt W gn T x sg f fd
  cls : ∀ x sg, lk x gn.cls = some sg → ∃ Ca f fd, W.cls x = some Ca ∧ mg x = some (.ref Ca) ∧ Mk W.K Ca f ∧ DefAt W gn T (x ++ ".__init__") sg f fd
  mth : ∀ c m sg, lkM c m gn.mth = some sg → ∃ Ca f fd, W.cls c = some Ca ∧ Meth W.K Ca m f ∧ DefAt W gn T (c ++ "." ++ m) sg f fd
  flds : ∀ f, f ∈ gn.flds → f ∈ W.flds
  bi : ∀ x ∈ biNames, mg x = none
theorem start_ok {W : Ab} {F : Hp} {N : List Str} {vs : List V} {ds : List Sw.D} (r : Rps W F vs ds) : EnvOk W F (L2.start N vs) (startD N.length ds) := by
  have hl := r.length
  refine ⟨by unfold L2.start startD; simp [hl], fun i d h => ?_⟩
  unfold startD at h
  unfold L2.start
  by_cases hi : i < ds.length
  · rw [List.getElem?_append_left (by simpa using hi), List.getElem?_map] at h
    rw [List.getElem?_append_left (by simpa [hl] using hi), List.getElem?_map]
    cases e : ds[i]? with
    | none => rw [e] at h; cases h
    | some d' =>
      rw [e] at h
      cases h
      obtain ⟨v, h1, h2⟩ := r.get e
      exact ⟨v, by rw [h1]; rfl, h2⟩
  · rw [List.getElem?_append_right (by simpa using hi), List.getElem?_replicate] at h
    split at h <;> cases h
section
variable {W : Ab} {gn : Gn} {T : Tb} {mg : Str → Option Value} {P : Program} {w : World} {base : Heap}
def wdAt (W : Ab) (P : Program) (w : World) (mg : Str → Option Value) (base : Heap) (T : Tb) (k : Nat) : Wd := ⟨W, P, w, mg, base, 2 * k + 1, smAt T k, J0⟩
def wfAt (T : Tb) (k : Nat) (nm : Str) : List Sw.D → MM → (Sw.D → MM → Prop) → Prop := fun ds M Φ => callAt T k nm ds M Φ noX
theorem DefAt.fnAt {D : Wd} {nm own : Str} {sg : Sig} {f : Addr} {fd : FuncData} (h : DefAt D.W gn T nm sg f fd) {wf : List Sw.D → MM → (Sw.D → MM → Prop) → Prop} (F : FnOk D.P D.w D.W.K D.mg D.base CX0 D.lv f fd sg.ps (spF D.W sg.ps.length wf))
    (hw : ∀ ds M Φ, D.s.call nm ds M Φ D.s.xs → wf ds M Φ) : FnAt D f sg nm own gn.pats := by
  obtain ⟨x, qual, params, body, scope, dvs, kws, N, e, fuel, ow, frz, mcl, dv, F0, S, e1, e2, e3, hc, hb⟩ := h.ex
  exact ⟨fd, dv, wf, F0.kp, F, hw, hb⟩
/-- at level k every def keeps its word, up to k calls deep -/
theorem all_ok (p : POk W gn T mg) : ∀ k nm sg f fd, DefAt W gn T nm sg f fd → FnOk P w W.K mg base CX0 (2 * k + 1) f fd sg.ps (spF W sg.ps.length (wfAt T k nm))
  | 0, nm, sg, f, fd, h => by
    refine ⟨fun vs H Q E q => ?_, fun A outer s H args us vs Q E _ _ _ _ q => ?_⟩
    · obtain ⟨_, _, _, _, q, _⟩ := q
      exact q
    · obtain ⟨_, _, _, _, _, _, _, q, _⟩ := q
      unfold wfAt at q
      rw [callAt_zero] at q
      exact False.elim q
  | k + 1, nm, sg, f, fd, h => by
    have ih := fun nm sg f fd h own => DefAt.fnAt (D := wdAt W P w mg base T k) (own := own) h (all_ok p k nm sg f fd h) fun ds M Φ q => q
    have mok : MgOk (wdAt W P w mg base T k) gn := ⟨p.cst, fun x sg q => by
      obtain ⟨f, fd, h1, h2⟩ := p.fns x sg q
      exact ⟨f, h1, ih x sg f fd h2 ""⟩, fun x sg q => by
      obtain ⟨Ca, f, fd, h1, h2, h3, h4⟩ := p.cls x sg q
      exact ⟨Ca, f, h1, h2, h3, ih _ sg f fd h4 x⟩, fun c m sg q => by
      obtain ⟨Ca, f, fd, h1, h2, h3⟩ := p.mth c m sg q
      exact ⟨Ca, f, h1, h2, ih _ sg f fd h3 c⟩, p.flds, p.bi⟩
    obtain ⟨x, qual, params, body, scope, dvs, kws, N, e, fuel, ow, frz, mcl, dv, F, S, e1, e2, e3, hc, hb⟩ := h.ex
    refine FunD.ok (k := 2 * k + 2) F S (fun vs H Q E q => ?_) fun cdv A outer s H vs Q E hr q => ?_
    · obtain ⟨_, _, _, _, q, _⟩ := q
      exact q
    · obtain ⟨F0, M, ds, Φ, hl, c, r, wf, kk⟩ := q
      obtain ⟨t, ht, sim⟩ := (snd_stmts (wdAt W P w mg base T k) fuel).Ss ⟨gn, N, scope, ow, frz, mcl⟩ body e.body mok hc
      refine ⟨t, (ht (cxOf CX0 P w W.K mg base N qual scope f cdv A outer s H E).nox ⟨⟨rfl, rfl, rfl, rfl, rfl, rfl, S.nd, fun y k' q => .inl q, rfl, hr, rfl, fun y _ => .inl rfl⟩, rfl, ?_⟩).nox, ?_⟩
      · show (if scope.kind.isAnnotationScope = true then ScopeKind.function else scope.kind) = .function
        rw [S.kind]
        rfl
      · unfold wfAt at wf
        rw [callAt_succ, e1] at wf
        obtain ⟨hlen, wf⟩ := wf
        rw [e3] at wf
        exact sim trivial c (start_ok r) wf ⟨fun σ Γ F' M' H' c' s' _ q => (let ⟨M2, hm, q2⟩ := q; kk .non .non F' M2 H' (c'.drop hm) (s'.drop hm) .non q2), fun v d F' M' H' c' s' r' q => (let ⟨M2, hm, q2⟩ := q; kk v d F' M2 H' (c'.drop hm) (s'.drop hm) r' q2), fun _ _ _ _ _ _ _ _ q => q.elim, fun _ _ _ _ _ _ _ _ q => q.elim⟩
theorem FnOk.weak {K : PySem.W.Frag} {CX : CXT} {k : Nat} {f : Addr} {fd : FuncData} {ps : List Str} {sp sp' : Sp} (h : FnOk P w K mg base CX k f fd ps sp) (hs : ∀ vs H Q E, sp' vs H Q E → sp vs H Q E) : FnOk P w K mg base CX k f fd ps sp' :=
  ⟨fun vs H Q E q => h.len _ _ _ _ (hs _ _ _ _ q), fun A o s H args us vs Q E r e b v q => h.run A o s H args us vs Q E r e b v (hs _ _ _ _ q)⟩
def spLaw (K : PySem.W.Frag) (n : Nat) : Sp := fun vs H Q _ => ∃ (a : Addr) (ns : List Int), vs = [.ref a] ∧ SqL K H a (ns.map V.int) ∧ ns.length ≤ n ∧ (∀ z ∈ ns, Builtin.Int.intBits z ≤ 1048576) ∧ ∀ H', Q (.bl true) H'
/-- the law's def answers True -/
theorem law_ok (p : POk W gn T mg) {sg : Sig} {f : Addr} {fd : FuncData} {x : Str} {n : Nat} (h : DefAt W gn T "law" sg f fd) (k : Nat) (hp : sg.ps = [x])
    (hlaw : ∀ ns : List Int, ns.length ≤ n → (∀ z ∈ ns, Builtin.Int.intBits z ≤ 1048576) → callAt T k "law" [.frl (ns.map Sw.D.int)] (fun _ => none) (fun d _ => d = .bl true) noX) : FnOk P w W.K mg base CX0 (2 * k + 1) f fd [x] (spLaw W.K n) := by
  have F := all_ok (P := P) (w := w) (base := base) p k "law" sg f fd h
  rw [hp] at F
  refine FnOk.weak F fun vs H Q E q => ?_
  obtain ⟨a, ns, rfl, hS, hl, hb, k⟩ := q
  refine ⟨H, fun _ => none, [.frl (ns.map Sw.D.int)], fun d _ => d = .bl true, rfl, ⟨Ex.refl H, fun _ _ q => by cases q⟩, .cons (.frl hS (Rps.ints ns)) .nil, hlaw ns hl hb, fun v d F' M' H' c s r e => ?_⟩
  subst e
  cases r
  exact k _
end
end Sw
set_option maxRecDepth 100000
set_option maxHeartbeats 4000000
/-! Sw: how calls bind. -/
namespace Sw
open PySem L2 SwZ
def arrU (dv : List Value) : List Arr → List Value → List Value
  | [], _ => []
  | .at_ i :: r, vs => vs.getD i .none :: arrU dv r vs
  | .dfl j _ :: r, vs => dv.getD j .none :: arrU dv r vs
theorem vals_getD : ∀ {vs : List V} {us : List Value} (i : Nat), Vals vs us → RelV (vs.getD i .non) (us.getD i .none)
  | _, _, i, .nil => by simp; rfl
  | _, _, 0, .cons r _ => by simpa using r
  | _, _, i + 1, .cons _ t => by simpa using vals_getD i t
theorem vals_arr {dv : List V} {du : List Value} {vs : List V} {us : List Value} (hd : Vals dv du) (h : Vals vs us) : ∀ ar : List Arr, Vals (arrV dv ar vs) (arrU du ar us)
  | [] => .nil
  | .at_ i :: r => .cons (vals_getD i h) (vals_arr hd h r)
  | .dfl j d :: r => .cons (vals_getD j hd) (vals_arr hd h r)
section
variable {K : PySem.W.Frag} {x qual : Str} {params : Arguments} {body : List Stmt} {scope : Scope} {dvs : List V} {kws : List (Str × V)} {f : Addr} {fd : FuncData} {ps : List Str}
theorem bnd00 (F : FunD K x qual params body scope [] kws f fd) (n : Nat) (ks : List Str) (ar : List Arr)
    (h : ∀ (kV doc pm : Value) (an : Option Addr) (cdv ct : Value) (us ws : List Value), us.length = n → ws.length = ks.length → bindArgs (PySem.W.fnOf x qual params body scope .none kV doc pm an cdv ct) ⟨us, ks.zip ws⟩ = pure (ps.zip (arrU [] ar (us ++ ws)))) :
    Bnd K fd ps n ks (fun vs zs => arrV [] ar (vs ++ zs)) := by
  obtain ⟨oc, od, dV, kV, doc, pm, an, cdv, ct, osl, rfl, lk, hcd, hD, hK⟩ := F.ex
  rcases hD with ⟨_, rfl⟩ | ⟨e, _⟩
  · exact ⟨fun us ws => arrU [] ar (us ++ ws), fun s us ws _ l1 l2 => .of_eq (h kV doc pm an cdv ct us ws l1 l2), fun vs zs us ws _ _ r1 r2 => vals_arr .nil (r1.append r2) ar⟩
  · exact absurd rfl e
theorem bnd10 (F : FunD K x qual params body scope dvs kws f fd) (n : Nat) (ks : List Str) (ar : List Arr) (hd : dvs ≠ [])
    (h : ∀ (T : Addr) (kV doc pm : Value) (an : Option Addr) (cdv ct : Value) (us ws its : List Value), us.length = n → ws.length = ks.length → its.length = dvs.length →
      ∃ k, bindArgs (PySem.W.fnOf x qual params body scope (.ref T) kV doc pm an cdv ct) ⟨us, ks.zip ws⟩ = seqItems? (.ref T) >>= k ∧ k (some its.toArray) = pure (ps.zip (arrU its ar (us ++ ws)))) :
    Bnd K fd ps n ks (fun vs zs => arrV dvs ar (vs ++ zs)) := by
  obtain ⟨oc, od, dV, kV, doc, pm, an, cdv, ct, osl, rfl, lk, hcd, hD, hK⟩ := F.ex
  rcases hD with ⟨e, _⟩ | ⟨_, T, o, its, m, rfl, lT, oT, rT⟩
  · exact absurd e hd
  · refine ⟨fun us ws => arrU its ar (us ++ ws), fun s us ws X l1 l2 => ?_, fun vs zs us ws _ _ r1 r2 => vals_arr rT (r1.append r2) ar⟩
    obtain ⟨k, e1, e2⟩ := h T kV doc pm an cdv ct us ws its l1 l2 rT.length.symm
    refine BindsTo.of_looks fun M => ?_
    rw [e1]
    exact looks_items X lT oT (PySem.W.Looks.of_pure e2)
theorem bnd01 (F : FunD K x qual params body scope [] kws f fd) (n : Nat) (ks : List Str) (ar : List Arr) (ms : List (Str × V)) (hk : kws ≠ []) (hms : ∀ q ∈ ms, q ∈ kws)
    (h : ∀ (D : Addr) (doc pm : Value) (an : Option Addr) (cdv ct : Value) (us ws mv : List Value), us.length = n → ws.length = ks.length → mv.length = ms.length →
      KwChain D ((ms.map (·.1)).zip mv) (bindArgs (PySem.W.fnOf x qual params body scope .none (.ref D) doc pm an cdv ct) ⟨us, ks.zip ws⟩) (ps.zip (arrU mv ar (us ++ ws)))) :
    Bnd K fd ps n ks (fun vs zs => arrV (ms.map (·.2)) ar (vs ++ zs)) := by
  obtain ⟨oc, od, dV, kV, doc, pm, an, cdv, ct, osl, rfl, lk, hcd, hD, hK⟩ := F.ex
  rcases hD with ⟨_, rfl⟩ | ⟨e, _⟩
  · rcases hK with e | ⟨D, rfl, hq⟩
    · exact absurd e hk
    · obtain ⟨mv, hl, rk, hks⟩ := kwd_vals (ms := ms) fun q hm => hq q (hms q hm)
      refine ⟨fun us ws => arrU mv ar (us ++ ws), fun s us ws X l1 l2 => ?_, fun vs zs us ws _ _ r1 r2 => vals_arr rk (r1.append r2) ar⟩
      exact BindsTo.of_looks fun M => KwChain.looks X hks (h D doc pm an cdv ct us ws mv l1 l2 hl)
  · exact absurd rfl e
theorem bnd11 (F : FunD K x qual params body scope dvs kws f fd) (n : Nat) (ks : List Str) (ar : List Arr) (ms : List (Str × V)) (hd : dvs ≠ []) (hk : kws ≠ []) (hms : ∀ q ∈ ms, q ∈ kws)
    (h : ∀ (T D : Addr) (doc pm : Value) (an : Option Addr) (cdv ct : Value) (us ws its mv : List Value), us.length = n → ws.length = ks.length → its.length = dvs.length → mv.length = ms.length →
      ∃ k, bindArgs (PySem.W.fnOf x qual params body scope (.ref T) (.ref D) doc pm an cdv ct) ⟨us, ks.zip ws⟩ = seqItems? (.ref T) >>= k ∧ KwChain D ((ms.map (·.1)).zip mv) (k (some its.toArray)) (ps.zip (arrU (its ++ mv) ar (us ++ ws)))) :
    Bnd K fd ps n ks (fun vs zs => arrV (dvs ++ ms.map (·.2)) ar (vs ++ zs)) := by
  obtain ⟨oc, od, dV, kV, doc, pm, an, cdv, ct, osl, rfl, lk, hcd, hD, hK⟩ := F.ex
  rcases hD with ⟨e, _⟩ | ⟨_, T, o, its, m, rfl, lT, oT, rT⟩
  · exact absurd e hd
  · rcases hK with e | ⟨D, rfl, hq⟩
    · exact absurd e hk
    · obtain ⟨mv, hl, rk, hks⟩ := kwd_vals (ms := ms) fun q hm => hq q (hms q hm)
      refine ⟨fun us ws => arrU (its ++ mv) ar (us ++ ws), fun s us ws X l1 l2 => ?_, fun vs zs us ws _ _ r1 r2 => vals_arr (rT.append rk) (r1.append r2) ar⟩
      obtain ⟨k, e1, e2⟩ := h T D doc pm an cdv ct us ws its mv l1 l2 rT.length.symm hl
      refine BindsTo.of_looks fun M => ?_
      rw [e1]
      exact looks_items X lT oT (KwChain.looks X hks e2)
end
/-! ### a table of facts, row by row -/
def AllF {α : Type} (p : Str → α → Prop) : List (Str × α) → Prop
  | [] => True
  | (x, a) :: r => p x a ∧ AllF p r
theorem lk_all {α : Type} {p : Str → α → Prop} : ∀ {l : List (Str × α)} {x : Str} {a : α}, AllF p l → lk x l = some a → p x a
  | [], _, _, _, e => by cases e
  | (y, b) :: r, x, a, h, e => by
    unfold lk at e
    split at e
    · rename_i q
      cases e
      rw [q]
      exact h.1
    · exact lk_all h.2 e
def AllM {α : Type} (p : Str → Str → α → Prop) : List (Str × Str × α) → Prop
  | [] => True
  | (c, m, a) :: r => p c m a ∧ AllM p r
theorem lkM_all {p : Str → Str → Sig → Prop} : ∀ {l : List (Str × Str × Sig)} {c m : Str} {a : Sig}, AllM p l → lkM c m l = some a → p c m a
  | [], _, _, _, _, e => by cases e
  | (c', m', b) :: r, c, m, a, h, e => by
    unfold lkM at e
    split at e
    · rename_i q
      cases e
      rw [q.1, q.2]
      exact h.1
    · exact lkM_all h.2 e
/-- the patterns of calls of one def -/
def AllB (p : Nat → List Str → Prop) : List (Nat × List Str) → Prop
  | [] => True
  | (n, ks) :: r => p n ks ∧ AllB p r
theorem allB_mem {p : Nat → List Str → Prop} : ∀ {l : List (Nat × List Str)} {n : Nat} {ks : List Str}, AllB p l → (n, ks) ∈ l → p n ks
  | (m, js) :: r, n, ks, h, q => by
    cases q with
    | head => exact h.1
    | tail _ q => exact allB_mem h.2 q
theorem pats_of {W : Ab} {gn : Gn} {K : PySem.W.Frag} {fd : FuncData} {sg : Sig} {nm : Str} {dv : List V} (pl : List (Nat × List Str)) (hp : (gn.pats.all fun p => !decide (p.1 = nm) || pl.contains (p.2.1, p.2.2)) = true)
    (h : AllB (fun n ks => ∃ ar, arrOf sg n ks = some ar ∧ DflOk W dv ar ∧ Bnd K fd sg.ps n ks (fun vs zs => arrV dv ar (vs ++ zs))) pl) :
    ∀ n ks ar, gn.pats.contains (nm, n, ks) = true → arrOf sg n ks = some ar → DflOk W dv ar ∧ Bnd K fd sg.ps n ks (fun vs zs => arrV dv ar (vs ++ zs)) := fun n ks ar hc ha => by
  have hm : (nm, n, ks) ∈ gn.pats := by simpa using hc
  have := List.all_eq_true.mp hp _ hm
  simp only [decide_true, Bool.not_true, Bool.false_or] at this
  obtain ⟨ar', e, h1, h2⟩ := allB_mem h (by simpa using this)
  rw [ha] at e
  cases e
  exact ⟨h1, h2⟩
theorem bindsA_of {K : PySem.W.Frag} {x qual y : Str} {params : Arguments} {body : List Stmt} {scope : Scope} {kws : List (Str × V)} {f : Addr} {fd : FuncData} (F : FunD K x qual params body scope [] kws f fd)
    (h : ∀ (kV doc pm : Value) (an : Option Addr) (cdv ct : Value) (us : List Value), us.length = [y].length → bindArgs (PySem.W.fnOf x qual params body scope .none kV doc pm an cdv ct) ⟨us, []⟩ = pure ([y].zip us)) (s : Shared) (v : Value) : BindsTo s fd ⟨[v], []⟩ [(y, v)] :=
  F.bindsA h s [v] rfl
end Sw
set_option maxRecDepth 100000
set_option maxHeartbeats 1000000
/-! Pa: plain steps of the walks; boxes of draws; comprehensions and loops. -/
namespace Pg
open PySem Sw
theorem ge0 {d : Option Sw.D} {r : Sw.Env} : getE (d :: r) 0 = d := by cases d <;> rfl
theorem geS {d : Option Sw.D} {r : Sw.Env} {i : Nat} : getE (d :: r) (i + 1) = getE r i := rfl
/-! ### steps, one by one -/
/-- a value is of a class, has no field of a name -/
def isC (x : Sw.D) (cn m : Str) (M : MM) : Prop := match x with
      | .obj c' fs => c' = cn ∧ lookF m fs = none
      | .loc a => match M a with
        | some (.ins c' fs) => c' = cn ∧ lookF m fs = none
        | _ => False
      | _ => False
/-- what follows a statement -/
def cont (s : Sm) (r : Ss) (k : WK) : Sw.Env → MM → Prop := fun Γ M => wSs s r k Γ M
def lcStep (s : Sm) (elt : C) (g : G) (ifs : Co) (vs : List Nat) (Γ : Sw.Env) : Sw.D → MM → (Option Sw.D → MM → Prop) → Prop := fun x M2 k => wG s g x (wipeD Γ vs) M2 fun Γ1 M3 => wipeD Γ1 vs = wipeD Γ vs ∧ wIf s ifs Γ1 M3 fun b M4 => if b = true then wE s elt Γ1 M4 (fun d M5 => k (some d) M5) else k none M4
def forStep (s : Sm) (g : G) (b : Ss) (k : WK) : Sw.D → Sw.Env → MM → (Sw.Env → MM → Prop) → Prop := fun x Γ1 M2 j => wG s g x Γ1 M2 fun Γ2 M3 => wSs s b { nx := j, rt := k.rt, bk := k.nx, ct := j } Γ2 M3
section
variable {s : Sm} {Γ : Sw.Env} {M : MM} {k : WK} {Φ : Sw.D → MM → Prop} {own : Bool} {a b c : C} {es ks : Cs}
theorem s_nil : wSs s .nil k Γ M = k.nx Γ M := rfl
theorem s_cons {x : S} {r : Ss} : wSs s (.cons x r) k Γ M = wS s x { k with nx := cont s r k } Γ M := rfl
theorem cont_nil : cont s .nil k Γ M = k.nx Γ M := rfl
theorem cont_cons {x : S} {r : Ss} : cont s (.cons x r) k Γ M = wS s x { k with nx := cont s r k } Γ M := rfl
theorem cont_step {x : S} {r : Ss} (h : wS s x { k with nx := cont s r k } Γ M) : cont s (.cons x r) k Γ M := h
theorem cont_end (h : k.nx Γ M) : cont s .nil k Γ M := h
theorem s_asg {g : G} {e : C} : wS s (.asg g e) k Γ M = wE s e Γ M fun d M1 => wG s g d Γ M1 k.nx := rfl
theorem s_par2 {i j : Nat} : wS s (.par2 i j a b) k Γ M = wE s a Γ M fun x M1 => wE s b Γ M1 fun y M2 => k.nx ((Γ.set i (some x)).set j (some y)) M2 := rfl
theorem s_par3 {i j l : Nat} : wS s (.par3 i j l a b c) k Γ M = wE s a Γ M fun x M1 => wE s b Γ M1 fun y M2 => wE s c Γ M2 fun z M3 => k.nx (((Γ.set i (some x)).set j (some y)).set l (some z)) M3 := rfl
theorem s_aug {i : Nat} {op : Operator} {e : C} : wS s (.aug i op e) k Γ M = match getE Γ i with
    | some x => wE s e Γ M fun y M1 => wAug op x y M1 fun d M2 => k.nx (Γ.set i (some d)) M2
    | none => False := rfl
theorem s_augS {o i e : C} {op : Operator} : wS s (.augS o i op e) k Γ M = wE s o Γ M fun x M1 => wE s i Γ M1 fun y M2 => wIx x y M2 fun z M3 => wE s e Γ M3 fun w M4 => wAug op z w M4 fun d M5 => wSetI x y d M5 (k.nx Γ) := rfl
theorem s_expr {e : C} : wS s (.expr e) k Γ M = wE s e Γ M fun _ M1 => k.nx Γ M1 := rfl
theorem s_ret {e : C} : wS s (.ret e) k Γ M = wE s e Γ M k.rt := rfl
theorem s_retN : wS s .retN k Γ M = k.rt .non M := rfl
theorem s_ite {t : C} {x y : Ss} : wS s (.ite t x y) k Γ M = wE s t Γ M fun z M1 => match z with
    | .bl c => if c = true then wSs s x k Γ M1 else wSs s y k Γ M1
    | _ => False := rfl
theorem s_for {g : G} {src : I} {x : Ss} : wS s (.for_ g src x) k Γ M = wI s src Γ M fun items st M1 => forRun st k.nx (forStep s g x k) items Γ M1 := rfl
theorem s_brk : wS s .brk k Γ M = k.bk Γ M := rfl
theorem s_cnt : wS s .cont k Γ M = k.ct Γ M := rfl
theorem s_pass : wS s .pass k Γ M = k.nx Γ M := rfl
theorem s_never : wS s .never k Γ M = False := rfl
theorem for_step {g : G} {x : Ss} {d : Sw.D} {j : Sw.Env → MM → Prop} : forStep s g x k d Γ M j = wG s g d Γ M fun Γ2 M3 => wSs s x { nx := j, rt := k.rt, bk := k.nx, ct := j } Γ2 M3 := rfl
theorem lc_step {g : G} {ifs : Co} {vs : List Nat} {d : Sw.D} {j : Option Sw.D → MM → Prop} : lcStep s a g ifs vs Γ d M j = wG s g d (wipeD Γ vs) M fun Γ1 M3 => wipeD Γ1 vs = wipeD Γ vs ∧ wIf s ifs Γ1 M3 fun b M4 => if b = true then wE s a Γ1 M4 (fun d M5 => j (some d) M5) else j none M4 := rfl
theorem e_var {i : Nat} : wE s (.var i) Γ M Φ = match getE Γ i with
    | some d => Φ d M
    | none => False := rfl
theorem e_cst {d : Sw.D} : wE s (.cst d) Γ M Φ = Φ d M := rfl
theorem e_bin {op : Operator} : wE s (.bin own op a b) Γ M Φ = wE s a Γ M fun x M1 => wE s b Γ M1 fun y M2 => wBin own op x y M2 Φ := rfl
theorem e_neg : wE s (.neg a) Γ M Φ = wE s a Γ M fun x M1 => match x with
    | .int i => Φ (.int (-i)) M1
    | _ => False := rfl
theorem e_not : wE s (.not a) Γ M Φ = wE s a Γ M fun x M1 => match x with
    | .bl b => Φ (.bl (!b)) M1
    | _ => False := rfl
theorem e_and : wE s (.and a b) Γ M Φ = wE s a Γ M fun x M1 => match x with
    | .bl c => if c = true then wE s b Γ M1 Φ else Φ (.bl false) M1
    | _ => False := rfl
theorem e_or : wE s (.or a b) Γ M Φ = wE s a Γ M fun x M1 => match x with
    | .bl c => if c = true then Φ (.bl true) M1 else wE s b Γ M1 Φ
    | _ => False := rfl
theorem e_cmp {op : CmpOp} : wE s (.cmp op a b) Γ M Φ = wE s a Γ M fun x M1 => wE s b Γ M1 fun y M2 => wCmp op x y M2 Φ := rfl
theorem e_chain {op op' : CmpOp} : wE s (.chain op op' a b c) Γ M Φ = wE s a Γ M fun x M1 => wE s b Γ M1 fun y M2 => wCmp op x y M2 fun z M3 => match z with
    | .bl k => if k = true then wE s c Γ M3 fun w M4 => wCmp op' y w M4 Φ else Φ (.bl false) M3
    | _ => False := rfl
theorem e_ife : wE s (.ife c a b) Γ M Φ = wE s c Γ M fun x M1 => match x with
    | .bl k => if k = true then wE s a Γ M1 Φ else wE s b Γ M1 Φ
    | _ => False := rfl
theorem e_tup : wE s (.tup es) Γ M Φ = wEs s es Γ M fun ds M1 => ds.length ≤ sizeLine ∧ Φ (.tup ds) M1 := rfl
theorem e_lst : wE s (.lst own es) Γ M Φ = wEs s es Γ M fun ds M1 => newL own ds M1 Φ := rfl
theorem e_ix : wE s (.ix a b) Γ M Φ = wE s a Γ M fun x M1 => wE s b Γ M1 fun y M2 => wIx x y M2 Φ := rfl
theorem e_slc {lo hi : Co} : wE s (.slc own a lo hi) Γ M Φ = wE s a Γ M fun x M1 => wO s lo Γ M1 fun l M2 => wO s hi Γ M2 fun h M3 => wSl own x l h M3 Φ := rfl
theorem e_rev : wE s (.rev own a) Γ M Φ = wE s a Γ M fun x M1 => wRev own x M1 Φ := rfl
theorem e_fld {f : Str} : wE s (.fld a f) Γ M Φ = wE s a Γ M fun x M1 => wFld x f M1 Φ := rfl
theorem e_call {f : Str} {ar : List Arr} : wE s (.call f ar es ks) Γ M Φ = wEs s es Γ M fun ds M1 => wEs s ks Γ M1 fun zs M2 => s.call f (arrD ar (ds ++ zs)) M2 Φ s.xs := rfl
theorem e_meth {cn m : Str} {ar : List Arr} : wE s (.meth cn m ar a es ks) Γ M Φ = wE s a Γ M fun x M1 => isC x cn m M1 ∧ wEs s es Γ M1 fun ds M2 => wEs s ks Γ M2 fun zs M3 => s.call (cn ++ "." ++ m) (arrD ar (x :: ds ++ zs)) M3 Φ s.xs := rfl
theorem e_make {cn : Str} {ar : List Arr} : wE s (.make cn own ar es) Γ M Φ = wEs s es Γ M fun ds M1 => ∀ a, M1 a = none →
      s.call (cn ++ ".__init__") (arrD ar (.loc a :: ds)) (mset M1 a (.ins cn [])) (fun r M2 => isNon r = true ∧ if own = true then Φ (.loc a) M2 else frzD 4 (.loc a) M2 Φ) s.xs := rfl
theorem e_bi {f : Bi} : wE s (.bi own f es) Γ M Φ = wEs s es Γ M fun ds M1 => wBi own f ds M1 Φ := rfl
theorem e_bm {f : Bm} : wE s (.bm own f a es) Γ M Φ = wE s a Γ M fun x M1 => tyM M1 x = some "list" ∧ wEs s es Γ M1 fun ds M2 => wBm own f x ds M2 Φ := rfl
theorem e_isi {ts : List String} : wE s (.isi a ts) Γ M Φ = wE s a Γ M fun x M1 => wIsi x ts M1 Φ := rfl
theorem e_lc {g : G} {src : I} {ifs : Co} {vs : List Nat} : wE s (.lc own a g src ifs vs) Γ M Φ = wI s src Γ M fun items st M1 => items.length < sizeLine ∧ lcRun st (lcStep s a g ifs vs Γ) items [] M1 fun ds M2 => newL own ds M2 Φ := rfl
theorem e_frz : wE s (.frz a) Γ M Φ = wE s a Γ M fun x M1 => frzD 4 x M1 Φ := rfl
theorem e_sp {f : Spc} : wE s (.sp own f es) Γ M Φ = wEs s es Γ M fun ds M1 => wSp own f ds M1 Φ := rfl
end
/-- a def as it stands in a table -/
class Row (T : Tb) (x : Str) (e : outParam Fd) : Prop where
  out : lkF x T = some e
theorem call_row {T : Tb} {x : Str} {e : Fd} [r : Row T x e] {k : Nat} {ds : List Sw.D} {M : MM} {Φ Ψ : Sw.D → MM → Prop} (hl : ds.length = e.np) (h : wSs ⟨callAt T k, noX⟩ e.body { nx := fun _ M' => rtn Φ .non M', rt := rtn Φ } (startD e.nN ds) M) : callAt T (k + 1) x ds M Φ Ψ := by
  rw [callAt_succ, r.out]
  exact ⟨hl, h⟩
theorem mset_mset {M : MM} {a : Addr} {c d : Cell} : mset (mset M a c) a d = mset M a d := by funext b; unfold mset; split <;> rfl
theorem mset_comm {M : MM} {a b : Addr} {c d : Cell} (h : a ≠ b) : mset (mset M a c) b d = mset (mset M b d) a c := by
  funext x
  unfold mset
  split <;> split <;> first | rfl | (rename_i e1 e2; exact absurd (e2.symm.trans e1) h)
theorem mdel_mset {M : MM} {a : Addr} {c : Cell} (ha : M a = none) : mdel (mset M a c) a = M := by
  funext b
  unfold mdel mset
  split
  · rename_i e
    rw [e, ha]
  · rfl
theorem msub_mset {M M' : MM} {a : Addr} {c : Cell} (h : MSub M M') (ha : M a = none) : MSub M (mset M' a c) := fun b d e => by
  have hb : b ≠ a := fun z => by rw [z, ha] at e; cases e
  rw [mset_ne hb]; exact h b d e
theorem rtn_drop {Φ : Sw.D → MM → Prop} {d : Sw.D} {M : MM} {a : Addr} {c : Cell} (ha : M a = none) (h : Φ d M) : rtn Φ d (mset M a c) := ⟨M, msub_mset .refl ha, h⟩
/-! ### numbers -/
theorem cdw {i j : Int} (h0 : 0 < j) (h1 : j < 2 ^ 40) : L2.CDivW i j := ⟨h0, by
  have : j.natAbs ≠ 0 := by omega
  have := (Nat.log2_lt (n := j.natAbs) (k := 9000) this).mpr (by
    have : j.natAbs < 2 ^ 40 := by omega
    exact Nat.lt_of_lt_of_le this (Nat.pow_le_pow_right (by decide) (by decide)))
  exact this⟩
theorem mulL {i j : Int} (h : -(2 ^ 64) < i ∧ i < 2 ^ 64) : mulOk i j := .inl (.inl h)
theorem mulR {i j : Int} (h : -(2 ^ 64) < j ∧ j < 2 ^ 64) : mulOk i j := .inl (.inr h)
theorem small_size {n : Nat} (h : n ≤ 1000000) : n < sizeLine := Nat.lt_of_le_of_lt h (by decide)
theorem small_le {n : Nat} (h : n ≤ 1000000) : n ≤ sizeLine := Nat.le_of_lt (small_size h)
/-! ### lists of values -/
def irg (a : Int) : Nat → List Int
  | 0 => []
  | n + 1 => a :: irg (a + 1) n
theorem rng_irg (a : Int) (n : Nat) : rngD a n = (irg a n).map Sw.D.int := by
  induction n generalizing a with
  | zero => rfl
  | succ n ih => simp [rngD, irg, ih]
theorem irg_len (a : Int) (n : Nat) : (irg a n).length = n := by
  induction n generalizing a with
  | zero => rfl
  | succ n ih => simp [irg, ih]
theorem irg_get {a : Int} {n i : Nat} {x : Int} (h : (irg a n)[i]? = some x) : x = a + i ∧ i < n := by
  induction n generalizing a i with
  | zero => simp [irg] at h
  | succ n ih =>
    cases i with
    | zero => simp [irg] at h; omega
    | succ i =>
      have := ih (a := a + 1) (i := i) (by simpa [irg] using h)
      omega
theorem irg_mem {a x : Int} {n : Nat} (h : x ∈ irg a n) : a ≤ x ∧ x < a + n := by
  obtain ⟨i, hi⟩ := List.mem_iff_getElem?.mp h
  have := irg_get hi
  omega
theorem irg_at {a : Int} {n i : Nat} (h : i < n) : (irg a n)[i]? = some (a + i) := by
  have hl := irg_len a n
  obtain ⟨x, hx⟩ : ∃ x, (irg a n)[i]? = some x := ⟨_, List.getElem?_eq_getElem (by omega)⟩
  rw [hx, (irg_get hx).1]
/-- two lists, item by item -/
def All2 {α β : Type} (R : α → β → Prop) : List α → List β → Prop
  | [], [] => True
  | x :: xs, y :: ys => R x y ∧ All2 R xs ys
  | _, _ => False
theorem All2.len {α β : Type} {R : α → β → Prop} : ∀ {xs : List α} {ys : List β}, All2 R xs ys → ys.length = xs.length
  | [], [], _ => rfl
  | _ :: _, _ :: _, h => by simp [All2.len h.2]
  | [], _ :: _, h => h.elim
  | _ :: _, [], h => h.elim
theorem All2.mem {α β : Type} {R : α → β → Prop} : ∀ {xs : List α} {ys : List β}, All2 R xs ys → ∀ {y : β}, y ∈ ys → ∃ x ∈ xs, R x y
  | [], [], _, y, h => by cases h
  | x :: _, z :: _, h, y, hy => by
    rcases List.mem_cons.mp hy with e | hy
    · exact ⟨x, List.mem_cons_self, by rw [e]; exact h.1⟩
    · obtain ⟨w, h1, h2⟩ := All2.mem h.2 hy
      exact ⟨w, List.mem_cons_of_mem _ h1, h2⟩
  | [], _ :: _, h, _, _ => h.elim
  | _ :: _, [], h, _, _ => h.elim
theorem All2.at {α β : Type} {R : α → β → Prop} : ∀ {xs : List α} {ys : List β}, All2 R xs ys → ∀ {i : Nat} {x : α} {y : β}, xs[i]? = some x → ys[i]? = some y → R x y
  | [], [], _, i, x, y, e, _ => by simp at e
  | a :: _, b :: _, h, 0, x, y, e1, e2 => by
    simp at e1 e2
    subst e1; subst e2
    exact h.1
  | a :: _, b :: _, h, i + 1, x, y, e1, e2 => All2.at h.2 (i := i) (by simpa using e1) (by simpa using e2)
  | [], _ :: _, h, _, _, _, _, _ => h.elim
  | _ :: _, [], h, _, _, _, _, _ => h.elim
theorem All2.append {α β : Type} {R : α → β → Prop} : ∀ {xs : List α} {ys : List β} {us : List α} {vs : List β}, All2 R xs ys → All2 R us vs → All2 R (xs ++ us) (ys ++ vs)
  | [], [], _, _, _, h => h
  | _ :: _, _ :: _, _, _, h, g => ⟨h.1, All2.append h.2 g⟩
  | [], _ :: _, _, _, h, _ => h.elim
  | _ :: _, [], _, _, h, _ => h.elim
theorem bls_map {α : Type} (l : List α) (p : α → Bool) : blsOf (l.map fun x => Sw.D.bl (p x)) = some (l.map p) := by
  induction l with
  | nil => rfl
  | cons a r ih => simp [blsOf, ih]
theorem ints_map {α : Type} (l : List α) (p : α → Int) : intsOf (l.map fun x => Sw.D.int (p x)) = some (l.map p) := by
  induction l with
  | nil => rfl
  | cons a r ih => simp [intsOf, ih]
theorem ints_id (l : List Int) : intsOf (l.map Sw.D.int) = some l := intsOf_map l
theorem bls_id (l : List Bool) : blsOf (l.map Sw.D.bl) = some l := blsOf_map l
theorem all_true {α : Type} (l : List α) : blsOf (l.map fun _ => Sw.D.bl true) = some (l.map fun _ => true) ∧ (l.map fun _ => true).all id = true := ⟨bls_map l _, by simp⟩
theorem pairs_map {α β : Type} (f : α → Sw.D) (g : β → Sw.D) : ∀ (xs : List α) (ys : List β), pairs (xs.map f) (ys.map g) = (xs.zip ys).map fun p => Sw.D.tup [f p.1, g p.2]
  | [], _ => by simp [pairs]
  | _ :: _, [] => by simp [pairs]
  | x :: xs, y :: ys => by simp [pairs, pairs_map f g xs ys]
theorem numbered_map {α : Type} (f : α → Sw.D) : ∀ (xs : List α) (n : Nat), Sw.numbered n (xs.map f) = (xs.zipIdx n).map fun p => Sw.D.tup [.int p.2, f p.1]
  | [], _ => rfl
  | x :: xs, n => by simp [Sw.numbered, numbered_map f xs (n + 1)]
theorem stays_self {M : MM} {d : Sw.D} {xs : List Sw.D} (h : seqOf M d = some xs) : stays M d M := by
  cases d <;> simp_all [stays, seqOf]
  split at h <;> simp_all
theorem seq_put {M : MM} {d : Sw.D} {a : Addr} {c : Cell} (ha : M a = none) {xs : List Sw.D} (h : seqOf M d = some xs) : seqOf (mset M a c) d = some xs := by
  cases d with
  | loc b =>
    simp only [seqOf] at h ⊢
    have hb : b ≠ a := fun e => by
      subst e
      rw [ha] at h
      cases h
    rw [mset_ne hb]
    exact h
  | _ => exact h
/-- a list or a tuple, by its type -/
theorem seq_ty {M : MM} {d : Sw.D} {xs : List Sw.D} (h : seqOf M d = some xs) : ∃ t, tyM M d = some t ∧ isTy t "list" = true ∨ tyM M d = some t ∧ isTy t "tuple" = true := by
  cases d with
  | lst xs => exact ⟨"list", .inl ⟨rfl, by decide⟩⟩
  | frl xs => exact ⟨"list", .inl ⟨rfl, by decide⟩⟩
  | tup xs => exact ⟨"tuple", .inr ⟨rfl, by decide⟩⟩
  | loc a =>
    simp only [seqOf] at h
    split at h
    · rename_i e
      exact ⟨"list", .inl ⟨by simp only [tyM, e], by decide⟩⟩
    · cases h
  | _ => cases h
theorem isi_seq {M : MM} {d : Sw.D} {xs : List Sw.D} {Φ : Sw.D → MM → Prop} (h : seqOf M d = some xs) (k : Φ (.bl true) M) : wIsi d ["list", "tuple"] M Φ := by
  obtain ⟨t, ⟨e, q⟩ | ⟨e, q⟩⟩ := seq_ty h
  · unfold wIsi; rw [e]; simpa [q] using k
  · unfold wIsi; rw [e]; simpa [q] using k
section
variable {M M' : MM} {xs : List Sw.D} {Φ : Sw.D → MM → Prop} {ts : List String} {own : Bool} {lo hi : Option Int}
theorem sq_lst : seqOf M (.lst xs) = some xs := rfl
theorem sq_frl : seqOf M (.frl xs) = some xs := rfl
theorem sq_tup : seqOf M (.tup xs) = some xs := rfl
theorem sq_loc {a : Addr} (h : M a = some (.lst xs)) : seqOf M (.loc a) = some xs := by simp [seqOf, h]
theorem lq_lst : lstOf M (.lst xs) = some xs := rfl
theorem lq_loc {a : Addr} (h : M a = some (.lst xs)) : lstOf M (.loc a) = some xs := by simp [lstOf, h]
theorem ty_loc {a : Addr} (h : M a = some (.lst xs)) : tyM M (.loc a) = some "list" := by simp [tyM, h]
theorem st_lst : stays M (.lst xs) M' = True := rfl
theorem st_frl : stays M (.frl xs) M' = True := rfl
theorem st_tup : stays M (.tup xs) M' = True := rfl
theorem isN_non : isNon .non = true := rfl
theorem isN_int {i : Int} : isNon (.int i) = false := rfl
theorem isN_bl {b : Bool} : isNon (.bl b) = false := rfl
theorem isN_str {b : Str} : isNon (.str b) = false := rfl
theorem isN_tup : isNon (.tup xs) = false := rfl
theorem isN_lst : isNon (.lst xs) = false := rfl
theorem isN_obj {c : Str} {fs : List (Str × Sw.D)} : isNon (.obj c fs) = false := rfl
theorem isi_bl {b : Bool} : wIsi (.bl b) ts M Φ = Φ (.bl (ts.any fun u => isTy "bool" u)) M := rfl
theorem isi_str {b : Str} : wIsi (.str b) ts M Φ = Φ (.bl (ts.any fun u => isTy "str" u)) M := rfl
theorem isi_non : wIsi .non ts M Φ = Φ (.bl (ts.any fun u => isTy "NoneType" u)) M := rfl
theorem isi_lst : wIsi (.lst xs) ts M Φ = Φ (.bl (ts.any fun u => isTy "list" u)) M := rfl
theorem isi_frl : wIsi (.frl xs) ts M Φ = Φ (.bl (ts.any fun u => isTy "list" u)) M := rfl
theorem isi_tup : wIsi (.tup xs) ts M Φ = Φ (.bl (ts.any fun u => isTy "tuple" u)) M := rfl
theorem sl_tup : wSl own (.tup xs) lo hi M Φ = Φ (.tup (cutD xs lo hi)) M := rfl
theorem sl_lst : wSl own (.lst xs) lo hi M Φ = newL own (cutD xs lo hi) M Φ := rfl
theorem sl_frl : wSl own (.frl xs) lo hi M Φ = newL own (cutD xs lo hi) M Φ := rfl
theorem rv_tup : wRev own (.tup xs) M Φ = Φ (.tup xs.reverse) M := rfl
theorem rv_lst : wRev own (.lst xs) M Φ = newL own xs.reverse M Φ := rfl
theorem rv_frl : wRev own (.frl xs) M Φ = newL own xs.reverse M Φ := rfl
end
theorem pEq_non {M : MM} {k : Bool → Prop} : pEq M .non .non k = k true := by
  have e1 : SeqAt.shaped PyData.none = true := by decide
  have e2 : PyData.eqv PyData.none PyData.none = true := by decide
  simp [pEq, res, toPy, e1, e2]
theorem toPys_ints : ∀ ns : List Int, toPys (ns.map Sw.D.int) = some (ns.map PyData.int)
  | [] => rfl
  | n :: r => by simp [toPys, toPy, toPys_ints r]
theorem isi_int {M : MM} {i : Int} {ts : List String} {Φ : Sw.D → MM → Prop} : wIsi (.int i) ts M Φ = Φ (.bl (ts.any fun u => isTy "int" u)) M := rfl
/-! ### comprehensions, loops -/
/-- a comprehension whose element and tests change nothing -/
theorem lc_pure {g : MM → Prop} {step : Sw.D → MM → (Option Sw.D → MM → Prop) → Prop} {M : MM} {Φ : List Sw.D → MM → Prop} (f : Sw.D → Sw.D) (hg : g M) : ∀ {items acc : List Sw.D}, (∀ x ∈ items, ∀ k : Option Sw.D → MM → Prop, k (some (f x)) M → step x M k) → Φ (acc ++ items.map f) M → lcRun g step items acc M Φ
  | [], acc, _, h => ⟨hg, by simpa using h⟩
  | x :: r, acc, hs, h => ⟨hg, hs x List.mem_cons_self _ (lc_pure f hg (items := r) (acc := acc ++ (some (f x)).toList) (fun y m => hs y (List.mem_cons_of_mem _ m)) (by simpa using h))⟩
/-- .. by typed items -/
theorem lc_map {α : Type} {g : MM → Prop} {step : Sw.D → MM → (Option Sw.D → MM → Prop) → Prop} {M : MM} {Φ : List Sw.D → MM → Prop} {e : α → Sw.D} (f : α → Sw.D) (hg : g M) : ∀ {xs : List α} {acc : List Sw.D}, (∀ x ∈ xs, ∀ k : Option Sw.D → MM → Prop, k (some (f x)) M → step (e x) M k) → Φ (acc ++ xs.map f) M → lcRun g step (xs.map e) acc M Φ
  | [], acc, _, h => ⟨hg, by simpa using h⟩
  | x :: r, acc, hs, h => ⟨hg, hs x List.mem_cons_self _ (lc_map f hg (xs := r) (acc := acc ++ (some (f x)).toList) (fun y m => hs y (List.mem_cons_of_mem _ m)) (by simpa using h))⟩
/-- .. those that a test takes -/
theorem lc_filter {α : Type} {g : MM → Prop} {step : Sw.D → MM → (Option Sw.D → MM → Prop) → Prop} {M : MM} {Φ : List Sw.D → MM → Prop} {e : α → Sw.D} (p : α → Bool) (f : α → Sw.D) (hg : g M) : ∀ {xs : List α} {acc : List Sw.D}, (∀ x ∈ xs, ∀ k : Option Sw.D → MM → Prop, (if p x = true then k (some (f x)) M else k none M) → step (e x) M k) → Φ (acc ++ (xs.filter p).map f) M → lcRun g step (xs.map e) acc M Φ
  | [], acc, _, h => ⟨hg, by simpa using h⟩
  | x :: r, acc, hs, h => by
    refine ⟨hg, hs x List.mem_cons_self _ ?_⟩
    cases hp : p x with
    | true =>
      rw [if_pos rfl]
      exact lc_filter p f hg (xs := r) (acc := acc ++ (some (f x)).toList) (fun y m => hs y (List.mem_cons_of_mem _ m)) (by simpa [hp] using h)
    | false =>
      rw [if_neg (by simp)]
      exact lc_filter p f hg (xs := r) (acc := acc ++ (none : Option Sw.D).toList) (fun y m => hs y (List.mem_cons_of_mem _ m)) (by simpa [hp] using h)
/-- .. by a typed list beside the items -/
theorem lc_a2 {α : Type} {g : MM → Prop} {step : Sw.D → MM → (Option Sw.D → MM → Prop) → Prop} {M : MM} {Φ : List Sw.D → MM → Prop} {R : Sw.D → α → Prop} (f : α → Sw.D) (hg : g M) : ∀ {xs : List Sw.D} {ys : List α} {acc : List Sw.D}, All2 R xs ys → (∀ x y, x ∈ xs → y ∈ ys → R x y → ∀ k : Option Sw.D → MM → Prop, k (some (f y)) M → step x M k) → Φ (acc ++ ys.map f) M → lcRun g step xs acc M Φ
  | [], [], acc, _, _, h => ⟨hg, by simpa using h⟩
  | x :: r, y :: q, acc, ha, hs, h => ⟨hg, hs x y List.mem_cons_self List.mem_cons_self ha.1 _ (lc_a2 f hg (xs := r) (acc := acc ++ (some (f y)).toList) ha.2 (fun a b m n => hs a b (List.mem_cons_of_mem _ m) (List.mem_cons_of_mem _ n)) (by simpa using h))⟩
  | [], _ :: _, _, h, _, _ => h.elim
  | _ :: _, [], _, h, _, _ => h.elim
/-- a for by an invariant: of the turns gone, the names, the cells -/
theorem for_inv {α : Type} {g : MM → Prop} {nx : Sw.Env → MM → Prop} {step : Sw.D → Sw.Env → MM → (Sw.Env → MM → Prop) → Prop} {e : α → Sw.D} (P : Nat → Sw.Env → MM → Prop) (hg : ∀ i Γ M, P i Γ M → g M) : ∀ {xs : List α} {i : Nat} {Γ : Sw.Env} {M : MM}, P i Γ M →
    (∀ (j : Nat) x, xs[j]? = some x → ∀ Γ M (k : Sw.Env → MM → Prop), P (i + j) Γ M → (∀ Γ' M', P (i + j + 1) Γ' M' → k Γ' M') → step (e x) Γ M k) → (∀ Γ' M', P (i + xs.length) Γ' M' → nx Γ' M') → forRun g nx step (xs.map e) Γ M
  | [], i, Γ, M, h0, _, h => ⟨hg _ _ _ h0, h Γ M (by simpa using h0)⟩
  | x :: r, i, Γ, M, h0, hs, h => ⟨hg _ _ _ h0, hs 0 x rfl Γ M _ (by simpa using h0) fun Γ' M' hp => for_inv P hg (xs := r) (i := i + 1) (by simpa using hp) (fun j y e Γ2 M2 k hp2 hk => hs (j + 1) y (by simpa using e) Γ2 M2 k (by rw [show i + (j + 1) = i + 1 + j by omega]; exact hp2) fun Γ3 M3 h3 => hk Γ3 M3 (by rw [show i + 1 + j + 1 = i + (j + 1) + 1 by omega]; exact h3)) fun Γ3 M3 h3 => h Γ3 M3 (by rw [show i + (x :: r).length = i + 1 + r.length by simp; omega]; exact h3)⟩
/-! ### places -/
theorem atD_get {xs : List Sw.D} {i : Int} {d : Sw.D} {k : Sw.D → Prop} (h0 : 0 ≤ i) (h : xs[i.toNat]? = some d) (hk : k d) : atD xs i k := by
  have hl : i.toNat < xs.length := by
    rcases Nat.lt_or_ge i.toNat xs.length with q | q
    · exact q
    · rw [List.getElem?_eq_none q] at h; cases h
  unfold atD L2.atI L2.ixN
  rw [if_pos h0, if_pos (by omega)]
  simp only [Option.bind_some, h]
  exact hk
theorem ixN_pos {n : Nat} {i : Int} (h0 : 0 ≤ i) (h : i < n) : L2.ixN n i = some i.toNat := by
  unfold L2.ixN
  rw [if_pos h0, if_pos h]
theorem ixN_neg {n : Nat} {i : Int} (h0 : i < 0) (h : 0 ≤ i + n) : L2.ixN n i = some (i + n).toNat := by
  unfold L2.ixN
  rw [if_neg (by omega), if_pos (by omega)]
/-- a place of a list of ints -/
theorem atD_int {ns : List Int} {i : Int} {k : Sw.D → Prop} (h0 : 0 ≤ i) (h : i < ns.length) (hk : k (.int (ns.getD i.toNat 0))) : atD (ns.map Sw.D.int) i k := by
  refine atD_get (d := .int (ns.getD i.toNat 0)) h0 ?_ hk
  rw [List.getElem?_map, List.getD_eq_getElem?_getD, List.getElem?_eq_getElem (by omega)]
  rfl
theorem atD_intN {ns : List Int} {i : Int} {k : Sw.D → Prop} (h0 : i < 0) (h : 0 ≤ i + ns.length) (hk : k (.int (ns.getD (i + ns.length).toNat 0))) : atD (ns.map Sw.D.int) i k := by
  unfold atD L2.atI
  rw [ixN_neg h0 (by simpa using h)]
  have e : (ns.map Sw.D.int)[(i + ((ns.map Sw.D.int).length : Nat)).toNat]? = some (.int (ns.getD (i + ns.length).toNat 0)) := by
    rw [List.length_map, List.getElem?_map, List.getD_eq_getElem?_getD, List.getElem?_eq_getElem (by omega)]
    rfl
  simp only [Option.bind_some, e]
  exact hk
theorem getD_set {ns : List Int} {i j : Nat} {z : Int} (hi : i < ns.length) : (ns.set i z).getD j 0 = if i = j then z else ns.getD j 0 := by
  rw [List.getD_eq_getElem?_getD, List.getD_eq_getElem?_getD]
  by_cases h : i = j
  · subst h
    rw [List.getElem?_set_self hi, if_pos rfl]
    rfl
  · rw [List.getElem?_set_ne h, if_neg h]
theorem map_set_int {ns : List Int} {i : Nat} {z : Int} : (ns.map Sw.D.int).set i (.int z) = (ns.set i z).map Sw.D.int := by simp [List.map_set]
theorem getD_mem {ns : List Int} {i : Nat} (h : i < ns.length) : ns.getD i 0 ∈ ns := by
  rw [List.getD_eq_getElem?_getD, List.getElem?_eq_getElem h]
  exact List.getElem_mem h
theorem mem_getD {ns : List Int} {z : Int} (h : z ∈ ns) : ∃ i, i < ns.length ∧ ns.getD i 0 = z := by
  obtain ⟨i, hi, e⟩ := List.mem_iff_getElem.mp h
  exact ⟨i, hi, by rw [List.getD_eq_getElem?_getD, List.getElem?_eq_getElem hi]; exact e⟩
theorem ext_getD {xs ys : List Int} (hl : xs.length = ys.length) (h : ∀ i, i < xs.length → xs.getD i 0 = ys.getD i 0) : xs = ys := by
  apply List.ext_getElem hl
  intro i h1 h2
  have := h i h1
  rw [List.getD_eq_getElem?_getD, List.getD_eq_getElem?_getD, List.getElem?_eq_getElem h1, List.getElem?_eq_getElem h2] at this
  exact this
theorem getD_rev {ns : List Int} {i : Nat} (h : i < ns.length) : ns.reverse.getD i 0 = ns.getD (ns.length - 1 - i) 0 := by
  rw [List.getD_eq_getElem?_getD, List.getD_eq_getElem?_getD, List.getElem?_reverse h]
theorem getD_map {ns : List Int} {f : Int → Int} {i : Nat} (h : i < ns.length) : (ns.map f).getD i 0 = f (ns.getD i 0) := by
  rw [List.getD_eq_getElem?_getD, List.getD_eq_getElem?_getD, List.getElem?_map, List.getElem?_eq_getElem h]
  rfl
/-- a store at a place -/
theorem setI_loc {M : MM} {a : Addr} {xs : List Sw.D} {i : Int} {v : Sw.D} {Φ : MM → Prop} (hM : M a = some (.lst xs)) (h0 : 0 ≤ i) (h : i < xs.length) (k : Φ (mset M a (.lst (xs.set i.toNat v)))) : wSetI (.loc a) (.int i) v M Φ := by
  unfold wSetI
  simp only [hM, ixN_pos h0 h]
  exact k
theorem setI_locN {M : MM} {a : Addr} {xs : List Sw.D} {i : Int} {v : Sw.D} {Φ : MM → Prop} (hM : M a = some (.lst xs)) (h0 : i < 0) (h : 0 ≤ i + xs.length) (k : Φ (mset M a (.lst (xs.set (i + xs.length).toNat v)))) : wSetI (.loc a) (.int i) v M Φ := by
  unfold wSetI
  simp only [hM, ixN_neg h0 h]
  exact k
/-! ### lists of lists of ints -/
def ent (R : List (List Int)) (i j : Nat) : Int := (R.getD i []).getD j 0
def entSet (R : List (List Int)) (i j : Nat) (v : Int) : List (List Int) := R.set i ((R.getD i []).set j v)
theorem getD_setL {R : List (List Int)} {i j : Nat} {r : List Int} (hi : i < R.length) : (R.set i r).getD j [] = if i = j then r else R.getD j [] := by
  rw [List.getD_eq_getElem?_getD, List.getD_eq_getElem?_getD]
  by_cases h : i = j
  · subst h
    rw [List.getElem?_set_self hi, if_pos rfl]
    rfl
  · rw [List.getElem?_set_ne h, if_neg h]
theorem ent_set {R : List (List Int)} {i j a b : Nat} {v : Int} (hi : i < R.length) (hj : j < (R.getD i []).length) : ent (entSet R i j v) a b = if i = a ∧ j = b then v else ent R a b := by
  unfold ent entSet
  rw [getD_setL hi]
  by_cases h : i = a
  · subst h
    rw [if_pos rfl, getD_set hj]
    by_cases h2 : j = b
    · rw [if_pos h2, if_pos ⟨rfl, h2⟩]
    · rw [if_neg h2, if_neg (fun z => h2 z.2)]
  · rw [if_neg h, if_neg (fun z => h z.1)]
/-- n rows of m numbers -/
def Sized (n m : Nat) (R : List (List Int)) : Prop := R.length = n ∧ ∀ i, i < n → (R.getD i []).length = m
theorem Sized.set {n m i j : Nat} {R : List (List Int)} {v : Int} (h : Sized n m R) (hi : i < n) : Sized n m (entSet R i j v) := by
  refine ⟨by unfold entSet; rw [List.length_set]; exact h.1, fun a ha => ?_⟩
  unfold entSet
  rw [getD_setL (by rw [h.1]; exact hi)]
  split
  · rw [List.length_set]; exact h.2 i hi
  · exact h.2 a ha
theorem Sized.mem {n m : Nat} {R : List (List Int)} (h : Sized n m R) : ∀ r ∈ R, r.length = m := fun r hr => by
  obtain ⟨i, hi, e⟩ := List.mem_iff_getElem.mp hr
  have := h.2 i (by rw [← h.1]; exact hi)
  rw [List.getD_eq_getElem?_getD, List.getElem?_eq_getElem hi] at this
  rw [← e]; exact this
theorem Sized.of_mem {n m : Nat} {R : List (List Int)} (h : R.length = n) (hm : ∀ r ∈ R, r.length = m) : Sized n m R := by
  refine ⟨h, fun i hi => ?_⟩
  rw [List.getD_eq_getElem?_getD, List.getElem?_eq_getElem (by omega)]
  exact hm _ (List.getElem_mem _)
/-! ### boxes: what is left of the great cell, the mix, the count of draws -/
structure Box where
  u : Int
  v : Int
  t : Int
def bxs (M : MM) (b : Addr) (B : Box) : MM := mset M b (.lst [.int B.u, .int B.v, .int B.t])
/-- ready for n draws -/
def Rdy (n : Nat) (B : Box) : Prop := 0 ≤ B.u ∧ 0 ≤ B.v ∧ B.v < 2 ^ 40 ∧ 0 ≤ B.t ∧ B.t + n ≤ 2 ^ 40
/-- n draws later at most -/
def Nx (n : Nat) (B B' : Box) : Prop := 0 ≤ B'.u ∧ B'.v = B.v ∧ 0 ≤ B'.t ∧ B'.t ≤ B.t + n
theorem Rdy.nx {c d c' : Nat} {B B' : Box} (h : Rdy c B) (n : Nx d B B') (e : d + c' ≤ c) : Rdy c' B' := by unfold Rdy Nx at *; omega
theorem Rdy.le {c c' : Nat} {B : Box} (h : Rdy c B) (e : c' ≤ c) : Rdy c' B := by unfold Rdy at *; omega
theorem Nx.trans {c d : Nat} {B B' B'' : Box} (h : Nx c B B') (n : Nx d B' B'') : Nx (c + d) B B'' := by unfold Nx at *; omega
theorem Nx.le {c d : Nat} {B B' : Box} (h : Nx c B B') (e : c ≤ d) : Nx d B B' := by unfold Nx at *; omega
theorem Rdy.zero {c : Nat} {B : Box} (h : Rdy c B) : Nx 0 B B := by unfold Rdy Nx at *; omega
section
variable {M : MM} {b : Addr} {B B' : Box}
theorem bxs_at : bxs M b B b = some (.lst [.int B.u, .int B.v, .int B.t]) := mset_same
theorem bxs_ne {a : Addr} (h : a ≠ b) : bxs M b B a = M a := mset_ne h
theorem bxs_bxs : bxs (bxs M b B) b B' = bxs M b B' := mset_mset
theorem bxs_fresh {a : Addr} (h : bxs M b B a = none) : a ≠ b ∧ M a = none := by
  have ha : a ≠ b := fun e => by rw [e, bxs_at] at h; cases h
  exact ⟨ha, by rw [bxs_ne ha] at h; exact h⟩
theorem bxs_mset {a : Addr} {c : Cell} (h : a ≠ b) : mset (bxs M b B) a c = bxs (mset M a c) b B := mset_comm (fun e => h e.symm)
theorem bxs_seq {d : Sw.D} {xs : List Sw.D} (hb : M b = none) (h : seqOf M d = some xs) : seqOf (bxs M b B) d = some xs := seq_put hb h
theorem msub_bxs {M' : MM} (h : MSub M M') : MSub (bxs M b B) (bxs M' b B) := fun a c e => by
  by_cases ha : a = b
  · rw [ha, bxs_at] at e ⊢; exact e
  · rw [bxs_ne ha] at e ⊢; exact h a c e
theorem rtn_box {Φ : Sw.D → MM → Prop} {d : Sw.D} {a : Addr} {c : Cell} (ha : M a = none) (h : Φ d (bxs M b B)) : rtn Φ d (bxs (mset M a c) b B) := ⟨_, msub_bxs (msub_mset .refl ha), h⟩
theorem mset_bxs_drop {a : Addr} {c : Cell} (h1 : a ≠ b) (h : M a = none) : mdel (bxs (mset M a c) b B) a = bxs M b B := by
  rw [← bxs_mset h1]
  exact mdel_mset (by rw [bxs_ne h1]; exact h)
theorem bxs_up {a : Addr} {c d : Cell} (h : a ≠ b) : mset (bxs (mset M a c) b B) a d = bxs (mset M a d) b B := by rw [bxs_mset h, mset_mset]
theorem bxs_cell {a : Addr} {c : Cell} (h : a ≠ b) : bxs (mset M a c) b B a = some c := by rw [bxs_ne h, mset_same]
/-- a comprehension that draws: by what each item may come to -/
theorem lcb {α β : Type} {g : MM → Prop} {step : Sw.D → MM → (Option Sw.D → MM → Prop) → Prop} {Φ : List Sw.D → MM → Prop} {e : α → Sw.D} (f : β → Sw.D) (R : α → β → Prop) (c r : Nat) (hg : ∀ B', g (bxs M b B')) :
    ∀ {xs : List α} {acc : List Sw.D} {B : Box}, Rdy (c * xs.length + r) B → (∀ x ∈ xs, ∀ (B' : Box) (k : Option Sw.D → MM → Prop), Rdy (c + r) B' → (∀ y B'', R x y → Nx c B' B'' → k (some (f y)) (bxs M b B'')) → step (e x) (bxs M b B') k) →
      (∀ ys B', All2 R xs ys → Rdy r B' → Nx (c * xs.length) B B' → Φ (acc ++ ys.map f) (bxs M b B')) → lcRun g step (xs.map e) acc (bxs M b B) Φ
  | [], acc, B, hB, _, h => ⟨hg _, by simpa using h [] B trivial (by simpa using hB) (by simpa using hB.zero)⟩
  | x :: r', acc, B, hB, hs, h => by
    have e1 : c * (x :: r').length = c * r'.length + c := by rw [List.length_cons, Nat.mul_add, Nat.mul_one]
    rw [e1] at hB
    refine ⟨hg _, hs x List.mem_cons_self B _ (hB.le (by omega)) fun y B'' hy hn => ?_⟩
    refine lcb f R c r hg (xs := r') (acc := acc ++ (some (f y)).toList) (hB.nx hn (by omega)) (fun z m => hs z (List.mem_cons_of_mem _ m)) fun ys B3 ha hr hn2 => ?_
    have := h (y :: ys) B3 ⟨hy, ha⟩ hr (by rw [e1]; exact (hn.trans hn2).le (by omega))
    simpa using this
/-- a loop that draws -/
theorem forb {α : Type} {g : MM → Prop} {nx : Sw.Env → MM → Prop} {step : Sw.D → Sw.Env → MM → (Sw.Env → MM → Prop) → Prop} {e : α → Sw.D} (P : Nat → Sw.Env → MM → Prop) (c r : Nat) (hg : ∀ i Γ M B, P i Γ M → g (bxs M b B)) : ∀ {xs : List α} {i : Nat} {Γ : Sw.Env} {M : MM} {B : Box}, Rdy (c * xs.length + r) B → P i Γ M →
    (∀ (j : Nat) x, xs[j]? = some x → ∀ Γ M B' (k : Sw.Env → MM → Prop), P (i + j) Γ M → Rdy (c + r) B' → (∀ Γ' M' B'', P (i + j + 1) Γ' M' → Nx c B' B'' → k Γ' (bxs M' b B'')) → step (e x) Γ (bxs M b B') k) →
    (∀ Γ' M' B', P (i + xs.length) Γ' M' → Rdy r B' → Nx (c * xs.length) B B' → nx Γ' (bxs M' b B')) → forRun g nx step (xs.map e) Γ (bxs M b B)
  | [], i, Γ, M, B, hB, h0, _, h => ⟨hg _ _ _ _ h0, h Γ M B (by simpa using h0) (by simpa using hB) (by simpa using hB.zero)⟩
  | x :: r', i, Γ, M, B, hB, h0, hs, h => by
    have e1 : c * (x :: r').length = c * r'.length + c := by rw [List.length_cons, Nat.mul_add, Nat.mul_one]
    rw [e1] at hB
    refine ⟨hg _ _ _ _ h0, hs 0 x rfl Γ M B _ (by simpa using h0) (hB.le (by omega)) fun Γ' M' B'' hp hn => ?_⟩
    refine forb P c r hg (xs := r') (i := i + 1) (hB.nx hn (by omega)) (by simpa using hp) (fun j y e Γ2 M2 B2 k hp2 hr hk => hs (j + 1) y (by simpa using e) Γ2 M2 B2 k (by rw [show i + (j + 1) = i + 1 + j by omega]; exact hp2) hr fun Γ3 M3 B3 h3 => hk Γ3 M3 B3 (by rw [show i + 1 + j + 1 = i + (j + 1) + 1 by omega]; exact h3)) fun Γ3 M3 B3 h3 hr hn2 => ?_
    refine h Γ3 M3 B3 (by rw [show i + (x :: r').length = i + 1 + r'.length by simp; omega]; exact h3) hr ?_
    rw [e1]; exact (hn.trans hn2).le (by omega)
theorem bxs_self {M' : MM} (h : M' b = some (.lst [.int B.u, .int B.v, .int B.t])) : M' = bxs M' b B := by
  funext a
  by_cases e : a = b
  · rw [e, bxs_at]; exact h
  · rw [bxs_ne e]
theorem rtn_sub {Φ : Sw.D → MM → Prop} {d : Sw.D} {M' : MM} (hs : MSub M M') (h : Φ d (bxs M b B)) : rtn Φ d (bxs M' b B) := ⟨_, msub_bxs hs, h⟩
theorem msub_put {M1 M2 : MM} {a : Addr} {c : Cell} (h : MSub M1 M2) (ha : M1 a = none) : MSub M1 (mset M2 a c) := fun x d e => by
  have hx : x ≠ a := fun z => by rw [z, ha] at e; cases e
  rw [mset_ne hx]; exact h x d e
theorem msub_none {M1 M2 : MM} {a : Addr} (h : MSub M1 M2) (ha : M2 a = none) : M1 a = none := by
  cases e : M1 a with
  | none => rfl
  | some c => rw [h a c e] at ha; cases ha
end
/-! ### sameness of data of numbers -/
/-- numbers, None, lists and tuples of them, n deep -/
def ID : Nat → Sw.D → Prop
  | 0, d => match d with
    | .int _ => True
    | .non => True
    | _ => False
  | n + 1, d => match d with
    | .int _ => True
    | .non => True
    | .lst xs => ∀ x ∈ xs, ID n x
    | .tup xs => ∀ x ∈ xs, ID n x
    | _ => False
theorem toPys_cons {x : Sw.D} {r : List Sw.D} {p : PyData} {ps : List PyData} (h1 : toPy x = some p) (h2 : toPys r = some ps) : toPys (x :: r) = some (p :: ps) := by simp [toPys, h1, h2]
theorem idPy : ∀ (n : Nat) (d : Sw.D), ID n d → ∃ p, toPy d = some p ∧ p.canLay0 = true ∧ p.depth ≤ n
  | 0, d, h => by
    cases d with
    | int i => exact ⟨.int i, rfl, rfl, Nat.le_refl _⟩
    | non => exact ⟨.none, rfl, rfl, Nat.le_refl _⟩
    | _ => exact h.elim
  | n + 1, d, h => by
    have ih := idPy n
    have all : ∀ xs : List Sw.D, (∀ x ∈ xs, ID n x) → ∃ ps, toPys xs = some ps ∧ PyData.canLayAll0 ps = true ∧ PyData.depthAll ps ≤ n := by
      intro xs
      induction xs with
      | nil => intro _; exact ⟨[], rfl, rfl, Nat.zero_le _⟩
      | cons x r ihx =>
        intro hx
        obtain ⟨p, e1, e2, e3⟩ := ih x (hx x List.mem_cons_self)
        obtain ⟨ps, g1, g2, g3⟩ := ihx fun y hy => hx y (List.mem_cons_of_mem _ hy)
        exact ⟨p :: ps, toPys_cons e1 g1, by simp [PyData.canLayAll0, e2, g2], by simp [PyData.depthAll]; omega⟩
    cases d with
    | int i => exact ⟨.int i, rfl, rfl, Nat.zero_le _⟩
    | non => exact ⟨.none, rfl, rfl, Nat.zero_le _⟩
    | lst xs =>
      obtain ⟨ps, e1, e2, e3⟩ := all xs h
      exact ⟨.list ps, by simp [toPy, e1], by simpa [PyData.canLay0] using e2, by simp [PyData.depth]; omega⟩
    | tup xs =>
      obtain ⟨ps, e1, e2, e3⟩ := all xs h
      exact ⟨.tuple ps, by simp [toPy, e1], by simpa [PyData.canLay0] using e2, by simp [PyData.depth]; omega⟩
    | _ => exact h.elim
theorem idEqv : ∀ (n : Nat) (d e : Sw.D) (p q : PyData), ID n d → ID n e → toPy d = some p → toPy e = some q → (PyData.eqv p q = true ↔ d = e)
  | 0, d, e, p, q, h, g, e1, e2 => by
    cases d with
    | int i =>
      cases e with
      | int j => cases e1; cases e2; simp [PyData.eqv]
      | non => cases e1; cases e2; simp [PyData.eqv]
      | _ => exact g.elim
    | non =>
      cases e with
      | int j => cases e1; cases e2; simp [PyData.eqv]
      | non => cases e1; cases e2; simp [PyData.eqv]
      | _ => exact g.elim
    | _ => exact h.elim
  | n + 1, d, e, p, q, h, g, e1, e2 => by
    have ih := idEqv n
    have all : ∀ (xs ys : List Sw.D) (ps qs : List PyData), (∀ x ∈ xs, ID n x) → (∀ x ∈ ys, ID n x) → toPys xs = some ps → toPys ys = some qs → (PyData.eqvAll ps qs = true ↔ xs = ys) := by
      intro xs
      induction xs with
      | nil =>
        intro ys ps qs _ hy e1 e2
        cases e1
        cases ys with
        | nil => cases e2; simp [PyData.eqvAll]
        | cons y r =>
          obtain ⟨p', f1, _⟩ := idPy n y (hy y List.mem_cons_self)
          simp only [toPys, f1] at e2
          split at e2
          · cases e2; simp [PyData.eqvAll]
          · cases e2
      | cons x r ihx =>
        intro ys ps qs hx hy e1 e2
        obtain ⟨p', f1, _⟩ := idPy n x (hx x List.mem_cons_self)
        simp only [toPys, f1] at e1
        split at e1
        · rename_i a1 a2 h1 h2
          cases e1
          cases h1
          cases ys with
          | nil => cases e2; simp [PyData.eqvAll]
          | cons y r' =>
            obtain ⟨q', k1, _⟩ := idPy n y (hy y List.mem_cons_self)
            simp only [toPys, k1] at e2
            split at e2
            · rename_i b1 b2 h3 h4
              cases e2
              cases h3
              rw [PyData.eqvAll, Bool.and_eq_true, ih x y _ _ (hx x List.mem_cons_self) (hy y List.mem_cons_self) f1 k1, ihx r' _ _ (fun z m => hx z (List.mem_cons_of_mem _ m)) (fun z m => hy z (List.mem_cons_of_mem _ m)) h2 h4]
              simp
            · cases e2
        · cases e1
    cases d with
    | int i =>
      cases e1
      cases e with
      | int j => cases e2; simp [PyData.eqv]
      | non => cases e2; simp [PyData.eqv]
      | lst ys => obtain ⟨p', f1, _⟩ := idPy (n + 1) (.lst ys) g; rw [f1] at e2; cases e2; simp only [toPy, Option.map_eq_some_iff] at f1; obtain ⟨a, _, rfl⟩ := f1; simp [PyData.eqv]
      | tup ys => obtain ⟨p', f1, _⟩ := idPy (n + 1) (.tup ys) g; rw [f1] at e2; cases e2; simp only [toPy, Option.map_eq_some_iff] at f1; obtain ⟨a, _, rfl⟩ := f1; simp [PyData.eqv]
      | _ => exact g.elim
    | non =>
      cases e1
      cases e with
      | int j => cases e2; simp [PyData.eqv]
      | non => cases e2; simp [PyData.eqv]
      | lst ys => obtain ⟨p', f1, _⟩ := idPy (n + 1) (.lst ys) g; rw [f1] at e2; cases e2; simp only [toPy, Option.map_eq_some_iff] at f1; obtain ⟨a, _, rfl⟩ := f1; simp [PyData.eqv]
      | tup ys => obtain ⟨p', f1, _⟩ := idPy (n + 1) (.tup ys) g; rw [f1] at e2; cases e2; simp only [toPy, Option.map_eq_some_iff] at f1; obtain ⟨a, _, rfl⟩ := f1; simp [PyData.eqv]
      | _ => exact g.elim
    | lst xs =>
      simp only [toPy, Option.map_eq_some_iff] at e1
      obtain ⟨ps, f1, rfl⟩ := e1
      cases e with
      | int j => cases e2; simp [PyData.eqv]
      | non => cases e2; simp [PyData.eqv]
      | lst ys =>
        simp only [toPy, Option.map_eq_some_iff] at e2
        obtain ⟨qs, f2, rfl⟩ := e2
        rw [PyData.eqv, all xs ys ps qs h g f1 f2]
        simp
      | tup ys =>
        simp only [toPy, Option.map_eq_some_iff] at e2
        obtain ⟨qs, f2, rfl⟩ := e2
        simp [PyData.eqv]
      | _ => exact g.elim
    | tup xs =>
      simp only [toPy, Option.map_eq_some_iff] at e1
      obtain ⟨ps, f1, rfl⟩ := e1
      cases e with
      | int j => cases e2; simp [PyData.eqv]
      | non => cases e2; simp [PyData.eqv]
      | tup ys =>
        simp only [toPy, Option.map_eq_some_iff] at e2
        obtain ⟨qs, f2, rfl⟩ := e2
        rw [PyData.eqv, all xs ys ps qs h g f1 f2]
        simp
      | lst ys =>
        simp only [toPy, Option.map_eq_some_iff] at e2
        obtain ⟨qs, f2, rfl⟩ := e2
        simp [PyData.eqv]
      | _ => exact g.elim
    | _ => exact h.elim
theorem res_id {n : Nat} {M : MM} {d : Sw.D} (h : ID n d) : res M d = d := by
  cases d with
  | loc a => cases n <;> exact h.elim
  | _ => rfl
/-- == of data of numbers -/
theorem pEq_id {n : Nat} {M : MM} {x y : Sw.D} {kk : Bool → Prop} (hx : ID n x) (hy : ID n y) (hn : n ≤ 64) (hk : ∀ b : Bool, (b = true ↔ x = y) → kk b) : pEq M x y kk := by
  obtain ⟨p, e1, e2, e3⟩ := idPy n x hx
  obtain ⟨q, f1, f2, f3⟩ := idPy n y hy
  unfold pEq
  rw [res_id hx, res_id hy]
  simp only [e1, f1]
  refine ⟨by unfold SeqAt.shaped; rw [e2]; simp; omega, by unfold SeqAt.shaped; rw [f2]; simp; omega, hk _ (idEqv n x y p q hx hy e1 f1)⟩
theorem id_tI {n : Nat} {ns : List Int} : ID (n + 1) (.tup (ns.map Sw.D.int)) := fun x hx => by
  obtain ⟨z, _, rfl⟩ := List.mem_map.mp hx
  cases n <;> trivial
theorem id_lI {n : Nat} {ns : List Int} : ID (n + 1) (.lst (ns.map Sw.D.int)) := fun x hx => by
  obtain ⟨z, _, rfl⟩ := List.mem_map.mp hx
  cases n <;> trivial
theorem map_int_inj {xs ys : List Int} : xs.map Sw.D.int = ys.map Sw.D.int ↔ xs = ys := by
  constructor
  · intro h
    exact List.map_inj_right (fun a b e => by injection e) |>.mp h
  · intro h; rw [h]
/-- == of two tuples of ints -/
theorem eq_tI {M : MM} {xs ys : List Int} {kk : Bool → Prop} (hk : kk (decide (xs = ys))) : pEq M (.tup (xs.map Sw.D.int)) (.tup (ys.map Sw.D.int)) kk := by
  refine pEq_id (n := 1) id_tI id_tI (by decide) fun b hb => ?_
  have : b = decide (xs = ys) := by
    rw [Bool.eq_iff_iff, hb, decide_eq_true_iff]
    constructor
    · intro e
      injection e with e
      exact map_int_inj.mp e
    · intro e; rw [e]
  rw [this]; exact hk
end Pg
set_option maxRecDepth 100000
set_option maxHeartbeats 1000000
/-! Pb: the program's own small functions by contract; a Hall is made. -/
namespace Pg
open PySem Sw
abbrev tI (ns : List Int) : Sw.D := .tup (ns.map Sw.D.int)
abbrev lI (ns : List Int) : Sw.D := .lst (ns.map Sw.D.int)
def IsInts (M : MM) (d : Sw.D) (ns : List Int) : Prop := seqOf M d = some (ns.map Sw.D.int)
def IsRows (M : MM) (d : Sw.D) (R : List (List Int)) : Prop := ∃ xs, seqOf M d = some xs ∧ All2 (IsInts M) xs R
theorem ints_tI {M : MM} {ns : List Int} : IsInts M (tI ns) ns := rfl
theorem ints_lI {M : MM} {ns : List Int} : IsInts M (lI ns) ns := rfl
theorem all2_map {α β : Type} {R : β → α → Prop} {f : α → β} : ∀ {ys : List α}, (∀ y ∈ ys, R (f y) y) → All2 R (ys.map f) ys
  | [], _ => trivial
  | y :: ys, h => ⟨h y List.mem_cons_self, all2_map fun z m => h z (List.mem_cons_of_mem _ m)⟩
theorem all2_imp {α β : Type} {R S : β → α → Prop} : ∀ {xs : List β} {ys : List α}, All2 R xs ys → (∀ x y, R x y → S x y) → All2 S xs ys
  | [], [], _, _ => trivial
  | _ :: _, _ :: _, h, k => ⟨k _ _ h.1, all2_imp h.2 k⟩
  | [], _ :: _, h, _ => h.elim
  | _ :: _, [], h, _ => h.elim
theorem IsInts.put {M : MM} {d : Sw.D} {ns : List Int} {a : Addr} {c : Cell} (h : IsInts M d ns) (ha : M a = none) : IsInts (mset M a c) d ns := seq_put ha h
theorem IsRows.put {M : MM} {d : Sw.D} {R : List (List Int)} {a : Addr} {c : Cell} (h : IsRows M d R) (ha : M a = none) : IsRows (mset M a c) d R := by
  obtain ⟨xs, h1, h2⟩ := h
  exact ⟨xs, seq_put ha h1, all2_imp h2 fun x y q => q.put ha⟩
theorem rows_lst {M : MM} {f : List Int → Sw.D} {R : List (List Int)} (h : ∀ r, IsInts M (f r) r) : IsRows M (.lst (R.map f)) R := ⟨_, rfl, all2_map fun y _ => h y⟩
theorem rows_tup {M : MM} {f : List Int → Sw.D} {R : List (List Int)} (h : ∀ r, IsInts M (f r) r) : IsRows M (.tup (R.map f)) R := ⟨_, rfl, all2_map fun y _ => h y⟩
def b_is_number : Ss := (.cons (.ret (.and (.isi (.var 0) ["int"]) (.not (.isi (.var 0) ["bool"])))) .nil)
def b_are_numbers : Ss := (.cons (.ret (.and (.isi (.var 0) ["list", "tuple"]) (.bi false .all (.cons (.lc false (.call "is_number" [.at_ 0] (.cons (.var 1) .nil) .nil) (.name 1) (.seq (.var 0)) .no [1]) .nil)))) .nil)
def b_rises : Ss := (.cons (.ret (.bi false .all (.cons (.lc false (.cmp .Lt (.var 1) (.var 2)) (.tup (.cons (.name 1) (.cons (.name 2) .nil))) (.zip false (.var 0) (.slc false (.var 0) (.so (.cst (.int 1))) .no)) .no [1, 2]) .nil))) .nil)
def b_tail : Ss := (.cons (.asg (.fld (.var 0) "own_strings") (.bi false .tuple (.cons (.lc false (.bi false .tuple (.cons (.var 4) .nil)) (.name 4) (.seq (.var 1)) .no [4]) .nil))) (.cons (.asg (.fld (.var 0) "own_steps") (.bi false .tuple (.cons (.lc false (.bi false .tuple (.cons (.var 4) .nil)) (.name 4) (.seq (.var 2)) .no [4]) .nil))) (.cons (.asg (.fld (.var 0) "own_memory") (.bi false .tuple (.cons (.var 3) .nil))) .nil)))
def b_init : Ss := (.cons (.ite (.not (.call "are_strings" [.at_ 0] (.cons (.var 1) .nil) .nil)) (.cons .never .nil) .nil) (.cons (.ite (.not (.call "are_steps" [.at_ 0, .at_ 1] (.cons (.var 2) (.cons (.bi false .len (.cons (.var 1) .nil)) .nil)) .nil)) (.cons .never .nil) .nil) (.cons (.ite (.not (.call "is_memory" [.at_ 0] (.cons (.var 3) .nil) .nil)) (.cons .never .nil) .nil) b_tail)))
def b_are_strings : Ss := (.cons (.ite (.or (.not (.isi (.var 0) ["list", "tuple"])) (.cmp .Eq (.bi false .len (.cons (.var 0) .nil)) (.cst (.int 0)))) (.cons (.ret (.cst (.bl false))) .nil) .nil) (.cons (.ret (.bi false .all (.cons (.lc false (.and (.call "are_numbers" [.at_ 0] (.cons (.var 1) .nil) .nil) (.cmp .Eq (.bi false .len (.cons (.var 1) .nil)) (.bi false .len (.cons (.var 0) .nil)))) (.name 1) (.seq (.var 0)) .no [1]) .nil))) .nil))
def b_are_steps : Ss := (.cons (.ite (.or (.not (.isi (.var 0) ["list", "tuple"])) (.cmp .NotEq (.bi false .len (.cons (.var 0) .nil)) (.var 1))) (.cons (.ret (.cst (.bl false))) .nil) .nil) (.cons (.ret (.bi false .all (.cons (.lc false (.call "are_steps_of_one" [.at_ 0] (.cons (.var 2) .nil) .nil) (.name 2) (.seq (.var 0)) .no [2]) .nil))) .nil))
def b_is_memory : Ss := (.cons (.ret (.and (.call "are_numbers" [.at_ 0] (.cons (.var 0) .nil) .nil) (.and (.chain .LtE .LtE (.cst (.int 1)) (.bi false .len (.cons (.var 0) .nil)) (.cst (.int 5))) (.cmp .NotEq (.ix (.var 0) (.neg (.cst (.int 1)))) (.cst (.int 0)))))) .nil)
def b_are_steps_of_one : Ss := (.cons (.ret (.and (.call "are_numbers" [.at_ 0] (.cons (.var 0) .nil) .nil) (.and (.chain .LtE .LtE (.cst (.int 1)) (.bi false .len (.cons (.var 0) .nil)) (.cst (.int 4))) (.call "rises" [.at_ 0] (.cons (.var 0) .nil) .nil)))) .nil)
/-- the defs by which a Hall is made -/
class Halls (T : Tb) : Prop where
  num : Row T "is_number" ⟨"is_number", 1, 1, b_is_number⟩
  nums : Row T "are_numbers" ⟨"are_numbers", 1, 2, b_are_numbers⟩
  rise : Row T "rises" ⟨"rises", 1, 3, b_rises⟩
  one : Row T "are_steps_of_one" ⟨"are_steps_of_one", 1, 1, b_are_steps_of_one⟩
  steps : Row T "are_steps" ⟨"are_steps", 2, 3, b_are_steps⟩
  rows : Row T "are_strings" ⟨"are_strings", 1, 2, b_are_strings⟩
  mem : Row T "is_memory" ⟨"is_memory", 1, 1, b_is_memory⟩
  init : Row T "Hall.__init__" ⟨"Hall.__init__", 4, 5, b_init⟩
section
variable {T : Tb} [h : Halls T]
instance : Row T "is_number" ⟨"is_number", 1, 1, b_is_number⟩ := h.num
instance : Row T "are_numbers" ⟨"are_numbers", 1, 2, b_are_numbers⟩ := h.nums
instance : Row T "rises" ⟨"rises", 1, 3, b_rises⟩ := h.rise
instance : Row T "are_steps_of_one" ⟨"are_steps_of_one", 1, 1, b_are_steps_of_one⟩ := h.one
instance : Row T "are_steps" ⟨"are_steps", 2, 3, b_are_steps⟩ := h.steps
instance : Row T "are_strings" ⟨"are_strings", 1, 2, b_are_strings⟩ := h.rows
instance : Row T "is_memory" ⟨"is_memory", 1, 1, b_is_memory⟩ := h.mem
instance : Row T "Hall.__init__" ⟨"Hall.__init__", 4, 5, b_init⟩ := h.init
end
section
variable {T : Tb} {k : Nat} {M : MM} {Φ Ψ : Sw.D → MM → Prop} {d : Sw.D}
theorem is_number [Row T "is_number" ⟨"is_number", 1, 1, b_is_number⟩] {i : Int} (h : Φ (.bl true) M) : callAt T (k + 1) "is_number" [.int i] M Φ Ψ := by
  refine call_row rfl ?_
  simp [startD, s_nil, s_cons, s_asg, s_par2, s_par3, s_aug, s_augS, s_expr, s_ret, s_retN, s_ite, s_for, s_brk, s_cnt, s_pass, s_never, for_step, lc_step, e_var, e_cst, e_bin, e_neg, e_not, e_and, e_or, e_cmp, e_chain, e_ife, e_tup, e_lst, e_ix, e_slc, e_rev, e_fld, e_call, e_meth, e_make, e_bi, e_bm, e_isi, e_lc, e_frz, e_sp, cont_nil, wEs, wG, wGs, wI, wIf, wO, ge0, geS, wIx, wCmp, wBin, wAug, wBi, wBm, arrD, sq_lst, sq_frl, sq_tup, lq_lst, isi_int, isi_bl, isi_str, isi_non, isi_lst, isi_frl, isi_tup, sl_tup, sl_lst, sl_frl, rv_tup, rv_lst, rv_frl, st_lst, st_frl, st_tup, mset_same, bxs_at, newL, wipeD, isN_non, isN_int, isN_bl, isN_str, isN_tup, isN_lst, isN_obj, rng_irg, isTy, b_is_number, isi_int]
  exact rtn_self h
theorem are_numbers [Halls T] {ns : List Int} (hs : IsInts M d ns) (hl : ns.length ≤ 1000000) (h : Φ (.bl true) M) : callAt T (k + 2) "are_numbers" [d] M Φ Ψ := by
  refine call_row rfl ?_
  have hs' := hs
  unfold IsInts at hs'
  simp [startD, s_nil, s_cons, s_asg, s_par2, s_par3, s_aug, s_augS, s_expr, s_ret, s_retN, s_ite, s_for, s_brk, s_cnt, s_pass, s_never, for_step, lc_step, e_var, e_cst, e_bin, e_neg, e_not, e_and, e_or, e_cmp, e_chain, e_ife, e_tup, e_lst, e_ix, e_slc, e_rev, e_fld, e_call, e_meth, e_make, e_bi, e_bm, e_isi, e_lc, e_frz, e_sp, cont_nil, wEs, wG, wGs, wI, wIf, wO, ge0, geS, wIx, wCmp, wBin, wAug, wBi, wBm, arrD, sq_lst, sq_frl, sq_tup, lq_lst, isi_int, isi_bl, isi_str, isi_non, isi_lst, isi_frl, isi_tup, sl_tup, sl_lst, sl_frl, rv_tup, rv_lst, rv_frl, st_lst, st_frl, st_tup, mset_same, bxs_at, newL, wipeD, isN_non, isN_int, isN_bl, isN_str, isN_tup, isN_lst, isN_obj, rng_irg, isTy, b_are_numbers]
  refine isi_seq hs ?_
  simp [hs', small_size hl]
  refine lc_map (fun _ => .bl true) (stays_self hs) (fun x hx kk hk => ?_) ?_
  · simp [startD, s_nil, s_cons, s_asg, s_par2, s_par3, s_aug, s_augS, s_expr, s_ret, s_retN, s_ite, s_for, s_brk, s_cnt, s_pass, s_never, for_step, lc_step, e_var, e_cst, e_bin, e_neg, e_not, e_and, e_or, e_cmp, e_chain, e_ife, e_tup, e_lst, e_ix, e_slc, e_rev, e_fld, e_call, e_meth, e_make, e_bi, e_bm, e_isi, e_lc, e_frz, e_sp, cont_nil, wEs, wG, wGs, wI, wIf, wO, ge0, geS, wIx, wCmp, wBin, wAug, wBi, wBm, arrD, sq_lst, sq_frl, sq_tup, lq_lst, isi_int, isi_bl, isi_str, isi_non, isi_lst, isi_frl, isi_tup, sl_tup, sl_lst, sl_frl, rv_tup, rv_lst, rv_frl, st_lst, st_frl, st_tup, mset_same, bxs_at, newL, wipeD, isN_non, isN_int, isN_bl, isN_str, isN_tup, isN_lst, isN_obj, rng_irg, isTy]
    exact is_number hk
  · obtain ⟨e1, e2⟩ := all_true ns
    simp [startD, s_nil, s_cons, s_asg, s_par2, s_par3, s_aug, s_augS, s_expr, s_ret, s_retN, s_ite, s_for, s_brk, s_cnt, s_pass, s_never, for_step, lc_step, e_var, e_cst, e_bin, e_neg, e_not, e_and, e_or, e_cmp, e_chain, e_ife, e_tup, e_lst, e_ix, e_slc, e_rev, e_fld, e_call, e_meth, e_make, e_bi, e_bm, e_isi, e_lc, e_frz, e_sp, cont_nil, wEs, wG, wGs, wI, wIf, wO, ge0, geS, wIx, wCmp, wBin, wAug, wBi, wBm, arrD, sq_lst, sq_frl, sq_tup, lq_lst, isi_int, isi_bl, isi_str, isi_non, isi_lst, isi_frl, isi_tup, sl_tup, sl_lst, sl_frl, rv_tup, rv_lst, rv_frl, st_lst, st_frl, st_tup, mset_same, bxs_at, newL, wipeD, isN_non, isN_int, isN_bl, isN_str, isN_tup, isN_lst, isN_obj, rng_irg, isTy, small_le hl, e1, e2]
    exact rtn_self h
/-- each is below the next -/
def ups : List Int → Bool
  | a :: b :: r => decide (a < b) && ups (b :: r)
  | _ => true
theorem ups_zip : ∀ ns : List Int, ups ns = ((ns.zip (ns.drop 1)).map fun p => decide (p.1 < p.2)).all id
  | [] => rfl
  | [_] => rfl
  | a :: b :: r => by
    have := ups_zip (b :: r)
    simp only [ups, this]
    simp
theorem cut1 {ns : List Int} (hs : IsInts M d ns) (hl : ns.length ≤ 1000000) {Φ : Sw.D → MM → Prop} (hQ : ∀ e, IsInts M e (ns.drop 1) → Φ e M) : wSl false d (some 1) none M Φ := by
  have ec : cutD (ns.map Sw.D.int) (some 1) none = (ns.drop 1).map Sw.D.int := by
    have e1 : HT.sIx (ns.map Sw.D.int).length 0 (some 1) = min 1 (ns.map Sw.D.int).length := by
      exact HT.sIx_nat _ 0 1
    have e2 : HT.sIx (ns.map Sw.D.int).length (ns.map Sw.D.int).length none = (ns.map Sw.D.int).length := rfl
    unfold cutD
    rw [e1, e2]
    cases ns with
    | nil => rfl
    | cons a r => simp [List.take_of_length_le]
  have hl' : ((ns.drop 1).map Sw.D.int).length ≤ sizeLine := by have := small_size hl; simp; omega
  unfold IsInts at hs
  unfold wSl
  cases d with
  | tup xs =>
    simp only [seqOf, Option.some.injEq] at hs
    subst hs
    exact hQ _ (by rw [ec]; rfl)
  | lst xs =>
    simp only [hs]
    rw [ec]
    exact ⟨hl', hQ _ rfl⟩
  | frl xs =>
    simp only [hs]
    rw [ec]
    exact ⟨hl', hQ _ rfl⟩
  | loc a =>
    simp only [hs]
    rw [ec]
    exact ⟨hl', hQ _ rfl⟩
  | _ => cases hs
theorem rises [Row T "rises" ⟨"rises", 1, 3, b_rises⟩] {ns : List Int} (hs : IsInts M d ns) (hl : ns.length ≤ 1000000) (h : Φ (.bl (ups ns)) M) : callAt T (k + 1) "rises" [d] M Φ Ψ := by
  refine call_row rfl ?_
  simp [startD, s_nil, s_cons, s_asg, s_par2, s_par3, s_aug, s_augS, s_expr, s_ret, s_retN, s_ite, s_for, s_brk, s_cnt, s_pass, s_never, for_step, lc_step, e_var, e_cst, e_bin, e_neg, e_not, e_and, e_or, e_cmp, e_chain, e_ife, e_tup, e_lst, e_ix, e_slc, e_rev, e_fld, e_call, e_meth, e_make, e_bi, e_bm, e_isi, e_lc, e_frz, e_sp, cont_nil, wEs, wG, wGs, wI, wIf, wO, ge0, geS, wIx, wCmp, wBin, wAug, wBi, wBm, arrD, sq_lst, sq_frl, sq_tup, lq_lst, isi_int, isi_bl, isi_str, isi_non, isi_lst, isi_frl, isi_tup, sl_tup, sl_lst, sl_frl, rv_tup, rv_lst, rv_frl, st_lst, st_frl, st_tup, mset_same, bxs_at, newL, wipeD, isN_non, isN_int, isN_bl, isN_str, isN_tup, isN_lst, isN_obj, rng_irg, isTy, b_rises]
  refine cut1 hs hl fun e he => ?_
  have h1 := hs
  have h2 := he
  unfold IsInts at h1 h2
  simp only [h1, h2, pairs_map]
  refine ⟨by have := small_size hl; simp; omega, ?_⟩
  refine lc_map (fun p => .bl (decide (p.1 < p.2))) ⟨stays_self h1, stays_self h2⟩ (fun x hx kk hk => ?_) ?_
  · simp [startD, s_nil, s_cons, s_asg, s_par2, s_par3, s_aug, s_augS, s_expr, s_ret, s_retN, s_ite, s_for, s_brk, s_cnt, s_pass, s_never, for_step, lc_step, e_var, e_cst, e_bin, e_neg, e_not, e_and, e_or, e_cmp, e_chain, e_ife, e_tup, e_lst, e_ix, e_slc, e_rev, e_fld, e_call, e_meth, e_make, e_bi, e_bm, e_isi, e_lc, e_frz, e_sp, cont_nil, wEs, wG, wGs, wI, wIf, wO, ge0, geS, wIx, wCmp, wBin, wAug, wBi, wBm, arrD, sq_lst, sq_frl, sq_tup, lq_lst, isi_int, isi_bl, isi_str, isi_non, isi_lst, isi_frl, isi_tup, sl_tup, sl_lst, sl_frl, rv_tup, rv_lst, rv_frl, st_lst, st_frl, st_tup, mset_same, bxs_at, newL, wipeD, isN_non, isN_int, isN_bl, isN_str, isN_tup, isN_lst, isN_obj, rng_irg, isTy]
    exact hk
  · have e1 := bls_map (ns.zip (ns.drop 1)) fun p => decide (p.1 < p.2)
    rw [ups_zip] at h
    refine ⟨by have := small_size hl; simp; omega, ?_⟩
    simp only [List.nil_append, wBi, e1]
    exact rtn_self h
/-- one's steps -/
def StepsOk (ns : List Int) : Prop := 1 ≤ ns.length ∧ ns.length ≤ 4 ∧ ups ns = true
theorem steps_of_one [Halls T] {ns : List Int} (e : IsInts M d ns) (hs : StepsOk ns) (h : Φ (.bl true) M) : callAt T (k + 3) "are_steps_of_one" [d] M Φ Ψ := by
  obtain ⟨h1, h4, hu⟩ := hs
  refine call_row rfl ?_
  have e' := e
  unfold IsInts at e'
  simp [startD, s_nil, s_cons, s_asg, s_par2, s_par3, s_aug, s_augS, s_expr, s_ret, s_retN, s_ite, s_for, s_brk, s_cnt, s_pass, s_never, for_step, lc_step, e_var, e_cst, e_bin, e_neg, e_not, e_and, e_or, e_cmp, e_chain, e_ife, e_tup, e_lst, e_ix, e_slc, e_rev, e_fld, e_call, e_meth, e_make, e_bi, e_bm, e_isi, e_lc, e_frz, e_sp, cont_nil, wEs, wG, wGs, wI, wIf, wO, ge0, geS, wIx, wCmp, wBin, wAug, wBi, wBm, arrD, sq_lst, sq_frl, sq_tup, lq_lst, isi_int, isi_bl, isi_str, isi_non, isi_lst, isi_frl, isi_tup, sl_tup, sl_lst, sl_frl, rv_tup, rv_lst, rv_frl, st_lst, st_frl, st_tup, mset_same, bxs_at, newL, wipeD, isN_non, isN_int, isN_bl, isN_str, isN_tup, isN_lst, isN_obj, rng_irg, isTy, b_are_steps_of_one]
  refine are_numbers e (by omega) ?_
  simp [e', h4, show (1 : Int) ≤ ns.length by omega, show (ns.length : Int) ≤ 4 by omega]
  refine rises e (by omega) ?_
  rw [hu]
  exact rtn_self h
theorem steps_ok [Halls T] {R : List (List Int)} {xs : List Sw.D} (hs : seqOf M d = some xs) (ha : All2 (IsInts M) xs R) (hl : R.length ≤ 1000) (hx : ∀ r ∈ R, StepsOk r) {n : Int} (hn : n = R.length) (h : Φ (.bl true) M) : callAt T (k + 4) "are_steps" [d, .int n] M Φ Ψ := by
  have hxl := ha.len
  refine call_row rfl ?_
  subst hn
  simp [startD, s_nil, s_cons, s_asg, s_par2, s_par3, s_aug, s_augS, s_expr, s_ret, s_retN, s_ite, s_for, s_brk, s_cnt, s_pass, s_never, for_step, lc_step, e_var, e_cst, e_bin, e_neg, e_not, e_and, e_or, e_cmp, e_chain, e_ife, e_tup, e_lst, e_ix, e_slc, e_rev, e_fld, e_call, e_meth, e_make, e_bi, e_bm, e_isi, e_lc, e_frz, e_sp, cont_nil, wEs, wG, wGs, wI, wIf, wO, ge0, geS, wIx, wCmp, wBin, wAug, wBi, wBm, arrD, sq_lst, sq_frl, sq_tup, lq_lst, isi_int, isi_bl, isi_str, isi_non, isi_lst, isi_frl, isi_tup, sl_tup, sl_lst, sl_frl, rv_tup, rv_lst, rv_frl, st_lst, st_frl, st_tup, mset_same, bxs_at, newL, wipeD, isN_non, isN_int, isN_bl, isN_str, isN_tup, isN_lst, isN_obj, rng_irg, isTy, b_are_steps]
  refine isi_seq hs ?_
  simp [hs, hxl]
  refine cont_step ?_
  simp [startD, s_nil, s_cons, s_asg, s_par2, s_par3, s_aug, s_augS, s_expr, s_ret, s_retN, s_ite, s_for, s_brk, s_cnt, s_pass, s_never, for_step, lc_step, e_var, e_cst, e_bin, e_neg, e_not, e_and, e_or, e_cmp, e_chain, e_ife, e_tup, e_lst, e_ix, e_slc, e_rev, e_fld, e_call, e_meth, e_make, e_bi, e_bm, e_isi, e_lc, e_frz, e_sp, cont_nil, wEs, wG, wGs, wI, wIf, wO, ge0, geS, wIx, wCmp, wBin, wAug, wBi, wBm, arrD, sq_lst, sq_frl, sq_tup, lq_lst, isi_int, isi_bl, isi_str, isi_non, isi_lst, isi_frl, isi_tup, sl_tup, sl_lst, sl_frl, rv_tup, rv_lst, rv_frl, st_lst, st_frl, st_tup, mset_same, bxs_at, newL, wipeD, isN_non, isN_int, isN_bl, isN_str, isN_tup, isN_lst, isN_obj, rng_irg, isTy, hs, small_size (n := xs.length) (by omega)]
  refine lc_a2 (fun _ => .bl true) (stays_self hs) ha (fun x y hm hy hr kk hk => ?_) ?_
  · simp [startD, s_nil, s_cons, s_asg, s_par2, s_par3, s_aug, s_augS, s_expr, s_ret, s_retN, s_ite, s_for, s_brk, s_cnt, s_pass, s_never, for_step, lc_step, e_var, e_cst, e_bin, e_neg, e_not, e_and, e_or, e_cmp, e_chain, e_ife, e_tup, e_lst, e_ix, e_slc, e_rev, e_fld, e_call, e_meth, e_make, e_bi, e_bm, e_isi, e_lc, e_frz, e_sp, cont_nil, wEs, wG, wGs, wI, wIf, wO, ge0, geS, wIx, wCmp, wBin, wAug, wBi, wBm, arrD, sq_lst, sq_frl, sq_tup, lq_lst, isi_int, isi_bl, isi_str, isi_non, isi_lst, isi_frl, isi_tup, sl_tup, sl_lst, sl_frl, rv_tup, rv_lst, rv_frl, st_lst, st_frl, st_tup, mset_same, bxs_at, newL, wipeD, isN_non, isN_int, isN_bl, isN_str, isN_tup, isN_lst, isN_obj, rng_irg, isTy]
    exact steps_of_one hr (hx y hy) hk
  · obtain ⟨e1, e2⟩ := all_true R
    simp [startD, s_nil, s_cons, s_asg, s_par2, s_par3, s_aug, s_augS, s_expr, s_ret, s_retN, s_ite, s_for, s_brk, s_cnt, s_pass, s_never, for_step, lc_step, e_var, e_cst, e_bin, e_neg, e_not, e_and, e_or, e_cmp, e_chain, e_ife, e_tup, e_lst, e_ix, e_slc, e_rev, e_fld, e_call, e_meth, e_make, e_bi, e_bm, e_isi, e_lc, e_frz, e_sp, cont_nil, wEs, wG, wGs, wI, wIf, wO, ge0, geS, wIx, wCmp, wBin, wAug, wBi, wBm, arrD, sq_lst, sq_frl, sq_tup, lq_lst, isi_int, isi_bl, isi_str, isi_non, isi_lst, isi_frl, isi_tup, sl_tup, sl_lst, sl_frl, rv_tup, rv_lst, rv_frl, st_lst, st_frl, st_tup, mset_same, bxs_at, newL, wipeD, isN_non, isN_int, isN_bl, isN_str, isN_tup, isN_lst, isN_obj, rng_irg, isTy, small_le (n := R.length) (by omega), e1, e2]
    exact rtn_self h
theorem strings_ok [Halls T] {R : List (List Int)} {xs : List Sw.D} (hs : seqOf M d = some xs) (ha : All2 (IsInts M) xs R) (h0 : R ≠ []) (hl : R.length ≤ 1000) (hx : ∀ r ∈ R, r.length = R.length) (h : Φ (.bl true) M) : callAt T (k + 3) "are_strings" [d] M Φ Ψ := by
  have hxl := ha.len
  have h0' : xs ≠ [] := fun e => by
    rw [e] at hxl
    exact h0 (List.length_eq_zero_iff.mp (by simpa using hxl))
  refine call_row rfl ?_
  simp [startD, s_nil, s_cons, s_asg, s_par2, s_par3, s_aug, s_augS, s_expr, s_ret, s_retN, s_ite, s_for, s_brk, s_cnt, s_pass, s_never, for_step, lc_step, e_var, e_cst, e_bin, e_neg, e_not, e_and, e_or, e_cmp, e_chain, e_ife, e_tup, e_lst, e_ix, e_slc, e_rev, e_fld, e_call, e_meth, e_make, e_bi, e_bm, e_isi, e_lc, e_frz, e_sp, cont_nil, wEs, wG, wGs, wI, wIf, wO, ge0, geS, wIx, wCmp, wBin, wAug, wBi, wBm, arrD, sq_lst, sq_frl, sq_tup, lq_lst, isi_int, isi_bl, isi_str, isi_non, isi_lst, isi_frl, isi_tup, sl_tup, sl_lst, sl_frl, rv_tup, rv_lst, rv_frl, st_lst, st_frl, st_tup, mset_same, bxs_at, newL, wipeD, isN_non, isN_int, isN_bl, isN_str, isN_tup, isN_lst, isN_obj, rng_irg, isTy, b_are_strings]
  refine isi_seq hs ?_
  simp [hs, h0']
  refine cont_step ?_
  simp [startD, s_nil, s_cons, s_asg, s_par2, s_par3, s_aug, s_augS, s_expr, s_ret, s_retN, s_ite, s_for, s_brk, s_cnt, s_pass, s_never, for_step, lc_step, e_var, e_cst, e_bin, e_neg, e_not, e_and, e_or, e_cmp, e_chain, e_ife, e_tup, e_lst, e_ix, e_slc, e_rev, e_fld, e_call, e_meth, e_make, e_bi, e_bm, e_isi, e_lc, e_frz, e_sp, cont_nil, wEs, wG, wGs, wI, wIf, wO, ge0, geS, wIx, wCmp, wBin, wAug, wBi, wBm, arrD, sq_lst, sq_frl, sq_tup, lq_lst, isi_int, isi_bl, isi_str, isi_non, isi_lst, isi_frl, isi_tup, sl_tup, sl_lst, sl_frl, rv_tup, rv_lst, rv_frl, st_lst, st_frl, st_tup, mset_same, bxs_at, newL, wipeD, isN_non, isN_int, isN_bl, isN_str, isN_tup, isN_lst, isN_obj, rng_irg, isTy, hs, small_size (n := xs.length) (by omega)]
  refine lc_a2 (fun _ => .bl true) (stays_self hs) ha (fun x y hm hy hr kk hk => ?_) ?_
  · have hn2 := hx y hy
    have hr' := hr
    unfold IsInts at hr'
    simp [startD, s_nil, s_cons, s_asg, s_par2, s_par3, s_aug, s_augS, s_expr, s_ret, s_retN, s_ite, s_for, s_brk, s_cnt, s_pass, s_never, for_step, lc_step, e_var, e_cst, e_bin, e_neg, e_not, e_and, e_or, e_cmp, e_chain, e_ife, e_tup, e_lst, e_ix, e_slc, e_rev, e_fld, e_call, e_meth, e_make, e_bi, e_bm, e_isi, e_lc, e_frz, e_sp, cont_nil, wEs, wG, wGs, wI, wIf, wO, ge0, geS, wIx, wCmp, wBin, wAug, wBi, wBm, arrD, sq_lst, sq_frl, sq_tup, lq_lst, isi_int, isi_bl, isi_str, isi_non, isi_lst, isi_frl, isi_tup, sl_tup, sl_lst, sl_frl, rv_tup, rv_lst, rv_frl, st_lst, st_frl, st_tup, mset_same, bxs_at, newL, wipeD, isN_non, isN_int, isN_bl, isN_str, isN_tup, isN_lst, isN_obj, rng_irg, isTy]
    refine are_numbers hr (by omega) ?_
    simp [hr', hs, hn2, hxl]
    exact hk
  · obtain ⟨e1, e2⟩ := all_true R
    simp [startD, s_nil, s_cons, s_asg, s_par2, s_par3, s_aug, s_augS, s_expr, s_ret, s_retN, s_ite, s_for, s_brk, s_cnt, s_pass, s_never, for_step, lc_step, e_var, e_cst, e_bin, e_neg, e_not, e_and, e_or, e_cmp, e_chain, e_ife, e_tup, e_lst, e_ix, e_slc, e_rev, e_fld, e_call, e_meth, e_make, e_bi, e_bm, e_isi, e_lc, e_frz, e_sp, cont_nil, wEs, wG, wGs, wI, wIf, wO, ge0, geS, wIx, wCmp, wBin, wAug, wBi, wBm, arrD, sq_lst, sq_frl, sq_tup, lq_lst, isi_int, isi_bl, isi_str, isi_non, isi_lst, isi_frl, isi_tup, sl_tup, sl_lst, sl_frl, rv_tup, rv_lst, rv_frl, st_lst, st_frl, st_tup, mset_same, bxs_at, newL, wipeD, isN_non, isN_int, isN_bl, isN_str, isN_tup, isN_lst, isN_obj, rng_irg, isTy, small_le (n := R.length) (by omega), e1, e2]
    exact rtn_self h
def MemOk (ns : List Int) : Prop := ns ≠ [] ∧ ns.length ≤ 5 ∧ ns.getLast? ≠ some 0
theorem memory_ok [Halls T] {ns : List Int} (hs : IsInts M d ns) (hm : MemOk ns) (h : Φ (.bl true) M) : callAt T (k + 3) "is_memory" [d] M Φ Ψ := by
  obtain ⟨h0, hl, hz⟩ := hm
  have hp : 0 < ns.length := List.length_pos_iff.mpr h0
  rw [List.getLast?_eq_some_getLast h0] at hz
  have hz' : ns.getLast h0 ≠ 0 := fun e => hz (by rw [e])
  have hs' := hs
  unfold IsInts at hs'
  refine call_row rfl ?_
  have at1 : L2.atI (ns.map Sw.D.int) (-1) = some (.int (ns.getLast h0)) := by
    unfold L2.atI L2.ixN
    rw [if_neg (by decide), if_pos (by simp; omega)]
    have : ((-1 : Int) + ((ns.map Sw.D.int).length : Int)).toNat = ns.length - 1 := by simp; omega
    simp only [Option.bind_some]
    rw [this, List.getElem?_map, List.getLast_eq_getElem, List.getElem?_eq_getElem (by omega)]
    rfl
  simp [b_is_memory, startD, wSs, wS, wE, wEs, ge0, geS, arrD]
  refine are_numbers hs (by omega) ?_
  simp [wBi, hs', wCmp, wIx, atD, at1, hz', show (1 : Int) ≤ ns.length by omega, show (ns.length : Int) ≤ 5 by omega]
  exact rtn_self h
theorem n12 : ¬ (("own_strings" : Str) = "own_steps") := by decide +kernel
theorem n13 : ¬ (("own_strings" : Str) = "own_memory") := by decide +kernel
theorem n23 : ¬ (("own_steps" : Str) = "own_memory") := by decide +kernel
/-- a hall's numbers -/
structure HallV where
  ss : List (List Int)
  st : List (List Int)
  mm : List Int
  deriving DecidableEq
structure HallV.Ok (h : HallV) : Prop where
  n0 : h.ss ≠ []
  n1 : h.ss.length ≤ 1000
  r : ∀ r ∈ h.ss, r.length = h.ss.length
  n2 : h.st.length = h.ss.length
  s : ∀ r ∈ h.st, StepsOk r
  m : MemOk h.mm
def hallF (h : HallV) : List (Str × Sw.D) := [("own_strings", .tup (h.ss.map tI)), ("own_steps", .tup (h.st.map tI)), ("own_memory", tI h.mm)]
def hallD (h : HallV) : Sw.D := .obj "Hall" (hallF h)
theorem init_ok [Halls T] {a : Addr} {d1 d2 d3 : Sw.D} {V : HallV} (ha : M a = none) (h1 : IsRows M d1 V.ss) (h2 : IsRows M d2 V.st) (h3 : IsInts M d3 V.mm) (hh : V.Ok)
    (h : Φ .non (mset M a (.ins "Hall" (hallF V)))) : callAt T (k + 5) "Hall.__init__" [.loc a, d1, d2, d3] (mset M a (.ins "Hall" [])) Φ Ψ := by
  have tupL : ∀ (c : Cell) (R : List (List Int)) (d : Sw.D) (i : Nat) (Γ : Sw.Env) (sm : Sm) (Q : Sw.D → MM → Prop), R.length ≤ 1000 → getE Γ i = some d → IsRows M d R → Γ.length = 5 → i < 4 → Q (.tup (R.map tI)) (mset M a c) →
      wE sm (.bi false .tuple (.cons (.lc false (.bi false .tuple (.cons (.var 4) .nil)) (.name 4) (.seq (.var i)) .no [4]) .nil)) Γ (mset M a c) Q := fun c R d i Γ sm Q hz hg hr hΓ hi hQ => by
    obtain ⟨zs, hs, hR⟩ := hr.put (a := a) (c := c) ha
    have hzl := hR.len
    simp [wE, wEs, wI, hg, hs, small_size (n := zs.length) (by omega)]
    refine lc_a2 (fun z => tI z) (stays_self hs) hR (fun x y hm hy hr kk hk => ?_) ?_
    · have e4 : getE ((wipeD Γ [4]).set 4 (some x)) 4 = some x := by
        match Γ, hΓ with
        | [_, _, _, _, _], _ => rfl
      have ew : wipeD ((wipeD Γ [4]).set 4 (some x)) [4] = wipeD Γ [4] := by
        match Γ, hΓ with
        | [_, _, _, _, _], _ => rfl
      unfold IsInts at hr
      simp only [wG, wIf, if_true, wE, wEs, e4, wBi, hr]
      exact ⟨ew, hk⟩
    · simp only [List.nil_append, newL, wBi, seqOf]
      exact ⟨by simpa using small_le (n := R.length) (by omega), hQ⟩
  obtain ⟨xs, s1, a1⟩ := h1.put (a := a) (c := .ins "Hall" []) ha
  obtain ⟨ys, s2, a2⟩ := h2.put (a := a) (c := .ins "Hall" []) ha
  have l1 := a1.len
  have l2 := a2.len
  have n0 := hh.n0
  have n1 := hh.n1
  have n2 := hh.n2
  refine call_row rfl ?_
  simp [startD, s_nil, s_cons, s_asg, s_par2, s_par3, s_aug, s_augS, s_expr, s_ret, s_retN, s_ite, s_for, s_brk, s_cnt, s_pass, s_never, for_step, lc_step, e_var, e_cst, e_bin, e_neg, e_not, e_and, e_or, e_cmp, e_chain, e_ife, e_tup, e_lst, e_ix, e_slc, e_rev, e_fld, e_call, e_meth, e_make, e_bi, e_bm, e_isi, e_lc, e_frz, e_sp, cont_nil, wEs, wG, wGs, wI, wIf, wO, ge0, geS, wIx, wCmp, wBin, wAug, wBi, wBm, arrD, sq_lst, sq_frl, sq_tup, lq_lst, isi_int, isi_bl, isi_str, isi_non, isi_lst, isi_frl, isi_tup, sl_tup, sl_lst, sl_frl, rv_tup, rv_lst, rv_frl, st_lst, st_frl, st_tup, mset_same, bxs_at, newL, wipeD, isN_non, isN_int, isN_bl, isN_str, isN_tup, isN_lst, isN_obj, rng_irg, isTy, b_init]
  refine strings_ok s1 a1 n0 n1 hh.r ?_
  simp
  refine cont_step ?_
  simp [startD, s_nil, s_cons, s_asg, s_par2, s_par3, s_aug, s_augS, s_expr, s_ret, s_retN, s_ite, s_for, s_brk, s_cnt, s_pass, s_never, for_step, lc_step, e_var, e_cst, e_bin, e_neg, e_not, e_and, e_or, e_cmp, e_chain, e_ife, e_tup, e_lst, e_ix, e_slc, e_rev, e_fld, e_call, e_meth, e_make, e_bi, e_bm, e_isi, e_lc, e_frz, e_sp, cont_nil, wEs, wG, wGs, wI, wIf, wO, ge0, geS, wIx, wCmp, wBin, wAug, wBi, wBm, arrD, sq_lst, sq_frl, sq_tup, lq_lst, isi_int, isi_bl, isi_str, isi_non, isi_lst, isi_frl, isi_tup, sl_tup, sl_lst, sl_frl, rv_tup, rv_lst, rv_frl, st_lst, st_frl, st_tup, mset_same, bxs_at, newL, wipeD, isN_non, isN_int, isN_bl, isN_str, isN_tup, isN_lst, isN_obj, rng_irg, isTy, s1]
  refine steps_ok s2 a2 (by omega) hh.s (by omega) ?_
  simp
  refine cont_step ?_
  simp [startD, s_nil, s_cons, s_asg, s_par2, s_par3, s_aug, s_augS, s_expr, s_ret, s_retN, s_ite, s_for, s_brk, s_cnt, s_pass, s_never, for_step, lc_step, e_var, e_cst, e_bin, e_neg, e_not, e_and, e_or, e_cmp, e_chain, e_ife, e_tup, e_lst, e_ix, e_slc, e_rev, e_fld, e_call, e_meth, e_make, e_bi, e_bm, e_isi, e_lc, e_frz, e_sp, cont_nil, wEs, wG, wGs, wI, wIf, wO, ge0, geS, wIx, wCmp, wBin, wAug, wBi, wBm, arrD, sq_lst, sq_frl, sq_tup, lq_lst, isi_int, isi_bl, isi_str, isi_non, isi_lst, isi_frl, isi_tup, sl_tup, sl_lst, sl_frl, rv_tup, rv_lst, rv_frl, st_lst, st_frl, st_tup, mset_same, bxs_at, newL, wipeD, isN_non, isN_int, isN_bl, isN_str, isN_tup, isN_lst, isN_obj, rng_irg, isTy]
  refine memory_ok (h3.put ha) hh.m ?_
  simp
  rw [b_tail]
  simp only [cont, wSs, wS]
  refine tupL _ V.ss d1 1 [some (.loc a), some d1, some d2, some d3, none] _ _ n1 rfl h1 rfl (by decide) ?_
  simp only [wG, wE, ge0, wSetF, mset_same, setF, mset_mset, List.length_nil]
  refine ⟨by decide, ?_⟩
  refine tupL _ V.st d2 2 [some (.loc a), some d1, some d2, some d3, none] _ _ (by omega) rfl h2 rfl (by decide) ?_
  simp only [wG, wE, ge0, wSetF, mset_same, setF, mset_mset, if_neg n12]
  refine ⟨by simp, ?_⟩
  have h3' := h3.put (a := a) (c := .ins "Hall" [("own_strings", .tup (V.ss.map tI)), ("own_steps", .tup (V.st.map tI))]) ha
  unfold IsInts at h3'
  simp only [wE, wEs, show getE [some (Sw.D.loc a), some d1, some d2, some d3, none] 3 = some d3 from rfl, wBi, h3', wG, ge0, wSetF, mset_same, setF, mset_mset, if_neg n13, if_neg n23]
  exact ⟨by simp, rtn_self h⟩
/-- Hall(..), by values -/
theorem make_ok [Halls T] {d1 d2 d3 : Sw.D} {V : HallV} (h1 : IsRows M d1 V.ss) (h2 : IsRows M d2 V.st) (h3 : IsInts M d3 V.mm) (hh : V.Ok) (h : Φ (hallD V) M) : ∀ a, M a = none →
    callAt T (k + 5) "Hall.__init__" [.loc a, d1, d2, d3] (mset M a (.ins "Hall" [])) (fun r M2 => isNon r = true ∧ if false = true then Φ (.loc a) M2 else frzD 4 (.loc a) M2 Φ) Ψ := fun a ha => by
  refine init_ok ha h1 h2 h3 hh ⟨rfl, ?_⟩
  rw [if_neg Bool.false_ne_true]
  simp only [frzD, mset_same, hallF, List.map, frzL, List.nil_append, List.cons_append]
  refine ⟨trivial, ?_⟩
  rw [mdel_mset ha]
  exact h
theorem make_hall [Halls T] {d1 d2 d3 : Sw.D} {V : HallV} (h1 : IsRows M d1 V.ss) (h2 : IsRows M d2 V.st) (h3 : IsInts M d3 V.mm) (hh : V.Ok) (h : Φ (hallD V) M) : ∀ a, M a = none →
    callAt T (k + 5) "Hall.__init__" [.loc a, d1, d2, d3] (mset M a (.ins "Hall" [])) (fun r M2 => isNon r = true ∧ frzD 4 (.loc a) M2 Φ) Ψ := fun a ha => by
  refine init_ok ha h1 h2 h3 hh ⟨rfl, ?_⟩
  simp only [frzD, mset_same, hallF, List.map, frzL, List.nil_append, List.cons_append]
  refine ⟨trivial, ?_⟩
  rw [mdel_mset ha]
  exact h
end
end Pg
set_option maxRecDepth 100000
set_option maxHeartbeats 1000000
/-! Pc: the laws' own shared defs by contract: draws, sameness. -/
namespace Pg
open PySem Sw
def takeC (m a b c : Int) : Ss := (.cons (.ite (.cmp .Gt (.ix (.var 0) (.cst (.int 0))) (.cst (.int 0))) (.cons (.asg (.name 3) (.bin false .Mod (.ix (.var 0) (.cst (.int 0))) (.var 1))) (.cons (.asg (.sub (.var 0) (.cst (.int 0))) (.bin false .FloorDiv (.ix (.var 0) (.cst (.int 0))) (.var 1))) (.cons (.ret (.var 3)) .nil))) .nil) (.cons (.asg (.sub (.var 0) (.cst (.int 2))) (.bin false .Add (.ix (.var 0) (.cst (.int 2))) (.cst (.int 1)))) (.cons (.asg (.name 2) (.bin false .Mod (.bin false .Pow (.bin false .Add (.ix (.var 0) (.cst (.int 1))) (.bin false .Mult (.cst (.int m)) (.ix (.var 0) (.cst (.int 2))))) (.cst (.int 5))) (.cst (.int 2147483647)))) (.cons (.ret (.bin false .Mod (.bin false .FloorDiv (.bin false .Mod (.bin false .Add (.bin false .Mult (.var 2) (.bin false .Add (.bin false .Mod (.var 2) (.cst (.int a))) (.cst (.int b)))) (.bin false .Mult (.ix (.var 0) (.cst (.int 2))) (.cst (.int c)))) (.cst (.int 2147483629))) (.cst (.int 64))) (.var 1))) .nil))))
def box1 : Ss := (.cons (.asg (.name 2) (.cst (.int 0))) (.cons (.ite (.cmp .Lt (.var 1) (.bi false .len (.cons (.var 0) .nil))) (.cons (.asg (.name 2) (.ix (.var 0) (.var 1))) .nil) .nil) (.cons (.ret (.lst true (.cons (.bin false .Mult (.bi false .abs_ (.cons (.var 2) .nil)) (.bi false .int_ (.cons (.cmp .GtE (.bi false .abs_ (.cons (.var 2) .nil)) (.bin false .Pow (.cst (.int 10)) (.cst (.int 18)))) .nil))) (.cons (.bin false .Add (.bin false .Add (.bin false .Mod (.var 2) (.cst (.int 2147483629))) (.bin false .Mult (.cst (.int 7919)) (.var 1))) (.cst (.int 11))) (.cons (.cst (.int 0)) .nil))))) .nil)))
def boxC (m a : Int) : Ss := (.cons (.asg (.name 2) (.ife (.cmp .Lt (.var 1) (.bi false .len (.cons (.var 0) .nil))) (.ix (.var 0) (.var 1)) (.cst (.int 0)))) (.cons (.ret (.lst true (.cons (.bin false .Mult (.bi false .abs_ (.cons (.var 2) .nil)) (.bi false .int_ (.cons (.cmp .GtE (.bi false .abs_ (.cons (.var 2) .nil)) (.bin false .Pow (.cst (.int 10)) (.cst (.int 18)))) .nil))) (.cons (.bin false .Add (.bin false .Add (.bin false .Mod (.var 2) (.cst (.int 2147483629))) (.bin false .Mult (.cst (.int m)) (.var 1))) (.cst (.int a))) (.cons (.cst (.int 0)) .nil))))) .nil))
def pick1 : Ss := (.cons (.ret (.ix (.var 1) (.call "_law_take" [.at_ 0, .at_ 1] (.cons (.var 0) (.cons (.bi false .len (.cons (.var 1) .nil)) .nil)) .nil))) .nil)
def same1 : Ss := (.cons (.ite (.isi (.var 1) ["list", "tuple"]) (.cons (.ite (.or (.cmp .NotEq (.isi (.var 0) ["list"]) (.isi (.var 1) ["list"])) (.cmp .NotEq (.isi (.var 0) ["tuple"]) (.isi (.var 1) ["tuple"]))) (.cons (.ret (.cst (.bl false))) .nil) .nil) (.cons (.ret (.and (.cmp .Eq (.bi false .len (.cons (.var 0) .nil)) (.bi false .len (.cons (.var 1) .nil))) (.bi false .all (.cons (.lc false (.call "_law_same" [.at_ 0, .at_ 1] (.cons (.var 2) (.cons (.var 3) .nil)) .nil) (.tup (.cons (.name 2) (.cons (.name 3) .nil))) (.zip false (.var 0) (.var 1)) .no [2, 3]) .nil)))) .nil)) .nil) (.cons (.ite (.or (.cmp .Is (.var 1) (.cst .non)) (.isi (.var 1) ["str"])) (.cons (.ret (.and (.cmp .Eq (.var 0) (.var 1)) (.cmp .Eq (.isi (.var 0) ["str"]) (.isi (.var 1) ["str"])))) .nil) .nil) (.cons (.ite (.isi (.var 1) ["bool"]) (.cons (.ret (.and (.isi (.var 0) ["bool"]) (.cmp .Eq (.var 0) (.var 1)))) .nil) .nil) (.cons (.ret (.and (.isi (.var 0) ["int"]) (.and (.not (.isi (.var 0) ["bool"])) (.cmp .Eq (.var 0) (.var 1))))) .nil))))
def same2 : Ss := (.cons (.ite (.isi (.var 1) ["list", "tuple"]) (.cons (.ite (.or (.cmp .NotEq (.isi (.var 0) ["list"]) (.isi (.var 1) ["list"])) (.cmp .NotEq (.isi (.var 0) ["tuple"]) (.isi (.var 1) ["tuple"]))) (.cons (.ret (.cst (.bl false))) .nil) .nil) (.cons (.ret (.and (.cmp .Eq (.bi false .len (.cons (.var 0) .nil)) (.bi false .len (.cons (.var 1) .nil))) (.bi false .all (.cons (.lc false (.call "_law_same" [.at_ 0, .at_ 1] (.cons (.var 2) (.cons (.var 3) .nil)) .nil) (.tup (.cons (.name 2) (.cons (.name 3) .nil))) (.zip false (.var 0) (.var 1)) .no [2, 3]) .nil)))) .nil)) .nil) (.cons (.ite (.or (.cmp .Is (.var 1) (.cst .non)) (.isi (.var 1) ["str"])) (.cons (.ret (.and (.cmp .Eq (.var 0) (.var 1)) (.cmp .Eq (.isi (.var 0) ["str"]) (.isi (.var 1) ["str"])))) .nil) .nil) (.cons (.ret (.and (.isi (.var 0) ["int"]) (.and (.cmp .Eq (.isi (.var 0) ["bool"]) (.isi (.var 1) ["bool"])) (.cmp .Eq (.var 0) (.var 1))))) .nil)))
def same3 : Ss := (.cons (.ite (.isi (.var 1) ["list", "tuple"]) (.cons (.ite (.or (.cmp .NotEq (.isi (.var 0) ["list"]) (.isi (.var 1) ["list"])) (.cmp .NotEq (.isi (.var 0) ["tuple"]) (.isi (.var 1) ["tuple"]))) (.cons (.ret (.cst (.bl false))) .nil) .nil) (.cons (.ite (.cmp .NotEq (.bi false .len (.cons (.var 0) .nil)) (.bi false .len (.cons (.var 1) .nil))) (.cons (.ret (.cst (.bl false))) .nil) .nil) (.cons (.ret (.bi false .all (.cons (.lc false (.call "_law_same" [.at_ 0, .at_ 1] (.cons (.var 2) (.cons (.var 3) .nil)) .nil) (.tup (.cons (.name 2) (.cons (.name 3) .nil))) (.zip false (.var 0) (.var 1)) .no [2, 3]) .nil))) .nil))) .nil) (.cons (.ite (.or (.cmp .Is (.var 1) (.cst .non)) (.isi (.var 1) ["str"])) (.cons (.ret (.and (.cmp .Eq (.var 0) (.var 1)) (.cmp .Eq (.isi (.var 0) ["str"]) (.isi (.var 1) ["str"])))) .nil) .nil) (.cons (.ret (.and (.isi (.var 0) ["int"]) (.and (.cmp .Eq (.isi (.var 0) ["bool"]) (.isi (.var 1) ["bool"])) (.cmp .Eq (.var 0) (.var 1))))) .nil)))
abbrev CallC := Sw.D → MM → Prop
/-- a draw -/
class CTake (T : Tb) : Prop where
  ok : ∀ (k : Nat) (M : MM) (b : Addr) (B : Box) (m : Int) (Φ Ψ : CallC), Rdy 1 B → 0 < m → m < 2 ^ 40 → (∀ n B', 0 ≤ n → n < m → Nx 1 B B' → Φ (.int n) (bxs M b B')) → callAt T (k + 1) "_law_take" [.loc b, .int m] (bxs M b B) Φ Ψ
theorem take_ok {T : Tb} [c : CTake T] {k : Nat} {M : MM} {b : Addr} {B : Box} {m : Int} {Φ Ψ : CallC} (hB : Rdy 1 B) (hm : 0 < m) (hm2 : m < 2 ^ 40) (h : ∀ n B', 0 ≤ n → n < m → Nx 1 B B' → Φ (.int n) (bxs M b B')) :
    callAt T (k + 1) "_law_take" [.loc b, .int m] (bxs M b B) Φ Ψ := c.ok k M b B m Φ Ψ hB hm hm2 h
theorem takeC_ok {T : Tb} (a b c m : Int) (hm : 0 ≤ m ∧ m < 100000) (ha : 0 < a ∧ a < 100000) (hb : 0 ≤ b ∧ b < 100) (hc : 0 ≤ c ∧ c < 100000) [Row T "_law_take" ⟨"_law_take", 2, 4, takeC m a b c⟩] : CTake T := ⟨fun k M bb B mm Φ Ψ hB h0 h1 h => by
  refine call_row rfl ?_
  obtain ⟨hu, hv, hv2, ht0, ht1⟩ := hB
  have h' : ∀ n u' t', 0 ≤ n → n < mm → t' ≤ B.t + 1 → 0 ≤ u' → 0 ≤ t' → rtn Φ (.int n) (mset M bb (.lst [.int u', .int B.v, .int t'])) := fun n u' t' g1 g2 g3 g4 g5 => rtn_self (h n ⟨u', B.v, t'⟩ g1 g2 ⟨g4, rfl, g5, by simpa using g3⟩)
  have hmt : 0 ≤ m * (B.t + 1) ∧ m * (B.t + 1) ≤ 100000 * (B.t + 1) := ⟨Int.mul_nonneg hm.1 (by omega), Int.mul_le_mul_of_nonneg_right (by omega) (by omega)⟩
  simp [startD, s_nil, s_cons, s_asg, s_par2, s_par3, s_aug, s_augS, s_expr, s_ret, s_retN, s_ite, s_for, s_brk, s_cnt, s_pass, s_never, for_step, lc_step, e_var, e_cst, e_bin, e_neg, e_not, e_and, e_or, e_cmp, e_chain, e_ife, e_tup, e_lst, e_ix, e_slc, e_rev, e_fld, e_call, e_meth, e_make, e_bi, e_bm, e_isi, e_lc, e_frz, e_sp, cont_nil, wEs, wG, wGs, wI, wIf, wO, ge0, geS, wIx, wCmp, wBin, wAug, wBi, wBm, arrD, sq_lst, sq_frl, sq_tup, lq_lst, isi_int, isi_bl, isi_str, isi_non, isi_lst, isi_frl, isi_tup, sl_tup, sl_lst, sl_frl, rv_tup, rv_lst, rv_frl, st_lst, st_frl, st_tup, mset_same, bxs_at, newL, wipeD, isN_non, isN_int, isN_bl, isN_str, isN_tup, isN_lst, isN_obj, rng_irg, isTy, wSetI, atD, L2.atI, L2.ixN, takeC, bxs, mset_mset, seqOf]
  split
  · refine ⟨h0, ?_⟩
    refine cont_step ?_
    simp [startD, s_nil, s_cons, s_asg, s_par2, s_par3, s_aug, s_augS, s_expr, s_ret, s_retN, s_ite, s_for, s_brk, s_cnt, s_pass, s_never, for_step, lc_step, e_var, e_cst, e_bin, e_neg, e_not, e_and, e_or, e_cmp, e_chain, e_ife, e_tup, e_lst, e_ix, e_slc, e_rev, e_fld, e_call, e_meth, e_make, e_bi, e_bm, e_isi, e_lc, e_frz, e_sp, cont_nil, wEs, wG, wGs, wI, wIf, wO, ge0, geS, wIx, wCmp, wBin, wAug, wBi, wBm, arrD, sq_lst, sq_frl, sq_tup, lq_lst, isi_int, isi_bl, isi_str, isi_non, isi_lst, isi_frl, isi_tup, sl_tup, sl_lst, sl_frl, rv_tup, rv_lst, rv_frl, st_lst, st_frl, st_tup, mset_same, bxs_at, newL, wipeD, isN_non, isN_int, isN_bl, isN_str, isN_tup, isN_lst, isN_obj, rng_irg, isTy, wSetI, atD, L2.atI, L2.ixN, mset_mset, seqOf]
    refine ⟨cdw h0 h1, ?_⟩
    refine cont_step ?_
    simp [startD, s_nil, s_cons, s_asg, s_par2, s_par3, s_aug, s_augS, s_expr, s_ret, s_retN, s_ite, s_for, s_brk, s_cnt, s_pass, s_never, for_step, lc_step, e_var, e_cst, e_bin, e_neg, e_not, e_and, e_or, e_cmp, e_chain, e_ife, e_tup, e_lst, e_ix, e_slc, e_rev, e_fld, e_call, e_meth, e_make, e_bi, e_bm, e_isi, e_lc, e_frz, e_sp, cont_nil, wEs, wG, wGs, wI, wIf, wO, ge0, geS, wIx, wCmp, wBin, wAug, wBi, wBm, arrD, sq_lst, sq_frl, sq_tup, lq_lst, isi_int, isi_bl, isi_str, isi_non, isi_lst, isi_frl, isi_tup, sl_tup, sl_lst, sl_frl, rv_tup, rv_lst, rv_frl, st_lst, st_frl, st_tup, mset_same, bxs_at, newL, wipeD, isN_non, isN_int, isN_bl, isN_str, isN_tup, isN_lst, isN_obj, rng_irg, isTy, wSetI, atD, L2.atI, L2.ixN, mset_mset, seqOf]
    exact h' _ _ _ (Int.emod_nonneg _ (by omega)) (Int.emod_lt_of_pos _ h0) (by omega) (Int.ediv_nonneg hu (by omega)) ht0
  · refine cont_step ?_
    simp [startD, s_nil, s_cons, s_asg, s_par2, s_par3, s_aug, s_augS, s_expr, s_ret, s_retN, s_ite, s_for, s_brk, s_cnt, s_pass, s_never, for_step, lc_step, e_var, e_cst, e_bin, e_neg, e_not, e_and, e_or, e_cmp, e_chain, e_ife, e_tup, e_lst, e_ix, e_slc, e_rev, e_fld, e_call, e_meth, e_make, e_bi, e_bm, e_isi, e_lc, e_frz, e_sp, cont_nil, wEs, wG, wGs, wI, wIf, wO, ge0, geS, wIx, wCmp, wBin, wAug, wBi, wBm, arrD, sq_lst, sq_frl, sq_tup, lq_lst, isi_int, isi_bl, isi_str, isi_non, isi_lst, isi_frl, isi_tup, sl_tup, sl_lst, sl_frl, rv_tup, rv_lst, rv_frl, st_lst, st_frl, st_tup, mset_same, bxs_at, newL, wipeD, isN_non, isN_int, isN_bl, isN_str, isN_tup, isN_lst, isN_obj, rng_irg, isTy, wSetI, atD, L2.atI, L2.ixN, mset_mset, seqOf]
    refine cont_step ?_
    simp [startD, s_nil, s_cons, s_asg, s_par2, s_par3, s_aug, s_augS, s_expr, s_ret, s_retN, s_ite, s_for, s_brk, s_cnt, s_pass, s_never, for_step, lc_step, e_var, e_cst, e_bin, e_neg, e_not, e_and, e_or, e_cmp, e_chain, e_ife, e_tup, e_lst, e_ix, e_slc, e_rev, e_fld, e_call, e_meth, e_make, e_bi, e_bm, e_isi, e_lc, e_frz, e_sp, cont_nil, wEs, wG, wGs, wI, wIf, wO, ge0, geS, wIx, wCmp, wBin, wAug, wBi, wBm, arrD, sq_lst, sq_frl, sq_tup, lq_lst, isi_int, isi_bl, isi_str, isi_non, isi_lst, isi_frl, isi_tup, sl_tup, sl_lst, sl_frl, rv_tup, rv_lst, rv_frl, st_lst, st_frl, st_tup, mset_same, bxs_at, newL, wipeD, isN_non, isN_int, isN_bl, isN_str, isN_tup, isN_lst, isN_obj, rng_irg, isTy, wSetI, atD, L2.atI, L2.ixN, mset_mset, seqOf]
    refine ⟨mulL (by omega), ⟨by omega, by omega, by omega⟩, ?_⟩
    refine cont_step ?_
    simp [startD, s_nil, s_cons, s_asg, s_par2, s_par3, s_aug, s_augS, s_expr, s_ret, s_retN, s_ite, s_for, s_brk, s_cnt, s_pass, s_never, for_step, lc_step, e_var, e_cst, e_bin, e_neg, e_not, e_and, e_or, e_cmp, e_chain, e_ife, e_tup, e_lst, e_ix, e_slc, e_rev, e_fld, e_call, e_meth, e_make, e_bi, e_bm, e_isi, e_lc, e_frz, e_sp, cont_nil, wEs, wG, wGs, wI, wIf, wO, ge0, geS, wIx, wCmp, wBin, wAug, wBi, wBm, arrD, sq_lst, sq_frl, sq_tup, lq_lst, isi_int, isi_bl, isi_str, isi_non, isi_lst, isi_frl, isi_tup, sl_tup, sl_lst, sl_frl, rv_tup, rv_lst, rv_frl, st_lst, st_frl, st_tup, mset_same, bxs_at, newL, wipeD, isN_non, isN_int, isN_bl, isN_str, isN_tup, isN_lst, isN_obj, rng_irg, isTy, wSetI, atD, L2.atI, L2.ixN, mset_mset, seqOf]
    refine ⟨ha.1, mulR ?_, mulR (by omega), cdw (by omega) (by omega), h0, h' _ _ _ (Int.emod_nonneg _ (by omega)) (Int.emod_lt_of_pos _ h0) (by omega) hu (by omega)⟩
    have := Int.emod_nonneg ((B.v + m * (B.t + 1)) ^ 5 % 2147483647) (b := a) (by omega)
    have := Int.emod_lt_of_pos ((B.v + m * (B.t + 1)) ^ 5 % 2147483647) ha.1
    omega⟩
instance {T : Tb} [Row T "_law_take" ⟨"_law_take", 2, 4, takeC 39373 40009 7 7919⟩] : CTake T := takeC_ok 40009 7 7919 39373 (by omega) (by omega) (by omega) (by omega)
instance {T : Tb} [Row T "_law_take" ⟨"_law_take", 2, 4, takeC 40591 30013 5 6899⟩] : CTake T := takeC_ok 30013 5 6899 40591 (by omega) (by omega) (by omega) (by omega)
/-- a new box -/
class CBox (T : Tb) : Prop where
  ok : ∀ (k : Nat) (M : MM) (ns : List Int) (j : Int) (Φ Ψ : CallC), 0 ≤ j → j ≤ 1000 → (∀ b B, M b = none → Rdy (2 ^ 39) B → Φ (.loc b) (bxs M b B)) → callAt T (k + 1) "_law_box" [.frl (ns.map Sw.D.int), .int j] M Φ Ψ
theorem box_ok {T : Tb} [c : CBox T] {k : Nat} {M : MM} {ns : List Int} {j : Int} {Φ Ψ : CallC} (h0 : 0 ≤ j) (h1 : j ≤ 1000) (h : ∀ b B, M b = none → Rdy (2 ^ 39) B → Φ (.loc b) (bxs M b B)) :
    callAt T (k + 1) "_law_box" [.frl (ns.map Sw.D.int), .int j] M Φ Ψ := c.ok k M ns j Φ Ψ h0 h1 h
theorem box_key {M : MM} {Φ : CallC} {m a : Int} (hm : 0 ≤ m ∧ m < 100000) (ha : 0 ≤ a ∧ a < 100) {j : Int} (h0 : 0 ≤ j) (h1 : j ≤ 1000) (h : ∀ b B, M b = none → Rdy (2 ^ 39) B → Φ (.loc b) (bxs M b B)) :
    ∀ c : Int, (∀ b, M b = none → rtn Φ (.loc b) (mset M b (.lst [.int ((if c < 0 then -c else c) * (if (1000000000000000000 : Int) ≤ (if c < 0 then -c else c) then 1 else 0)), .int (c % 2147483629 + m * j + a), .int 0]))) := fun c b hb => by
  have hmt : 0 ≤ m * j ∧ m * j ≤ 100000 * j := ⟨Int.mul_nonneg hm.1 h0, Int.mul_le_mul_of_nonneg_right (by omega) h0⟩
  refine rtn_self (h b ⟨_, _, _⟩ hb ⟨?_, ?_, ?_, by simp, by simp⟩)
  · simp only
    split <;> split <;> omega
  · simp only
    omega
  · simp only
    omega
theorem natAt {ns : List Int} {j : Int} (h0 : 0 ≤ j) (hj : j < ns.length) : ∃ c, ns[j.toNat]? = some c := ⟨_, List.getElem?_eq_getElem (by omega)⟩
theorem box1_ok {T : Tb} [Row T "_law_box" ⟨"_law_box", 2, 3, box1⟩] : CBox T := ⟨fun k M ns j Φ Ψ h0 h1 h => by
  have key := box_key (Φ := Φ) (m := 7919) (a := 11) (by omega) (by omega) h0 h1 h
  refine call_row rfl ?_
  by_cases hj : j < ns.length
  · obtain ⟨c, hc⟩ := natAt h0 hj
    simp [startD, s_nil, s_cons, s_asg, s_par2, s_par3, s_aug, s_augS, s_expr, s_ret, s_retN, s_ite, s_for, s_brk, s_cnt, s_pass, s_never, for_step, lc_step, e_var, e_cst, e_bin, e_neg, e_not, e_and, e_or, e_cmp, e_chain, e_ife, e_tup, e_lst, e_ix, e_slc, e_rev, e_fld, e_call, e_meth, e_make, e_bi, e_bm, e_isi, e_lc, e_frz, e_sp, cont_nil, wEs, wG, wGs, wI, wIf, wO, ge0, geS, wIx, wCmp, wBin, wAug, wBi, wBm, arrD, sq_lst, sq_frl, sq_tup, lq_lst, isi_int, isi_bl, isi_str, isi_non, isi_lst, isi_frl, isi_tup, sl_tup, sl_lst, sl_frl, rv_tup, rv_lst, rv_frl, st_lst, st_frl, st_tup, mset_same, bxs_at, newL, wipeD, isN_non, isN_int, isN_bl, isN_str, isN_tup, isN_lst, isN_obj, rng_irg, isTy, wSetI, atD, L2.atI, L2.ixN, box1]
    refine cont_step ?_
    simp [startD, s_nil, s_cons, s_asg, s_par2, s_par3, s_aug, s_augS, s_expr, s_ret, s_retN, s_ite, s_for, s_brk, s_cnt, s_pass, s_never, for_step, lc_step, e_var, e_cst, e_bin, e_neg, e_not, e_and, e_or, e_cmp, e_chain, e_ife, e_tup, e_lst, e_ix, e_slc, e_rev, e_fld, e_call, e_meth, e_make, e_bi, e_bm, e_isi, e_lc, e_frz, e_sp, cont_nil, wEs, wG, wGs, wI, wIf, wO, ge0, geS, wIx, wCmp, wBin, wAug, wBi, wBm, arrD, sq_lst, sq_frl, sq_tup, lq_lst, isi_int, isi_bl, isi_str, isi_non, isi_lst, isi_frl, isi_tup, sl_tup, sl_lst, sl_frl, rv_tup, rv_lst, rv_frl, st_lst, st_frl, st_tup, mset_same, bxs_at, newL, wipeD, isN_non, isN_int, isN_bl, isN_str, isN_tup, isN_lst, isN_obj, rng_irg, isTy, wSetI, atD, L2.atI, L2.ixN, hj, hc, h0, show j.toNat < ns.length by omega]
    refine cont_step ?_
    simp [startD, s_nil, s_cons, s_asg, s_par2, s_par3, s_aug, s_augS, s_expr, s_ret, s_retN, s_ite, s_for, s_brk, s_cnt, s_pass, s_never, for_step, lc_step, e_var, e_cst, e_bin, e_neg, e_not, e_and, e_or, e_cmp, e_chain, e_ife, e_tup, e_lst, e_ix, e_slc, e_rev, e_fld, e_call, e_meth, e_make, e_bi, e_bm, e_isi, e_lc, e_frz, e_sp, cont_nil, wEs, wG, wGs, wI, wIf, wO, ge0, geS, wIx, wCmp, wBin, wAug, wBi, wBm, arrD, sq_lst, sq_frl, sq_tup, lq_lst, isi_int, isi_bl, isi_str, isi_non, isi_lst, isi_frl, isi_tup, sl_tup, sl_lst, sl_frl, rv_tup, rv_lst, rv_frl, st_lst, st_frl, st_tup, mset_same, bxs_at, newL, wipeD, isN_non, isN_int, isN_bl, isN_str, isN_tup, isN_lst, isN_obj, rng_irg, isTy, wSetI, atD, L2.atI, L2.ixN]
    exact ⟨⟨by decide, by decide, by decide⟩, mulR (by split <;> omega), mulR (by omega), by decide, key _⟩
  · simp [startD, s_nil, s_cons, s_asg, s_par2, s_par3, s_aug, s_augS, s_expr, s_ret, s_retN, s_ite, s_for, s_brk, s_cnt, s_pass, s_never, for_step, lc_step, e_var, e_cst, e_bin, e_neg, e_not, e_and, e_or, e_cmp, e_chain, e_ife, e_tup, e_lst, e_ix, e_slc, e_rev, e_fld, e_call, e_meth, e_make, e_bi, e_bm, e_isi, e_lc, e_frz, e_sp, cont_nil, wEs, wG, wGs, wI, wIf, wO, ge0, geS, wIx, wCmp, wBin, wAug, wBi, wBm, arrD, sq_lst, sq_frl, sq_tup, lq_lst, isi_int, isi_bl, isi_str, isi_non, isi_lst, isi_frl, isi_tup, sl_tup, sl_lst, sl_frl, rv_tup, rv_lst, rv_frl, st_lst, st_frl, st_tup, mset_same, bxs_at, newL, wipeD, isN_non, isN_int, isN_bl, isN_str, isN_tup, isN_lst, isN_obj, rng_irg, isTy, wSetI, atD, L2.atI, L2.ixN, box1]
    refine cont_step ?_
    simp [startD, s_nil, s_cons, s_asg, s_par2, s_par3, s_aug, s_augS, s_expr, s_ret, s_retN, s_ite, s_for, s_brk, s_cnt, s_pass, s_never, for_step, lc_step, e_var, e_cst, e_bin, e_neg, e_not, e_and, e_or, e_cmp, e_chain, e_ife, e_tup, e_lst, e_ix, e_slc, e_rev, e_fld, e_call, e_meth, e_make, e_bi, e_bm, e_isi, e_lc, e_frz, e_sp, cont_nil, wEs, wG, wGs, wI, wIf, wO, ge0, geS, wIx, wCmp, wBin, wAug, wBi, wBm, arrD, sq_lst, sq_frl, sq_tup, lq_lst, isi_int, isi_bl, isi_str, isi_non, isi_lst, isi_frl, isi_tup, sl_tup, sl_lst, sl_frl, rv_tup, rv_lst, rv_frl, st_lst, st_frl, st_tup, mset_same, bxs_at, newL, wipeD, isN_non, isN_int, isN_bl, isN_str, isN_tup, isN_lst, isN_obj, rng_irg, isTy, wSetI, atD, L2.atI, L2.ixN, hj]
    refine cont_step ?_
    simp [startD, s_nil, s_cons, s_asg, s_par2, s_par3, s_aug, s_augS, s_expr, s_ret, s_retN, s_ite, s_for, s_brk, s_cnt, s_pass, s_never, for_step, lc_step, e_var, e_cst, e_bin, e_neg, e_not, e_and, e_or, e_cmp, e_chain, e_ife, e_tup, e_lst, e_ix, e_slc, e_rev, e_fld, e_call, e_meth, e_make, e_bi, e_bm, e_isi, e_lc, e_frz, e_sp, cont_nil, wEs, wG, wGs, wI, wIf, wO, ge0, geS, wIx, wCmp, wBin, wAug, wBi, wBm, arrD, sq_lst, sq_frl, sq_tup, lq_lst, isi_int, isi_bl, isi_str, isi_non, isi_lst, isi_frl, isi_tup, sl_tup, sl_lst, sl_frl, rv_tup, rv_lst, rv_frl, st_lst, st_frl, st_tup, mset_same, bxs_at, newL, wipeD, isN_non, isN_int, isN_bl, isN_str, isN_tup, isN_lst, isN_obj, rng_irg, isTy, wSetI, atD, L2.atI, L2.ixN]
    refine ⟨⟨by decide, by decide, by decide⟩, mulL (by omega), mulR (by omega), by decide, fun a ha => ?_⟩
    have := key 0 a ha
    simpa using this⟩
instance {T : Tb} [Row T "_law_box" ⟨"_law_box", 2, 3, box1⟩] : CBox T := box1_ok
theorem boxC_ok {T : Tb} (m a : Int) (hm : 0 ≤ m ∧ m < 100000) (ha : 0 ≤ a ∧ a < 100) [Row T "_law_box" ⟨"_law_box", 2, 3, boxC m a⟩] : CBox T := ⟨fun k M ns j Φ Ψ h0 h1 h => by
  have key := box_key (Φ := Φ) hm ha h0 h1 h
  refine call_row rfl ?_
  by_cases hj : j < ns.length
  · obtain ⟨c, hc⟩ := natAt h0 hj
    simp [startD, s_nil, s_cons, s_asg, s_par2, s_par3, s_aug, s_augS, s_expr, s_ret, s_retN, s_ite, s_for, s_brk, s_cnt, s_pass, s_never, for_step, lc_step, e_var, e_cst, e_bin, e_neg, e_not, e_and, e_or, e_cmp, e_chain, e_ife, e_tup, e_lst, e_ix, e_slc, e_rev, e_fld, e_call, e_meth, e_make, e_bi, e_bm, e_isi, e_lc, e_frz, e_sp, cont_nil, wEs, wG, wGs, wI, wIf, wO, ge0, geS, wIx, wCmp, wBin, wAug, wBi, wBm, arrD, sq_lst, sq_frl, sq_tup, lq_lst, isi_int, isi_bl, isi_str, isi_non, isi_lst, isi_frl, isi_tup, sl_tup, sl_lst, sl_frl, rv_tup, rv_lst, rv_frl, st_lst, st_frl, st_tup, mset_same, bxs_at, newL, wipeD, isN_non, isN_int, isN_bl, isN_str, isN_tup, isN_lst, isN_obj, rng_irg, isTy, wSetI, atD, L2.atI, L2.ixN, boxC, hj, hc, h0, show j.toNat < ns.length by omega]
    refine cont_step ?_
    simp [startD, s_nil, s_cons, s_asg, s_par2, s_par3, s_aug, s_augS, s_expr, s_ret, s_retN, s_ite, s_for, s_brk, s_cnt, s_pass, s_never, for_step, lc_step, e_var, e_cst, e_bin, e_neg, e_not, e_and, e_or, e_cmp, e_chain, e_ife, e_tup, e_lst, e_ix, e_slc, e_rev, e_fld, e_call, e_meth, e_make, e_bi, e_bm, e_isi, e_lc, e_frz, e_sp, cont_nil, wEs, wG, wGs, wI, wIf, wO, ge0, geS, wIx, wCmp, wBin, wAug, wBi, wBm, arrD, sq_lst, sq_frl, sq_tup, lq_lst, isi_int, isi_bl, isi_str, isi_non, isi_lst, isi_frl, isi_tup, sl_tup, sl_lst, sl_frl, rv_tup, rv_lst, rv_frl, st_lst, st_frl, st_tup, mset_same, bxs_at, newL, wipeD, isN_non, isN_int, isN_bl, isN_str, isN_tup, isN_lst, isN_obj, rng_irg, isTy, wSetI, atD, L2.atI, L2.ixN]
    exact ⟨⟨by decide, by decide, by decide⟩, mulR (by split <;> omega), mulR (by omega), by decide, key _⟩
  · simp [startD, s_nil, s_cons, s_asg, s_par2, s_par3, s_aug, s_augS, s_expr, s_ret, s_retN, s_ite, s_for, s_brk, s_cnt, s_pass, s_never, for_step, lc_step, e_var, e_cst, e_bin, e_neg, e_not, e_and, e_or, e_cmp, e_chain, e_ife, e_tup, e_lst, e_ix, e_slc, e_rev, e_fld, e_call, e_meth, e_make, e_bi, e_bm, e_isi, e_lc, e_frz, e_sp, cont_nil, wEs, wG, wGs, wI, wIf, wO, ge0, geS, wIx, wCmp, wBin, wAug, wBi, wBm, arrD, sq_lst, sq_frl, sq_tup, lq_lst, isi_int, isi_bl, isi_str, isi_non, isi_lst, isi_frl, isi_tup, sl_tup, sl_lst, sl_frl, rv_tup, rv_lst, rv_frl, st_lst, st_frl, st_tup, mset_same, bxs_at, newL, wipeD, isN_non, isN_int, isN_bl, isN_str, isN_tup, isN_lst, isN_obj, rng_irg, isTy, wSetI, atD, L2.atI, L2.ixN, boxC, hj]
    refine cont_step ?_
    simp [startD, s_nil, s_cons, s_asg, s_par2, s_par3, s_aug, s_augS, s_expr, s_ret, s_retN, s_ite, s_for, s_brk, s_cnt, s_pass, s_never, for_step, lc_step, e_var, e_cst, e_bin, e_neg, e_not, e_and, e_or, e_cmp, e_chain, e_ife, e_tup, e_lst, e_ix, e_slc, e_rev, e_fld, e_call, e_meth, e_make, e_bi, e_bm, e_isi, e_lc, e_frz, e_sp, cont_nil, wEs, wG, wGs, wI, wIf, wO, ge0, geS, wIx, wCmp, wBin, wAug, wBi, wBm, arrD, sq_lst, sq_frl, sq_tup, lq_lst, isi_int, isi_bl, isi_str, isi_non, isi_lst, isi_frl, isi_tup, sl_tup, sl_lst, sl_frl, rv_tup, rv_lst, rv_frl, st_lst, st_frl, st_tup, mset_same, bxs_at, newL, wipeD, isN_non, isN_int, isN_bl, isN_str, isN_tup, isN_lst, isN_obj, rng_irg, isTy, wSetI, atD, L2.atI, L2.ixN]
    refine ⟨⟨by decide, by decide, by decide⟩, mulL (by omega), mulR (by omega), by decide, fun a ha => ?_⟩
    have := key 0 a ha
    simpa using this⟩
instance {T : Tb} [Row T "_law_box" ⟨"_law_box", 2, 3, boxC 7919 11⟩] : CBox T := boxC_ok 7919 11 (by omega) (by omega)
instance {T : Tb} [Row T "_law_box" ⟨"_law_box", 2, 3, boxC 6947 23⟩] : CBox T := boxC_ok 6947 23 (by omega) (by omega)
/-- one of some -/
theorem pick_ok {T : Tb} [CTake T] [Row T "_law_pick" ⟨"_law_pick", 2, 2, pick1⟩] {k : Nat} {M : MM} {b : Addr} {B : Box} {d : Sw.D} {xs : List Sw.D} {Φ Ψ : CallC} (hB : Rdy 1 B) (hs : ∀ B', seqOf (bxs M b B') d = some xs) (h0 : xs ≠ []) (hl : xs.length ≤ 1000000)
    (h : ∀ x B', x ∈ xs → Nx 1 B B' → Φ x (bxs M b B')) : callAt T (k + 2) "_law_pick" [.loc b, d] (bxs M b B) Φ Ψ := by
  have hp : 0 < xs.length := List.length_pos_iff.mpr h0
  refine call_row rfl ?_
  simp [startD, s_nil, s_cons, s_asg, s_par2, s_par3, s_aug, s_augS, s_expr, s_ret, s_retN, s_ite, s_for, s_brk, s_cnt, s_pass, s_never, for_step, lc_step, e_var, e_cst, e_bin, e_neg, e_not, e_and, e_or, e_cmp, e_chain, e_ife, e_tup, e_lst, e_ix, e_slc, e_rev, e_fld, e_call, e_meth, e_make, e_bi, e_bm, e_isi, e_lc, e_frz, e_sp, cont_nil, wEs, wG, wGs, wI, wIf, wO, ge0, geS, wIx, wCmp, wBin, wAug, wBi, wBm, arrD, sq_lst, sq_frl, sq_tup, lq_lst, isi_int, isi_bl, isi_str, isi_non, isi_lst, isi_frl, isi_tup, sl_tup, sl_lst, sl_frl, rv_tup, rv_lst, rv_frl, st_lst, st_frl, st_tup, mset_same, bxs_at, newL, wipeD, isN_non, isN_int, isN_bl, isN_str, isN_tup, isN_lst, isN_obj, rng_irg, isTy, pick1, hs]
  refine take_ok hB (by omega) (by omega) fun n B' hn hn2 hx => ?_
  have hlt : n.toNat < xs.length := by omega
  have at1 : L2.atI xs n = some xs[n.toNat] := by
    unfold L2.atI L2.ixN
    rw [if_pos hn, if_pos (by omega)]
    simp only [Option.bind_some]
    rw [List.getElem?_eq_getElem hlt]
  simp only [hs, atD, at1]
  exact rtn_self (h _ B' (List.getElem_mem hlt) hx)
/-- ints, bools, texts, None, lists and tuples of them, n deep -/
def Plain : Nat → Sw.D → Prop
  | 0, d => match d with
    | .int _ => True
    | .bl _ => True
    | .str _ => True
    | .non => True
    | _ => False
  | n + 1, d => match d with
    | .int _ => True
    | .bl _ => True
    | .str _ => True
    | .non => True
    | .lst xs => xs.length ≤ 1000000 ∧ ∀ x ∈ xs, Plain n x
    | .tup xs => xs.length ≤ 1000000 ∧ ∀ x ∈ xs, Plain n x
    | _ => False
theorem pairs_self : ∀ xs : List Sw.D, pairs xs xs = xs.map fun y => Sw.D.tup [y, y]
  | [] => rfl
  | x :: r => by simp [pairs, pairs_self r]
/-- the same is found to be the same -/
class CSame (T : Tb) : Prop where
  ok : ∀ (n k : Nat) (d : Sw.D) (M : MM) (Φ Ψ : CallC), Plain n d → Φ (.bl true) M → callAt T (k + n + 1) "_law_same" [d, d] M Φ Ψ
theorem same_ok {T : Tb} [c : CSame T] (n : Nat) {k : Nat} {d e : Sw.D} {M : MM} {Φ Ψ : CallC} (hd : Plain n d) (he : e = d) (h : Φ (.bl true) M) : callAt T (k + n + 1) "_law_same" [d, e] M Φ Ψ := by
  subst he
  exact c.ok n k _ M Φ Ψ hd h
theorem same_zip {xs : List Sw.D} {M : MM} {step : Sw.D → MM → (Option Sw.D → MM → Prop) → Prop} {Φ : CallC} (hl : xs.length ≤ 1000000) (hs : ∀ y ∈ xs, ∀ kk : Option Sw.D → MM → Prop, kk (some (.bl true)) M → step (.tup [y, y]) M kk) (h : Φ (.bl true) M) :
    (pairs xs xs).length < sizeLine ∧ lcRun (fun _ => True) step (pairs xs xs) [] M fun ds M2 => ds.length ≤ sizeLine ∧ (match blsOf ds with | some bs => Φ (.bl (bs.all id)) M2 | none => False) := by
  rw [pairs_self]
  refine ⟨by have := small_size hl; simpa using this, ?_⟩
  refine lc_map (fun _ => .bl true) trivial (fun y hy kk hk => hs y hy kk hk) ?_
  obtain ⟨e1, e2⟩ := all_true xs
  simp only [List.nil_append]
  refine ⟨by have := small_le hl; simpa using this, ?_⟩
  rw [e1]
  simp only [e2]
  exact h
instance same1_ok {T : Tb} [Row T "_law_same" ⟨"_law_same", 2, 4, same1⟩] : CSame T := ⟨fun n => by
  induction n with
  | zero =>
    intro k d M Φ Ψ hd h
    refine call_row rfl ?_
    cases d with
    | int i => simp [startD, s_nil, s_cons, s_asg, s_par2, s_par3, s_aug, s_augS, s_expr, s_ret, s_retN, s_ite, s_for, s_brk, s_cnt, s_pass, s_never, for_step, lc_step, e_var, e_cst, e_bin, e_neg, e_not, e_and, e_or, e_cmp, e_chain, e_ife, e_tup, e_lst, e_ix, e_slc, e_rev, e_fld, e_call, e_meth, e_make, e_bi, e_bm, e_isi, e_lc, e_frz, e_sp, cont_nil, wEs, wG, wGs, wI, wIf, wO, ge0, geS, wIx, wCmp, wBin, wAug, wBi, wBm, arrD, sq_lst, sq_frl, sq_tup, lq_lst, isi_int, isi_bl, isi_str, isi_non, isi_lst, isi_frl, isi_tup, sl_tup, sl_lst, sl_frl, rv_tup, rv_lst, rv_frl, st_lst, st_frl, st_tup, mset_same, bxs_at, newL, wipeD, isN_non, isN_int, isN_bl, isN_str, isN_tup, isN_lst, isN_obj, rng_irg, isTy, cont_cons, same1]; exact rtn_self h
    | bl i => simp [startD, s_nil, s_cons, s_asg, s_par2, s_par3, s_aug, s_augS, s_expr, s_ret, s_retN, s_ite, s_for, s_brk, s_cnt, s_pass, s_never, for_step, lc_step, e_var, e_cst, e_bin, e_neg, e_not, e_and, e_or, e_cmp, e_chain, e_ife, e_tup, e_lst, e_ix, e_slc, e_rev, e_fld, e_call, e_meth, e_make, e_bi, e_bm, e_isi, e_lc, e_frz, e_sp, cont_nil, wEs, wG, wGs, wI, wIf, wO, ge0, geS, wIx, wCmp, wBin, wAug, wBi, wBm, arrD, sq_lst, sq_frl, sq_tup, lq_lst, isi_int, isi_bl, isi_str, isi_non, isi_lst, isi_frl, isi_tup, sl_tup, sl_lst, sl_frl, rv_tup, rv_lst, rv_frl, st_lst, st_frl, st_tup, mset_same, bxs_at, newL, wipeD, isN_non, isN_int, isN_bl, isN_str, isN_tup, isN_lst, isN_obj, rng_irg, isTy, cont_cons, same1]; exact rtn_self h
    | str i => simp [startD, s_nil, s_cons, s_asg, s_par2, s_par3, s_aug, s_augS, s_expr, s_ret, s_retN, s_ite, s_for, s_brk, s_cnt, s_pass, s_never, for_step, lc_step, e_var, e_cst, e_bin, e_neg, e_not, e_and, e_or, e_cmp, e_chain, e_ife, e_tup, e_lst, e_ix, e_slc, e_rev, e_fld, e_call, e_meth, e_make, e_bi, e_bm, e_isi, e_lc, e_frz, e_sp, cont_nil, wEs, wG, wGs, wI, wIf, wO, ge0, geS, wIx, wCmp, wBin, wAug, wBi, wBm, arrD, sq_lst, sq_frl, sq_tup, lq_lst, isi_int, isi_bl, isi_str, isi_non, isi_lst, isi_frl, isi_tup, sl_tup, sl_lst, sl_frl, rv_tup, rv_lst, rv_frl, st_lst, st_frl, st_tup, mset_same, bxs_at, newL, wipeD, isN_non, isN_int, isN_bl, isN_str, isN_tup, isN_lst, isN_obj, rng_irg, isTy, cont_cons, same1]; exact rtn_self h
    | non => simp [startD, s_nil, s_cons, s_asg, s_par2, s_par3, s_aug, s_augS, s_expr, s_ret, s_retN, s_ite, s_for, s_brk, s_cnt, s_pass, s_never, for_step, lc_step, e_var, e_cst, e_bin, e_neg, e_not, e_and, e_or, e_cmp, e_chain, e_ife, e_tup, e_lst, e_ix, e_slc, e_rev, e_fld, e_call, e_meth, e_make, e_bi, e_bm, e_isi, e_lc, e_frz, e_sp, cont_nil, wEs, wG, wGs, wI, wIf, wO, ge0, geS, wIx, wCmp, wBin, wAug, wBi, wBm, arrD, sq_lst, sq_frl, sq_tup, lq_lst, isi_int, isi_bl, isi_str, isi_non, isi_lst, isi_frl, isi_tup, sl_tup, sl_lst, sl_frl, rv_tup, rv_lst, rv_frl, st_lst, st_frl, st_tup, mset_same, bxs_at, newL, wipeD, isN_non, isN_int, isN_bl, isN_str, isN_tup, isN_lst, isN_obj, rng_irg, isTy, cont_cons, same1, pEq_non]; exact rtn_self h
    | _ => exact hd.elim
  | succ n ih =>
    intro k d M Φ Ψ hd h
    refine call_row rfl ?_
    cases d with
    | int i => simp [startD, s_nil, s_cons, s_asg, s_par2, s_par3, s_aug, s_augS, s_expr, s_ret, s_retN, s_ite, s_for, s_brk, s_cnt, s_pass, s_never, for_step, lc_step, e_var, e_cst, e_bin, e_neg, e_not, e_and, e_or, e_cmp, e_chain, e_ife, e_tup, e_lst, e_ix, e_slc, e_rev, e_fld, e_call, e_meth, e_make, e_bi, e_bm, e_isi, e_lc, e_frz, e_sp, cont_nil, wEs, wG, wGs, wI, wIf, wO, ge0, geS, wIx, wCmp, wBin, wAug, wBi, wBm, arrD, sq_lst, sq_frl, sq_tup, lq_lst, isi_int, isi_bl, isi_str, isi_non, isi_lst, isi_frl, isi_tup, sl_tup, sl_lst, sl_frl, rv_tup, rv_lst, rv_frl, st_lst, st_frl, st_tup, mset_same, bxs_at, newL, wipeD, isN_non, isN_int, isN_bl, isN_str, isN_tup, isN_lst, isN_obj, rng_irg, isTy, cont_cons, same1]; exact rtn_self h
    | bl i => simp [startD, s_nil, s_cons, s_asg, s_par2, s_par3, s_aug, s_augS, s_expr, s_ret, s_retN, s_ite, s_for, s_brk, s_cnt, s_pass, s_never, for_step, lc_step, e_var, e_cst, e_bin, e_neg, e_not, e_and, e_or, e_cmp, e_chain, e_ife, e_tup, e_lst, e_ix, e_slc, e_rev, e_fld, e_call, e_meth, e_make, e_bi, e_bm, e_isi, e_lc, e_frz, e_sp, cont_nil, wEs, wG, wGs, wI, wIf, wO, ge0, geS, wIx, wCmp, wBin, wAug, wBi, wBm, arrD, sq_lst, sq_frl, sq_tup, lq_lst, isi_int, isi_bl, isi_str, isi_non, isi_lst, isi_frl, isi_tup, sl_tup, sl_lst, sl_frl, rv_tup, rv_lst, rv_frl, st_lst, st_frl, st_tup, mset_same, bxs_at, newL, wipeD, isN_non, isN_int, isN_bl, isN_str, isN_tup, isN_lst, isN_obj, rng_irg, isTy, cont_cons, same1]; exact rtn_self h
    | str i => simp [startD, s_nil, s_cons, s_asg, s_par2, s_par3, s_aug, s_augS, s_expr, s_ret, s_retN, s_ite, s_for, s_brk, s_cnt, s_pass, s_never, for_step, lc_step, e_var, e_cst, e_bin, e_neg, e_not, e_and, e_or, e_cmp, e_chain, e_ife, e_tup, e_lst, e_ix, e_slc, e_rev, e_fld, e_call, e_meth, e_make, e_bi, e_bm, e_isi, e_lc, e_frz, e_sp, cont_nil, wEs, wG, wGs, wI, wIf, wO, ge0, geS, wIx, wCmp, wBin, wAug, wBi, wBm, arrD, sq_lst, sq_frl, sq_tup, lq_lst, isi_int, isi_bl, isi_str, isi_non, isi_lst, isi_frl, isi_tup, sl_tup, sl_lst, sl_frl, rv_tup, rv_lst, rv_frl, st_lst, st_frl, st_tup, mset_same, bxs_at, newL, wipeD, isN_non, isN_int, isN_bl, isN_str, isN_tup, isN_lst, isN_obj, rng_irg, isTy, cont_cons, same1]; exact rtn_self h
    | non => simp [startD, s_nil, s_cons, s_asg, s_par2, s_par3, s_aug, s_augS, s_expr, s_ret, s_retN, s_ite, s_for, s_brk, s_cnt, s_pass, s_never, for_step, lc_step, e_var, e_cst, e_bin, e_neg, e_not, e_and, e_or, e_cmp, e_chain, e_ife, e_tup, e_lst, e_ix, e_slc, e_rev, e_fld, e_call, e_meth, e_make, e_bi, e_bm, e_isi, e_lc, e_frz, e_sp, cont_nil, wEs, wG, wGs, wI, wIf, wO, ge0, geS, wIx, wCmp, wBin, wAug, wBi, wBm, arrD, sq_lst, sq_frl, sq_tup, lq_lst, isi_int, isi_bl, isi_str, isi_non, isi_lst, isi_frl, isi_tup, sl_tup, sl_lst, sl_frl, rv_tup, rv_lst, rv_frl, st_lst, st_frl, st_tup, mset_same, bxs_at, newL, wipeD, isN_non, isN_int, isN_bl, isN_str, isN_tup, isN_lst, isN_obj, rng_irg, isTy, cont_cons, same1, pEq_non]; exact rtn_self h
    | lst xs =>
      simp [startD, s_nil, s_cons, s_asg, s_par2, s_par3, s_aug, s_augS, s_expr, s_ret, s_retN, s_ite, s_for, s_brk, s_cnt, s_pass, s_never, for_step, lc_step, e_var, e_cst, e_bin, e_neg, e_not, e_and, e_or, e_cmp, e_chain, e_ife, e_tup, e_lst, e_ix, e_slc, e_rev, e_fld, e_call, e_meth, e_make, e_bi, e_bm, e_isi, e_lc, e_frz, e_sp, cont_nil, wEs, wG, wGs, wI, wIf, wO, ge0, geS, wIx, wCmp, wBin, wAug, wBi, wBm, arrD, sq_lst, sq_frl, sq_tup, lq_lst, isi_int, isi_bl, isi_str, isi_non, isi_lst, isi_frl, isi_tup, sl_tup, sl_lst, sl_frl, rv_tup, rv_lst, rv_frl, st_lst, st_frl, st_tup, mset_same, bxs_at, newL, wipeD, isN_non, isN_int, isN_bl, isN_str, isN_tup, isN_lst, isN_obj, rng_irg, isTy, cont_cons, same1]
      exact same_zip hd.1 (fun y hy kk hk => by simp [startD, s_nil, s_cons, s_asg, s_par2, s_par3, s_aug, s_augS, s_expr, s_ret, s_retN, s_ite, s_for, s_brk, s_cnt, s_pass, s_never, for_step, lc_step, e_var, e_cst, e_bin, e_neg, e_not, e_and, e_or, e_cmp, e_chain, e_ife, e_tup, e_lst, e_ix, e_slc, e_rev, e_fld, e_call, e_meth, e_make, e_bi, e_bm, e_isi, e_lc, e_frz, e_sp, cont_nil, wEs, wG, wGs, wI, wIf, wO, ge0, geS, wIx, wCmp, wBin, wAug, wBi, wBm, arrD, sq_lst, sq_frl, sq_tup, lq_lst, isi_int, isi_bl, isi_str, isi_non, isi_lst, isi_frl, isi_tup, sl_tup, sl_lst, sl_frl, rv_tup, rv_lst, rv_frl, st_lst, st_frl, st_tup, mset_same, bxs_at, newL, wipeD, isN_non, isN_int, isN_bl, isN_str, isN_tup, isN_lst, isN_obj, rng_irg, isTy]; exact ih k y _ _ _ (hd.2 y hy) hk) (rtn_self h)
    | tup xs =>
      simp [startD, s_nil, s_cons, s_asg, s_par2, s_par3, s_aug, s_augS, s_expr, s_ret, s_retN, s_ite, s_for, s_brk, s_cnt, s_pass, s_never, for_step, lc_step, e_var, e_cst, e_bin, e_neg, e_not, e_and, e_or, e_cmp, e_chain, e_ife, e_tup, e_lst, e_ix, e_slc, e_rev, e_fld, e_call, e_meth, e_make, e_bi, e_bm, e_isi, e_lc, e_frz, e_sp, cont_nil, wEs, wG, wGs, wI, wIf, wO, ge0, geS, wIx, wCmp, wBin, wAug, wBi, wBm, arrD, sq_lst, sq_frl, sq_tup, lq_lst, isi_int, isi_bl, isi_str, isi_non, isi_lst, isi_frl, isi_tup, sl_tup, sl_lst, sl_frl, rv_tup, rv_lst, rv_frl, st_lst, st_frl, st_tup, mset_same, bxs_at, newL, wipeD, isN_non, isN_int, isN_bl, isN_str, isN_tup, isN_lst, isN_obj, rng_irg, isTy, cont_cons, same1]
      exact same_zip hd.1 (fun y hy kk hk => by simp [startD, s_nil, s_cons, s_asg, s_par2, s_par3, s_aug, s_augS, s_expr, s_ret, s_retN, s_ite, s_for, s_brk, s_cnt, s_pass, s_never, for_step, lc_step, e_var, e_cst, e_bin, e_neg, e_not, e_and, e_or, e_cmp, e_chain, e_ife, e_tup, e_lst, e_ix, e_slc, e_rev, e_fld, e_call, e_meth, e_make, e_bi, e_bm, e_isi, e_lc, e_frz, e_sp, cont_nil, wEs, wG, wGs, wI, wIf, wO, ge0, geS, wIx, wCmp, wBin, wAug, wBi, wBm, arrD, sq_lst, sq_frl, sq_tup, lq_lst, isi_int, isi_bl, isi_str, isi_non, isi_lst, isi_frl, isi_tup, sl_tup, sl_lst, sl_frl, rv_tup, rv_lst, rv_frl, st_lst, st_frl, st_tup, mset_same, bxs_at, newL, wipeD, isN_non, isN_int, isN_bl, isN_str, isN_tup, isN_lst, isN_obj, rng_irg, isTy]; exact ih k y _ _ _ (hd.2 y hy) hk) (rtn_self h)
    | _ => exact hd.elim⟩
instance same2_ok {T : Tb} [Row T "_law_same" ⟨"_law_same", 2, 4, same2⟩] : CSame T := ⟨fun n => by
  induction n with
  | zero =>
    intro k d M Φ Ψ hd h
    refine call_row rfl ?_
    cases d with
    | int i => simp [startD, s_nil, s_cons, s_asg, s_par2, s_par3, s_aug, s_augS, s_expr, s_ret, s_retN, s_ite, s_for, s_brk, s_cnt, s_pass, s_never, for_step, lc_step, e_var, e_cst, e_bin, e_neg, e_not, e_and, e_or, e_cmp, e_chain, e_ife, e_tup, e_lst, e_ix, e_slc, e_rev, e_fld, e_call, e_meth, e_make, e_bi, e_bm, e_isi, e_lc, e_frz, e_sp, cont_nil, wEs, wG, wGs, wI, wIf, wO, ge0, geS, wIx, wCmp, wBin, wAug, wBi, wBm, arrD, sq_lst, sq_frl, sq_tup, lq_lst, isi_int, isi_bl, isi_str, isi_non, isi_lst, isi_frl, isi_tup, sl_tup, sl_lst, sl_frl, rv_tup, rv_lst, rv_frl, st_lst, st_frl, st_tup, mset_same, bxs_at, newL, wipeD, isN_non, isN_int, isN_bl, isN_str, isN_tup, isN_lst, isN_obj, rng_irg, isTy, cont_cons, same2]; exact rtn_self h
    | bl i => simp [startD, s_nil, s_cons, s_asg, s_par2, s_par3, s_aug, s_augS, s_expr, s_ret, s_retN, s_ite, s_for, s_brk, s_cnt, s_pass, s_never, for_step, lc_step, e_var, e_cst, e_bin, e_neg, e_not, e_and, e_or, e_cmp, e_chain, e_ife, e_tup, e_lst, e_ix, e_slc, e_rev, e_fld, e_call, e_meth, e_make, e_bi, e_bm, e_isi, e_lc, e_frz, e_sp, cont_nil, wEs, wG, wGs, wI, wIf, wO, ge0, geS, wIx, wCmp, wBin, wAug, wBi, wBm, arrD, sq_lst, sq_frl, sq_tup, lq_lst, isi_int, isi_bl, isi_str, isi_non, isi_lst, isi_frl, isi_tup, sl_tup, sl_lst, sl_frl, rv_tup, rv_lst, rv_frl, st_lst, st_frl, st_tup, mset_same, bxs_at, newL, wipeD, isN_non, isN_int, isN_bl, isN_str, isN_tup, isN_lst, isN_obj, rng_irg, isTy, cont_cons, same2]; exact rtn_self h
    | str i => simp [startD, s_nil, s_cons, s_asg, s_par2, s_par3, s_aug, s_augS, s_expr, s_ret, s_retN, s_ite, s_for, s_brk, s_cnt, s_pass, s_never, for_step, lc_step, e_var, e_cst, e_bin, e_neg, e_not, e_and, e_or, e_cmp, e_chain, e_ife, e_tup, e_lst, e_ix, e_slc, e_rev, e_fld, e_call, e_meth, e_make, e_bi, e_bm, e_isi, e_lc, e_frz, e_sp, cont_nil, wEs, wG, wGs, wI, wIf, wO, ge0, geS, wIx, wCmp, wBin, wAug, wBi, wBm, arrD, sq_lst, sq_frl, sq_tup, lq_lst, isi_int, isi_bl, isi_str, isi_non, isi_lst, isi_frl, isi_tup, sl_tup, sl_lst, sl_frl, rv_tup, rv_lst, rv_frl, st_lst, st_frl, st_tup, mset_same, bxs_at, newL, wipeD, isN_non, isN_int, isN_bl, isN_str, isN_tup, isN_lst, isN_obj, rng_irg, isTy, cont_cons, same2]; exact rtn_self h
    | non => simp [startD, s_nil, s_cons, s_asg, s_par2, s_par3, s_aug, s_augS, s_expr, s_ret, s_retN, s_ite, s_for, s_brk, s_cnt, s_pass, s_never, for_step, lc_step, e_var, e_cst, e_bin, e_neg, e_not, e_and, e_or, e_cmp, e_chain, e_ife, e_tup, e_lst, e_ix, e_slc, e_rev, e_fld, e_call, e_meth, e_make, e_bi, e_bm, e_isi, e_lc, e_frz, e_sp, cont_nil, wEs, wG, wGs, wI, wIf, wO, ge0, geS, wIx, wCmp, wBin, wAug, wBi, wBm, arrD, sq_lst, sq_frl, sq_tup, lq_lst, isi_int, isi_bl, isi_str, isi_non, isi_lst, isi_frl, isi_tup, sl_tup, sl_lst, sl_frl, rv_tup, rv_lst, rv_frl, st_lst, st_frl, st_tup, mset_same, bxs_at, newL, wipeD, isN_non, isN_int, isN_bl, isN_str, isN_tup, isN_lst, isN_obj, rng_irg, isTy, cont_cons, same2, pEq_non]; exact rtn_self h
    | _ => exact hd.elim
  | succ n ih =>
    intro k d M Φ Ψ hd h
    refine call_row rfl ?_
    cases d with
    | int i => simp [startD, s_nil, s_cons, s_asg, s_par2, s_par3, s_aug, s_augS, s_expr, s_ret, s_retN, s_ite, s_for, s_brk, s_cnt, s_pass, s_never, for_step, lc_step, e_var, e_cst, e_bin, e_neg, e_not, e_and, e_or, e_cmp, e_chain, e_ife, e_tup, e_lst, e_ix, e_slc, e_rev, e_fld, e_call, e_meth, e_make, e_bi, e_bm, e_isi, e_lc, e_frz, e_sp, cont_nil, wEs, wG, wGs, wI, wIf, wO, ge0, geS, wIx, wCmp, wBin, wAug, wBi, wBm, arrD, sq_lst, sq_frl, sq_tup, lq_lst, isi_int, isi_bl, isi_str, isi_non, isi_lst, isi_frl, isi_tup, sl_tup, sl_lst, sl_frl, rv_tup, rv_lst, rv_frl, st_lst, st_frl, st_tup, mset_same, bxs_at, newL, wipeD, isN_non, isN_int, isN_bl, isN_str, isN_tup, isN_lst, isN_obj, rng_irg, isTy, cont_cons, same2]; exact rtn_self h
    | bl i => simp [startD, s_nil, s_cons, s_asg, s_par2, s_par3, s_aug, s_augS, s_expr, s_ret, s_retN, s_ite, s_for, s_brk, s_cnt, s_pass, s_never, for_step, lc_step, e_var, e_cst, e_bin, e_neg, e_not, e_and, e_or, e_cmp, e_chain, e_ife, e_tup, e_lst, e_ix, e_slc, e_rev, e_fld, e_call, e_meth, e_make, e_bi, e_bm, e_isi, e_lc, e_frz, e_sp, cont_nil, wEs, wG, wGs, wI, wIf, wO, ge0, geS, wIx, wCmp, wBin, wAug, wBi, wBm, arrD, sq_lst, sq_frl, sq_tup, lq_lst, isi_int, isi_bl, isi_str, isi_non, isi_lst, isi_frl, isi_tup, sl_tup, sl_lst, sl_frl, rv_tup, rv_lst, rv_frl, st_lst, st_frl, st_tup, mset_same, bxs_at, newL, wipeD, isN_non, isN_int, isN_bl, isN_str, isN_tup, isN_lst, isN_obj, rng_irg, isTy, cont_cons, same2]; exact rtn_self h
    | str i => simp [startD, s_nil, s_cons, s_asg, s_par2, s_par3, s_aug, s_augS, s_expr, s_ret, s_retN, s_ite, s_for, s_brk, s_cnt, s_pass, s_never, for_step, lc_step, e_var, e_cst, e_bin, e_neg, e_not, e_and, e_or, e_cmp, e_chain, e_ife, e_tup, e_lst, e_ix, e_slc, e_rev, e_fld, e_call, e_meth, e_make, e_bi, e_bm, e_isi, e_lc, e_frz, e_sp, cont_nil, wEs, wG, wGs, wI, wIf, wO, ge0, geS, wIx, wCmp, wBin, wAug, wBi, wBm, arrD, sq_lst, sq_frl, sq_tup, lq_lst, isi_int, isi_bl, isi_str, isi_non, isi_lst, isi_frl, isi_tup, sl_tup, sl_lst, sl_frl, rv_tup, rv_lst, rv_frl, st_lst, st_frl, st_tup, mset_same, bxs_at, newL, wipeD, isN_non, isN_int, isN_bl, isN_str, isN_tup, isN_lst, isN_obj, rng_irg, isTy, cont_cons, same2]; exact rtn_self h
    | non => simp [startD, s_nil, s_cons, s_asg, s_par2, s_par3, s_aug, s_augS, s_expr, s_ret, s_retN, s_ite, s_for, s_brk, s_cnt, s_pass, s_never, for_step, lc_step, e_var, e_cst, e_bin, e_neg, e_not, e_and, e_or, e_cmp, e_chain, e_ife, e_tup, e_lst, e_ix, e_slc, e_rev, e_fld, e_call, e_meth, e_make, e_bi, e_bm, e_isi, e_lc, e_frz, e_sp, cont_nil, wEs, wG, wGs, wI, wIf, wO, ge0, geS, wIx, wCmp, wBin, wAug, wBi, wBm, arrD, sq_lst, sq_frl, sq_tup, lq_lst, isi_int, isi_bl, isi_str, isi_non, isi_lst, isi_frl, isi_tup, sl_tup, sl_lst, sl_frl, rv_tup, rv_lst, rv_frl, st_lst, st_frl, st_tup, mset_same, bxs_at, newL, wipeD, isN_non, isN_int, isN_bl, isN_str, isN_tup, isN_lst, isN_obj, rng_irg, isTy, cont_cons, same2, pEq_non]; exact rtn_self h
    | lst xs =>
      simp [startD, s_nil, s_cons, s_asg, s_par2, s_par3, s_aug, s_augS, s_expr, s_ret, s_retN, s_ite, s_for, s_brk, s_cnt, s_pass, s_never, for_step, lc_step, e_var, e_cst, e_bin, e_neg, e_not, e_and, e_or, e_cmp, e_chain, e_ife, e_tup, e_lst, e_ix, e_slc, e_rev, e_fld, e_call, e_meth, e_make, e_bi, e_bm, e_isi, e_lc, e_frz, e_sp, cont_nil, wEs, wG, wGs, wI, wIf, wO, ge0, geS, wIx, wCmp, wBin, wAug, wBi, wBm, arrD, sq_lst, sq_frl, sq_tup, lq_lst, isi_int, isi_bl, isi_str, isi_non, isi_lst, isi_frl, isi_tup, sl_tup, sl_lst, sl_frl, rv_tup, rv_lst, rv_frl, st_lst, st_frl, st_tup, mset_same, bxs_at, newL, wipeD, isN_non, isN_int, isN_bl, isN_str, isN_tup, isN_lst, isN_obj, rng_irg, isTy, cont_cons, same2]
      exact same_zip hd.1 (fun y hy kk hk => by simp [startD, s_nil, s_cons, s_asg, s_par2, s_par3, s_aug, s_augS, s_expr, s_ret, s_retN, s_ite, s_for, s_brk, s_cnt, s_pass, s_never, for_step, lc_step, e_var, e_cst, e_bin, e_neg, e_not, e_and, e_or, e_cmp, e_chain, e_ife, e_tup, e_lst, e_ix, e_slc, e_rev, e_fld, e_call, e_meth, e_make, e_bi, e_bm, e_isi, e_lc, e_frz, e_sp, cont_nil, wEs, wG, wGs, wI, wIf, wO, ge0, geS, wIx, wCmp, wBin, wAug, wBi, wBm, arrD, sq_lst, sq_frl, sq_tup, lq_lst, isi_int, isi_bl, isi_str, isi_non, isi_lst, isi_frl, isi_tup, sl_tup, sl_lst, sl_frl, rv_tup, rv_lst, rv_frl, st_lst, st_frl, st_tup, mset_same, bxs_at, newL, wipeD, isN_non, isN_int, isN_bl, isN_str, isN_tup, isN_lst, isN_obj, rng_irg, isTy]; exact ih k y _ _ _ (hd.2 y hy) hk) (rtn_self h)
    | tup xs =>
      simp [startD, s_nil, s_cons, s_asg, s_par2, s_par3, s_aug, s_augS, s_expr, s_ret, s_retN, s_ite, s_for, s_brk, s_cnt, s_pass, s_never, for_step, lc_step, e_var, e_cst, e_bin, e_neg, e_not, e_and, e_or, e_cmp, e_chain, e_ife, e_tup, e_lst, e_ix, e_slc, e_rev, e_fld, e_call, e_meth, e_make, e_bi, e_bm, e_isi, e_lc, e_frz, e_sp, cont_nil, wEs, wG, wGs, wI, wIf, wO, ge0, geS, wIx, wCmp, wBin, wAug, wBi, wBm, arrD, sq_lst, sq_frl, sq_tup, lq_lst, isi_int, isi_bl, isi_str, isi_non, isi_lst, isi_frl, isi_tup, sl_tup, sl_lst, sl_frl, rv_tup, rv_lst, rv_frl, st_lst, st_frl, st_tup, mset_same, bxs_at, newL, wipeD, isN_non, isN_int, isN_bl, isN_str, isN_tup, isN_lst, isN_obj, rng_irg, isTy, cont_cons, same2]
      exact same_zip hd.1 (fun y hy kk hk => by simp [startD, s_nil, s_cons, s_asg, s_par2, s_par3, s_aug, s_augS, s_expr, s_ret, s_retN, s_ite, s_for, s_brk, s_cnt, s_pass, s_never, for_step, lc_step, e_var, e_cst, e_bin, e_neg, e_not, e_and, e_or, e_cmp, e_chain, e_ife, e_tup, e_lst, e_ix, e_slc, e_rev, e_fld, e_call, e_meth, e_make, e_bi, e_bm, e_isi, e_lc, e_frz, e_sp, cont_nil, wEs, wG, wGs, wI, wIf, wO, ge0, geS, wIx, wCmp, wBin, wAug, wBi, wBm, arrD, sq_lst, sq_frl, sq_tup, lq_lst, isi_int, isi_bl, isi_str, isi_non, isi_lst, isi_frl, isi_tup, sl_tup, sl_lst, sl_frl, rv_tup, rv_lst, rv_frl, st_lst, st_frl, st_tup, mset_same, bxs_at, newL, wipeD, isN_non, isN_int, isN_bl, isN_str, isN_tup, isN_lst, isN_obj, rng_irg, isTy]; exact ih k y _ _ _ (hd.2 y hy) hk) (rtn_self h)
    | _ => exact hd.elim⟩
instance same3_ok {T : Tb} [Row T "_law_same" ⟨"_law_same", 2, 4, same3⟩] : CSame T := ⟨fun n => by
  induction n with
  | zero =>
    intro k d M Φ Ψ hd h
    refine call_row rfl ?_
    cases d with
    | int i => simp [startD, s_nil, s_cons, s_asg, s_par2, s_par3, s_aug, s_augS, s_expr, s_ret, s_retN, s_ite, s_for, s_brk, s_cnt, s_pass, s_never, for_step, lc_step, e_var, e_cst, e_bin, e_neg, e_not, e_and, e_or, e_cmp, e_chain, e_ife, e_tup, e_lst, e_ix, e_slc, e_rev, e_fld, e_call, e_meth, e_make, e_bi, e_bm, e_isi, e_lc, e_frz, e_sp, cont_nil, wEs, wG, wGs, wI, wIf, wO, ge0, geS, wIx, wCmp, wBin, wAug, wBi, wBm, arrD, sq_lst, sq_frl, sq_tup, lq_lst, isi_int, isi_bl, isi_str, isi_non, isi_lst, isi_frl, isi_tup, sl_tup, sl_lst, sl_frl, rv_tup, rv_lst, rv_frl, st_lst, st_frl, st_tup, mset_same, bxs_at, newL, wipeD, isN_non, isN_int, isN_bl, isN_str, isN_tup, isN_lst, isN_obj, rng_irg, isTy, cont_cons, same3]; exact rtn_self h
    | bl i => simp [startD, s_nil, s_cons, s_asg, s_par2, s_par3, s_aug, s_augS, s_expr, s_ret, s_retN, s_ite, s_for, s_brk, s_cnt, s_pass, s_never, for_step, lc_step, e_var, e_cst, e_bin, e_neg, e_not, e_and, e_or, e_cmp, e_chain, e_ife, e_tup, e_lst, e_ix, e_slc, e_rev, e_fld, e_call, e_meth, e_make, e_bi, e_bm, e_isi, e_lc, e_frz, e_sp, cont_nil, wEs, wG, wGs, wI, wIf, wO, ge0, geS, wIx, wCmp, wBin, wAug, wBi, wBm, arrD, sq_lst, sq_frl, sq_tup, lq_lst, isi_int, isi_bl, isi_str, isi_non, isi_lst, isi_frl, isi_tup, sl_tup, sl_lst, sl_frl, rv_tup, rv_lst, rv_frl, st_lst, st_frl, st_tup, mset_same, bxs_at, newL, wipeD, isN_non, isN_int, isN_bl, isN_str, isN_tup, isN_lst, isN_obj, rng_irg, isTy, cont_cons, same3]; exact rtn_self h
    | str i => simp [startD, s_nil, s_cons, s_asg, s_par2, s_par3, s_aug, s_augS, s_expr, s_ret, s_retN, s_ite, s_for, s_brk, s_cnt, s_pass, s_never, for_step, lc_step, e_var, e_cst, e_bin, e_neg, e_not, e_and, e_or, e_cmp, e_chain, e_ife, e_tup, e_lst, e_ix, e_slc, e_rev, e_fld, e_call, e_meth, e_make, e_bi, e_bm, e_isi, e_lc, e_frz, e_sp, cont_nil, wEs, wG, wGs, wI, wIf, wO, ge0, geS, wIx, wCmp, wBin, wAug, wBi, wBm, arrD, sq_lst, sq_frl, sq_tup, lq_lst, isi_int, isi_bl, isi_str, isi_non, isi_lst, isi_frl, isi_tup, sl_tup, sl_lst, sl_frl, rv_tup, rv_lst, rv_frl, st_lst, st_frl, st_tup, mset_same, bxs_at, newL, wipeD, isN_non, isN_int, isN_bl, isN_str, isN_tup, isN_lst, isN_obj, rng_irg, isTy, cont_cons, same3]; exact rtn_self h
    | non => simp [startD, s_nil, s_cons, s_asg, s_par2, s_par3, s_aug, s_augS, s_expr, s_ret, s_retN, s_ite, s_for, s_brk, s_cnt, s_pass, s_never, for_step, lc_step, e_var, e_cst, e_bin, e_neg, e_not, e_and, e_or, e_cmp, e_chain, e_ife, e_tup, e_lst, e_ix, e_slc, e_rev, e_fld, e_call, e_meth, e_make, e_bi, e_bm, e_isi, e_lc, e_frz, e_sp, cont_nil, wEs, wG, wGs, wI, wIf, wO, ge0, geS, wIx, wCmp, wBin, wAug, wBi, wBm, arrD, sq_lst, sq_frl, sq_tup, lq_lst, isi_int, isi_bl, isi_str, isi_non, isi_lst, isi_frl, isi_tup, sl_tup, sl_lst, sl_frl, rv_tup, rv_lst, rv_frl, st_lst, st_frl, st_tup, mset_same, bxs_at, newL, wipeD, isN_non, isN_int, isN_bl, isN_str, isN_tup, isN_lst, isN_obj, rng_irg, isTy, cont_cons, same3, pEq_non]; exact rtn_self h
    | _ => exact hd.elim
  | succ n ih =>
    intro k d M Φ Ψ hd h
    refine call_row rfl ?_
    cases d with
    | int i => simp [startD, s_nil, s_cons, s_asg, s_par2, s_par3, s_aug, s_augS, s_expr, s_ret, s_retN, s_ite, s_for, s_brk, s_cnt, s_pass, s_never, for_step, lc_step, e_var, e_cst, e_bin, e_neg, e_not, e_and, e_or, e_cmp, e_chain, e_ife, e_tup, e_lst, e_ix, e_slc, e_rev, e_fld, e_call, e_meth, e_make, e_bi, e_bm, e_isi, e_lc, e_frz, e_sp, cont_nil, wEs, wG, wGs, wI, wIf, wO, ge0, geS, wIx, wCmp, wBin, wAug, wBi, wBm, arrD, sq_lst, sq_frl, sq_tup, lq_lst, isi_int, isi_bl, isi_str, isi_non, isi_lst, isi_frl, isi_tup, sl_tup, sl_lst, sl_frl, rv_tup, rv_lst, rv_frl, st_lst, st_frl, st_tup, mset_same, bxs_at, newL, wipeD, isN_non, isN_int, isN_bl, isN_str, isN_tup, isN_lst, isN_obj, rng_irg, isTy, cont_cons, same3]; exact rtn_self h
    | bl i => simp [startD, s_nil, s_cons, s_asg, s_par2, s_par3, s_aug, s_augS, s_expr, s_ret, s_retN, s_ite, s_for, s_brk, s_cnt, s_pass, s_never, for_step, lc_step, e_var, e_cst, e_bin, e_neg, e_not, e_and, e_or, e_cmp, e_chain, e_ife, e_tup, e_lst, e_ix, e_slc, e_rev, e_fld, e_call, e_meth, e_make, e_bi, e_bm, e_isi, e_lc, e_frz, e_sp, cont_nil, wEs, wG, wGs, wI, wIf, wO, ge0, geS, wIx, wCmp, wBin, wAug, wBi, wBm, arrD, sq_lst, sq_frl, sq_tup, lq_lst, isi_int, isi_bl, isi_str, isi_non, isi_lst, isi_frl, isi_tup, sl_tup, sl_lst, sl_frl, rv_tup, rv_lst, rv_frl, st_lst, st_frl, st_tup, mset_same, bxs_at, newL, wipeD, isN_non, isN_int, isN_bl, isN_str, isN_tup, isN_lst, isN_obj, rng_irg, isTy, cont_cons, same3]; exact rtn_self h
    | str i => simp [startD, s_nil, s_cons, s_asg, s_par2, s_par3, s_aug, s_augS, s_expr, s_ret, s_retN, s_ite, s_for, s_brk, s_cnt, s_pass, s_never, for_step, lc_step, e_var, e_cst, e_bin, e_neg, e_not, e_and, e_or, e_cmp, e_chain, e_ife, e_tup, e_lst, e_ix, e_slc, e_rev, e_fld, e_call, e_meth, e_make, e_bi, e_bm, e_isi, e_lc, e_frz, e_sp, cont_nil, wEs, wG, wGs, wI, wIf, wO, ge0, geS, wIx, wCmp, wBin, wAug, wBi, wBm, arrD, sq_lst, sq_frl, sq_tup, lq_lst, isi_int, isi_bl, isi_str, isi_non, isi_lst, isi_frl, isi_tup, sl_tup, sl_lst, sl_frl, rv_tup, rv_lst, rv_frl, st_lst, st_frl, st_tup, mset_same, bxs_at, newL, wipeD, isN_non, isN_int, isN_bl, isN_str, isN_tup, isN_lst, isN_obj, rng_irg, isTy, cont_cons, same3]; exact rtn_self h
    | non => simp [startD, s_nil, s_cons, s_asg, s_par2, s_par3, s_aug, s_augS, s_expr, s_ret, s_retN, s_ite, s_for, s_brk, s_cnt, s_pass, s_never, for_step, lc_step, e_var, e_cst, e_bin, e_neg, e_not, e_and, e_or, e_cmp, e_chain, e_ife, e_tup, e_lst, e_ix, e_slc, e_rev, e_fld, e_call, e_meth, e_make, e_bi, e_bm, e_isi, e_lc, e_frz, e_sp, cont_nil, wEs, wG, wGs, wI, wIf, wO, ge0, geS, wIx, wCmp, wBin, wAug, wBi, wBm, arrD, sq_lst, sq_frl, sq_tup, lq_lst, isi_int, isi_bl, isi_str, isi_non, isi_lst, isi_frl, isi_tup, sl_tup, sl_lst, sl_frl, rv_tup, rv_lst, rv_frl, st_lst, st_frl, st_tup, mset_same, bxs_at, newL, wipeD, isN_non, isN_int, isN_bl, isN_str, isN_tup, isN_lst, isN_obj, rng_irg, isTy, cont_cons, same3, pEq_non]; exact rtn_self h
    | lst xs =>
      simp [startD, s_nil, s_cons, s_asg, s_par2, s_par3, s_aug, s_augS, s_expr, s_ret, s_retN, s_ite, s_for, s_brk, s_cnt, s_pass, s_never, for_step, lc_step, e_var, e_cst, e_bin, e_neg, e_not, e_and, e_or, e_cmp, e_chain, e_ife, e_tup, e_lst, e_ix, e_slc, e_rev, e_fld, e_call, e_meth, e_make, e_bi, e_bm, e_isi, e_lc, e_frz, e_sp, cont_nil, wEs, wG, wGs, wI, wIf, wO, ge0, geS, wIx, wCmp, wBin, wAug, wBi, wBm, arrD, sq_lst, sq_frl, sq_tup, lq_lst, isi_int, isi_bl, isi_str, isi_non, isi_lst, isi_frl, isi_tup, sl_tup, sl_lst, sl_frl, rv_tup, rv_lst, rv_frl, st_lst, st_frl, st_tup, mset_same, bxs_at, newL, wipeD, isN_non, isN_int, isN_bl, isN_str, isN_tup, isN_lst, isN_obj, rng_irg, isTy, cont_cons, same3]
      exact same_zip hd.1 (fun y hy kk hk => by simp [startD, s_nil, s_cons, s_asg, s_par2, s_par3, s_aug, s_augS, s_expr, s_ret, s_retN, s_ite, s_for, s_brk, s_cnt, s_pass, s_never, for_step, lc_step, e_var, e_cst, e_bin, e_neg, e_not, e_and, e_or, e_cmp, e_chain, e_ife, e_tup, e_lst, e_ix, e_slc, e_rev, e_fld, e_call, e_meth, e_make, e_bi, e_bm, e_isi, e_lc, e_frz, e_sp, cont_nil, wEs, wG, wGs, wI, wIf, wO, ge0, geS, wIx, wCmp, wBin, wAug, wBi, wBm, arrD, sq_lst, sq_frl, sq_tup, lq_lst, isi_int, isi_bl, isi_str, isi_non, isi_lst, isi_frl, isi_tup, sl_tup, sl_lst, sl_frl, rv_tup, rv_lst, rv_frl, st_lst, st_frl, st_tup, mset_same, bxs_at, newL, wipeD, isN_non, isN_int, isN_bl, isN_str, isN_tup, isN_lst, isN_obj, rng_irg, isTy]; exact ih k y _ _ _ (hd.2 y hy) hk) (rtn_self h)
    | tup xs =>
      simp [startD, s_nil, s_cons, s_asg, s_par2, s_par3, s_aug, s_augS, s_expr, s_ret, s_retN, s_ite, s_for, s_brk, s_cnt, s_pass, s_never, for_step, lc_step, e_var, e_cst, e_bin, e_neg, e_not, e_and, e_or, e_cmp, e_chain, e_ife, e_tup, e_lst, e_ix, e_slc, e_rev, e_fld, e_call, e_meth, e_make, e_bi, e_bm, e_isi, e_lc, e_frz, e_sp, cont_nil, wEs, wG, wGs, wI, wIf, wO, ge0, geS, wIx, wCmp, wBin, wAug, wBi, wBm, arrD, sq_lst, sq_frl, sq_tup, lq_lst, isi_int, isi_bl, isi_str, isi_non, isi_lst, isi_frl, isi_tup, sl_tup, sl_lst, sl_frl, rv_tup, rv_lst, rv_frl, st_lst, st_frl, st_tup, mset_same, bxs_at, newL, wipeD, isN_non, isN_int, isN_bl, isN_str, isN_tup, isN_lst, isN_obj, rng_irg, isTy, cont_cons, same3]
      exact same_zip hd.1 (fun y hy kk hk => by simp [startD, s_nil, s_cons, s_asg, s_par2, s_par3, s_aug, s_augS, s_expr, s_ret, s_retN, s_ite, s_for, s_brk, s_cnt, s_pass, s_never, for_step, lc_step, e_var, e_cst, e_bin, e_neg, e_not, e_and, e_or, e_cmp, e_chain, e_ife, e_tup, e_lst, e_ix, e_slc, e_rev, e_fld, e_call, e_meth, e_make, e_bi, e_bm, e_isi, e_lc, e_frz, e_sp, cont_nil, wEs, wG, wGs, wI, wIf, wO, ge0, geS, wIx, wCmp, wBin, wAug, wBi, wBm, arrD, sq_lst, sq_frl, sq_tup, lq_lst, isi_int, isi_bl, isi_str, isi_non, isi_lst, isi_frl, isi_tup, sl_tup, sl_lst, sl_frl, rv_tup, rv_lst, rv_frl, st_lst, st_frl, st_tup, mset_same, bxs_at, newL, wipeD, isN_non, isN_int, isN_bl, isN_str, isN_tup, isN_lst, isN_obj, rng_irg, isTy]; exact ih k y _ _ _ (hd.2 y hy) hk) (rtn_self h)
    | _ => exact hd.elim⟩
theorem len_sub : ∀ {out is : List Int}, out.Nodup → (∀ k ∈ out, k ∈ is) → out.length ≤ is.length
  | [], _, _, _ => Nat.zero_le _
  | a :: r, is, hn, hs => by
    have ha : a ∈ is := hs a List.mem_cons_self
    have hr := List.nodup_cons.mp hn
    have := len_sub (out := r) (is := is.erase a) hr.2 fun k hk => (List.mem_erase_of_ne (fun e => hr.1 (by rw [← e]; exact hk))).mpr (hs k (List.mem_cons_of_mem _ hk))
    rw [List.length_erase_of_mem ha] at this
    have hp : 0 < is.length := List.length_pos_of_mem ha
    simp only [List.length_cons]
    omega
theorem ups_of : ∀ {out : List Int}, out.Pairwise (· < ·) → ups out = true
  | [], _ => rfl
  | [_], _ => rfl
  | a :: b :: r, h => by
    have h2 := List.pairwise_cons.mp h
    simp only [ups, Bool.and_eq_true, decide_eq_true_eq]
    exact ⟨h2.1 b List.mem_cons_self, ups_of h2.2⟩
/-- a comprehension whose turns leave cells behind -/
theorem lc_free {α : Type} {g : MM → Prop} {step : Sw.D → MM → (Option Sw.D → MM → Prop) → Prop} {Φ : List Sw.D → MM → Prop} {e : α → Sw.D} (f : α → Sw.D) (hg : ∀ M, g M) : ∀ {xs : List α} {acc : List Sw.D} {M : MM}, (∀ x ∈ xs, ∀ (M : MM) (k : Option Sw.D → MM → Prop), (∀ M', k (some (f x)) M') → step (e x) M k) → (∀ M', Φ (acc ++ xs.map f) M') → lcRun g step (xs.map e) acc M Φ
  | [], acc, M, _, h => ⟨hg M, by simpa using h M⟩
  | x :: r, acc, M, hs, h => ⟨hg M, hs x List.mem_cons_self M _ fun M' => lc_free f hg (xs := r) (acc := acc ++ (some (f x)).toList) (fun y m => hs y (List.mem_cons_of_mem _ m)) (by simpa using h)⟩
/-- all of some boxes are right -/
def lawAll (N : Int) : Ss := (.cons (.ret (.bi false .all (.cons (.lc false (.call "_law_right" [.at_ 0] (.cons (.call "_law_box" [.at_ 0, .at_ 1] (.cons (.var 0) (.cons (.var 1) .nil)) .nil) .nil) .nil) (.name 1) (.range1 (.bin false .Add (.cst (.int 1)) (.bi false .min2 (.cons (.cst (.int N)) (.cons (.bi false .len (.cons (.var 0) .nil)) .nil))))) .no [1]) .nil))) .nil)
theorem law_all {T : Tb} {N : Int} [CBox T] [Row T "law" ⟨"law", 1, 2, lawAll N⟩] (h0 : 0 ≤ N) (h1 : N ≤ 100) {ns : List Int} (hl : ns.length ≤ 63)
    (hr : ∀ (M : MM) (b : Addr) (B : Box) (Φ : CallC), M b = none → Rdy (2 ^ 39) B → (∀ M', Φ (.bl true) M') → callAt T 39 "_law_right" [.loc b] (bxs M b B) Φ noX) : callAt T 40 "law" [.frl (ns.map Sw.D.int)] (fun _ => none) (fun d _ => d = .bl true) noX := by
  refine call_row rfl ?_
  simp only [startD, s_nil, s_cons, s_asg, s_par2, s_par3, s_aug, s_augS, s_expr, s_ret, s_retN, s_ite, s_for, s_brk, s_cnt, s_pass, s_never, for_step, lc_step, e_var, e_cst, e_bin, e_neg, e_not, e_and, e_or, e_cmp, e_chain, e_ife, e_tup, e_lst, e_ix, e_slc, e_rev, e_fld, e_call, e_meth, e_make, e_bi, e_bm, e_isi, e_lc, e_frz, e_sp, cont_nil, wEs, wG, wGs, wI, wIf, wO, ge0, geS, wIx, wCmp, wBin, wAug, wBi, wBm, arrD, sq_lst, sq_frl, sq_tup, lq_lst, isi_int, isi_bl, isi_str, isi_non, isi_lst, isi_frl, isi_tup, sl_tup, sl_lst, sl_frl, rv_tup, rv_lst, rv_frl, st_lst, st_frl, st_tup, mset_same, bxs_at, newL, wipeD, isN_non, isN_int, isN_bl, isN_str, isN_tup, isN_lst, isN_obj, rng_irg, isTy, List.map_cons, List.map_nil, Nat.reduceSub, List.replicate_succ, List.replicate_zero, List.set_cons_zero, List.set_cons_succ, List.cons_append, List.nil_append, List.length_cons, List.length_nil, List.any_cons, List.any_nil, decide_eq_true_eq, Bool.not_eq_true', decide_eq_false_iff_not, if_true, if_false, reduceIte, Bool.false_eq_true, Bool.true_eq_false, Bool.not_true, Bool.not_false, true_and, and_true, Bool.or_false, Bool.or_true, Bool.true_or, Bool.false_or, beq_self_eq_true, List.getD_cons_zero, List.getD_cons_succ, not_true_eq_false, not_false_eq_true, ne_eq, Nat.zero_add, Nat.reduceAdd, Nat.reduceLeDiff, Int.reduceNeg, eq_self, lawAll, List.length_map]
  have hm : ∃ m : Int, (if (ns.length : Int) < N then (ns.length : Int) else N) = m ∧ 0 ≤ m ∧ m ≤ 63 + N := by
    split
    · exact ⟨_, rfl, by omega, by omega⟩
    · exact ⟨_, rfl, by omega, by omega⟩
  obtain ⟨m, em, hm0, hm1⟩ := hm
  rw [em]
  refine ⟨by omega, by omega, by rw [irg_len]; exact small_size (by omega), ?_⟩
  refine lc_free (fun _ => .bl true) (fun _ => trivial) (fun x hx M k hk => ?_) fun M' => ?_
  · have := irg_mem hx
    simp only [startD, s_nil, s_cons, s_asg, s_par2, s_par3, s_aug, s_augS, s_expr, s_ret, s_retN, s_ite, s_for, s_brk, s_cnt, s_pass, s_never, for_step, lc_step, e_var, e_cst, e_bin, e_neg, e_not, e_and, e_or, e_cmp, e_chain, e_ife, e_tup, e_lst, e_ix, e_slc, e_rev, e_fld, e_call, e_meth, e_make, e_bi, e_bm, e_isi, e_lc, e_frz, e_sp, cont_nil, wEs, wG, wGs, wI, wIf, wO, ge0, geS, wIx, wCmp, wBin, wAug, wBi, wBm, arrD, sq_lst, sq_frl, sq_tup, lq_lst, isi_int, isi_bl, isi_str, isi_non, isi_lst, isi_frl, isi_tup, sl_tup, sl_lst, sl_frl, rv_tup, rv_lst, rv_frl, st_lst, st_frl, st_tup, mset_same, bxs_at, newL, wipeD, isN_non, isN_int, isN_bl, isN_str, isN_tup, isN_lst, isN_obj, rng_irg, isTy, List.map_cons, List.map_nil, Nat.reduceSub, List.replicate_succ, List.replicate_zero, List.set_cons_zero, List.set_cons_succ, List.cons_append, List.nil_append, List.length_cons, List.length_nil, List.any_cons, List.any_nil, decide_eq_true_eq, Bool.not_eq_true', decide_eq_false_iff_not, if_true, if_false, reduceIte, Bool.false_eq_true, Bool.true_eq_false, Bool.not_true, Bool.not_false, true_and, and_true, Bool.or_false, Bool.or_true, Bool.true_or, Bool.false_or, beq_self_eq_true, List.getD_cons_zero, List.getD_cons_succ, not_true_eq_false, not_false_eq_true, ne_eq, Nat.zero_add, Nat.reduceAdd, Nat.reduceLeDiff, Int.reduceNeg, eq_self]
    refine box_ok (by omega) (by omega) fun b B hb hB => ?_
    exact hr M b B _ hb hB fun M' => hk M'
  · obtain ⟨e1, e2⟩ := all_true (irg 0 (1 + m).toNat)
    simp only [startD, s_nil, s_cons, s_asg, s_par2, s_par3, s_aug, s_augS, s_expr, s_ret, s_retN, s_ite, s_for, s_brk, s_cnt, s_pass, s_never, for_step, lc_step, e_var, e_cst, e_bin, e_neg, e_not, e_and, e_or, e_cmp, e_chain, e_ife, e_tup, e_lst, e_ix, e_slc, e_rev, e_fld, e_call, e_meth, e_make, e_bi, e_bm, e_isi, e_lc, e_frz, e_sp, cont_nil, wEs, wG, wGs, wI, wIf, wO, ge0, geS, wIx, wCmp, wBin, wAug, wBi, wBm, arrD, sq_lst, sq_frl, sq_tup, lq_lst, isi_int, isi_bl, isi_str, isi_non, isi_lst, isi_frl, isi_tup, sl_tup, sl_lst, sl_frl, rv_tup, rv_lst, rv_frl, st_lst, st_frl, st_tup, mset_same, bxs_at, newL, wipeD, isN_non, isN_int, isN_bl, isN_str, isN_tup, isN_lst, isN_obj, rng_irg, isTy, List.map_cons, List.map_nil, Nat.reduceSub, List.replicate_succ, List.replicate_zero, List.set_cons_zero, List.set_cons_succ, List.cons_append, List.nil_append, List.length_cons, List.length_nil, List.any_cons, List.any_nil, decide_eq_true_eq, Bool.not_eq_true', decide_eq_false_iff_not, if_true, if_false, reduceIte, Bool.false_eq_true, Bool.true_eq_false, Bool.not_true, Bool.not_false, true_and, and_true, Bool.or_false, Bool.or_true, Bool.true_or, Bool.false_or, beq_self_eq_true, List.getD_cons_zero, List.getD_cons_succ, not_true_eq_false, not_false_eq_true, ne_eq, Nat.zero_add, Nat.reduceAdd, Nat.reduceLeDiff, Int.reduceNeg, eq_self, List.length_map, irg_len, e1, e2]
    exact ⟨small_le (by omega), rtn_self rfl⟩
end Pg
set_option maxRecDepth 100000
set_option maxHeartbeats 1000000
/-! Pd: memories, strings, steps by draws (family of k20 to k31). -/
namespace Pg
open PySem Sw
def steps1 : Ss := (.cons (.ret (.bi false .tuple (.cons (.sp false .sset (.cons (.lc false (.bin false .Sub (.call "_law_take" [.at_ 0, .at_ 1] (.cons (.var 0) (.cons (.bin false .Add (.bin false .Mult (.cst (.int 2)) (.var 1)) (.cst (.int 1))) .nil)) .nil) (.var 1)) (.name 2) (.range1 (.bin false .Add (.cst (.int 1)) (.call "_law_take" [.at_ 0, .at_ 1] (.cons (.var 0) (.cons (.cst (.int 4)) .nil)) .nil))) .no [2]) .nil)) .nil))) .nil)
/-- a sign -/
def Sgn (s : Int) : Prop := s = -1 ∨ s = 0 ∨ s = 1
def memory1 : Ss := (.cons (.asg (.name 2) (.ix (.lst false (.cons (.bin false .Add (.cst (.int 2)) (.call "_law_take" [.at_ 0, .at_ 1] (.cons (.var 0) (.cons (.cst (.int 4)) .nil)) .nil)) (.cons (.bin false .Add (.cst (.int 1)) (.call "_law_take" [.at_ 0, .at_ 1] (.cons (.var 0) (.cons (.cst (.int 5)) .nil)) .nil)) (.cons (.bin false .Add (.cst (.int 2)) (.call "_law_take" [.at_ 0, .at_ 1] (.cons (.var 0) (.cons (.cst (.int 4)) .nil)) .nil)) .nil)))) (.bin false .Add (.var 1) (.cst (.int 1))))) (.cons (.asg (.name 3) (.lc true (.bin false .Sub (.call "_law_take" [.at_ 0, .at_ 1] (.cons (.var 0) (.cons (.cst (.int 7)) .nil)) .nil) (.cst (.int 3))) (.name 5) (.range1 (.var 2)) .no [5])) (.cons (.asg (.sub (.var 3) (.neg (.cst (.int 1)))) (.call "_law_pick" [.at_ 0, .at_ 1] (.cons (.var 0) (.cons (.lst false (.cons (.cst (.int 1)) (.cons (.cst (.int 1)) (.cons (.neg (.cst (.int 1))) (.cons (.cst (.int 2)) (.cons (.neg (.cst (.int 3))) .nil)))))) .nil)) .nil)) (.cons (.for_ (.name 4) (.range1 (.bin false .FloorDiv (.var 2) (.cst (.int 2)))) (.cons (.asg (.sub (.var 3) (.var 4)) (.ife (.cmp .NotEq (.var 1) (.cst (.int 0))) (.bin false .Mult (.var 1) (.ix (.var 3) (.bin false .Sub (.bin false .Sub (.var 2) (.cst (.int 1))) (.var 4)))) (.ix (.var 3) (.var 4)))) .nil)) (.cons (.ite (.and (.cmp .Lt (.var 1) (.cst (.int 0))) (.cmp .Eq (.bin false .Mod (.var 2) (.cst (.int 2))) (.cst (.int 1)))) (.cons (.asg (.sub (.var 3) (.bin false .FloorDiv (.var 2) (.cst (.int 2)))) (.cst (.int 0))) .nil) .nil) (.cons (.asg (.sub (.var 3) (.cst (.int 0))) (.ife (.cmp .NotEq (.var 1) (.cst (.int 0))) (.ix (.var 3) (.cst (.int 0))) (.cst (.int 4)))) (.cons (.ret (.bi false .tuple (.cons (.var 3) .nil))) .nil)))))))
section
variable {T : Tb} {k : Nat} {M : MM} {b : Addr} {B : Box} {Φ Ψ : CallC}
theorem steps1_ok [CTake T] [Row T "_law_steps" ⟨"_law_steps", 2, 3, steps1⟩] {m : Int} (hB : Rdy 5 B) (hm : 0 ≤ m) (hm2 : m < 2 ^ 30)
    (h : ∀ ns B', StepsOk ns → (∀ x ∈ ns, -m ≤ x ∧ x ≤ m) → Nx 5 B B' → Φ (tI ns) (bxs M b B')) : callAt T (k + 2) "_law_steps" [.loc b, .int m] (bxs M b B) Φ Ψ := by
  refine call_row rfl ?_
  simp [startD, s_nil, s_cons, s_asg, s_par2, s_par3, s_aug, s_augS, s_expr, s_ret, s_retN, s_ite, s_for, s_brk, s_cnt, s_pass, s_never, for_step, lc_step, e_var, e_cst, e_bin, e_neg, e_not, e_and, e_or, e_cmp, e_chain, e_ife, e_tup, e_lst, e_ix, e_slc, e_rev, e_fld, e_call, e_meth, e_make, e_bi, e_bm, e_isi, e_lc, e_frz, e_sp, cont_nil, wEs, wG, wGs, wI, wIf, wO, ge0, geS, wIx, wCmp, wBin, wAug, wBi, wBm, arrD, sq_lst, sq_frl, sq_tup, lq_lst, isi_int, isi_bl, isi_str, isi_non, isi_lst, isi_frl, isi_tup, sl_tup, sl_lst, sl_frl, rv_tup, rv_lst, rv_frl, st_lst, st_frl, st_tup, mset_same, bxs_at, newL, wipeD, isN_non, isN_int, isN_bl, isN_str, isN_tup, isN_lst, isN_obj, rng_irg, isTy, steps1]
  refine take_ok (hB.le (by omega)) (by decide) (by decide) fun n B1 hn hn2 h1 => ?_
  simp [startD, s_nil, s_cons, s_asg, s_par2, s_par3, s_aug, s_augS, s_expr, s_ret, s_retN, s_ite, s_for, s_brk, s_cnt, s_pass, s_never, for_step, lc_step, e_var, e_cst, e_bin, e_neg, e_not, e_and, e_or, e_cmp, e_chain, e_ife, e_tup, e_lst, e_ix, e_slc, e_rev, e_fld, e_call, e_meth, e_make, e_bi, e_bm, e_isi, e_lc, e_frz, e_sp, cont_nil, wEs, wG, wGs, wI, wIf, wO, ge0, geS, wIx, wCmp, wBin, wAug, wBi, wBm, arrD, sq_lst, sq_frl, sq_tup, lq_lst, isi_int, isi_bl, isi_str, isi_non, isi_lst, isi_frl, isi_tup, sl_tup, sl_lst, sl_frl, rv_tup, rv_lst, rv_frl, st_lst, st_frl, st_tup, mset_same, bxs_at, newL, wipeD, isN_non, isN_int, isN_bl, isN_str, isN_tup, isN_lst, isN_obj, rng_irg, isTy]
  have hB1 := hB.nx h1 (c' := 4) (by omega)
  have hN : (irg 0 (1 + n).toNat).length = (1 + n).toNat := irg_len _ _
  refine ⟨by omega, by omega, small_size (by omega), ?_⟩
  refine lcb Sw.D.int (fun _ y => -m ≤ y ∧ y ≤ m) 1 0 (fun _ => trivial) (hB1.le (by omega)) (fun x hx B' kk hr hk => ?_) fun ys B' ha hr hn3 => ?_
  · try simp [startD, s_nil, s_cons, s_asg, s_par2, s_par3, s_aug, s_augS, s_expr, s_ret, s_retN, s_ite, s_for, s_brk, s_cnt, s_pass, s_never, for_step, lc_step, e_var, e_cst, e_bin, e_neg, e_not, e_and, e_or, e_cmp, e_chain, e_ife, e_tup, e_lst, e_ix, e_slc, e_rev, e_fld, e_call, e_meth, e_make, e_bi, e_bm, e_isi, e_lc, e_frz, e_sp, cont_nil, wEs, wG, wGs, wI, wIf, wO, ge0, geS, wIx, wCmp, wBin, wAug, wBi, wBm, arrD, sq_lst, sq_frl, sq_tup, lq_lst, isi_int, isi_bl, isi_str, isi_non, isi_lst, isi_frl, isi_tup, sl_tup, sl_lst, sl_frl, rv_tup, rv_lst, rv_frl, st_lst, st_frl, st_tup, mset_same, bxs_at, newL, wipeD, isN_non, isN_int, isN_bl, isN_str, isN_tup, isN_lst, isN_obj, rng_irg, isTy]
    refine ⟨mulL (by omega), take_ok (hr.le (by omega)) (by omega) (by omega) fun n2 B2 e1 e2 e3 => ?_⟩
    simp [startD, s_nil, s_cons, s_asg, s_par2, s_par3, s_aug, s_augS, s_expr, s_ret, s_retN, s_ite, s_for, s_brk, s_cnt, s_pass, s_never, for_step, lc_step, e_var, e_cst, e_bin, e_neg, e_not, e_and, e_or, e_cmp, e_chain, e_ife, e_tup, e_lst, e_ix, e_slc, e_rev, e_fld, e_call, e_meth, e_make, e_bi, e_bm, e_isi, e_lc, e_frz, e_sp, cont_nil, wEs, wG, wGs, wI, wIf, wO, ge0, geS, wIx, wCmp, wBin, wAug, wBi, wBm, arrD, sq_lst, sq_frl, sq_tup, lq_lst, isi_int, isi_bl, isi_str, isi_non, isi_lst, isi_frl, isi_tup, sl_tup, sl_lst, sl_frl, rv_tup, rv_lst, rv_frl, st_lst, st_frl, st_tup, mset_same, bxs_at, newL, wipeD, isN_non, isN_int, isN_bl, isN_str, isN_tup, isN_lst, isN_obj, rng_irg, isTy]
    exact hk (n2 - m) B2 ⟨by omega, by omega⟩ e3
  · have hl := ha.len
    simp [startD, s_nil, s_cons, s_asg, s_par2, s_par3, s_aug, s_augS, s_expr, s_ret, s_retN, s_ite, s_for, s_brk, s_cnt, s_pass, s_never, for_step, lc_step, e_var, e_cst, e_bin, e_neg, e_not, e_and, e_or, e_cmp, e_chain, e_ife, e_tup, e_lst, e_ix, e_slc, e_rev, e_fld, e_call, e_meth, e_make, e_bi, e_bm, e_isi, e_lc, e_frz, e_sp, cont_nil, wEs, wG, wGs, wI, wIf, wO, ge0, geS, wIx, wCmp, wBin, wAug, wBi, wBm, arrD, sq_lst, sq_frl, sq_tup, lq_lst, isi_int, isi_bl, isi_str, isi_non, isi_lst, isi_frl, isi_tup, sl_tup, sl_lst, sl_frl, rv_tup, rv_lst, rv_frl, st_lst, st_frl, st_tup, mset_same, bxs_at, newL, wipeD, isN_non, isN_int, isN_bl, isN_str, isN_tup, isN_lst, isN_obj, rng_irg, isTy, wSp, wInts, ints_id]
    refine ⟨small_le (by omega), by omega, fun out hp hm => ?_⟩
    have hle := len_sub (out := out) (is := ys) (List.Pairwise.imp (fun h => Int.ne_of_lt h) hp) (fun k hk => (hm k).mp hk)
    have hne : 1 ≤ out.length := by
      cases ys with
      | nil => simp at hl; omega
      | cons a r =>
        have := (hm a).mpr List.mem_cons_self
        exact List.length_pos_of_mem this
    refine ⟨small_le (by omega), ?_⟩
    refine rtn_self (h out B' ⟨hne, by omega, ups_of hp⟩ (fun x hx => ?_) ((h1.trans hn3).le (by omega)))
    obtain ⟨_, _, q⟩ := ha.mem ((hm x).mp hx)
    exact q
theorem memory1_ok [CTake T] [Row T "_law_pick" ⟨"_law_pick", 2, 2, pick1⟩] [Row T "_law_memory" ⟨"_law_memory", 2, 6, memory1⟩] {sg : Int} (hsg : Sgn sg) (hB : Rdy 9 B)
    (h : ∀ mm B', MemOk mm → (∀ x ∈ mm, -4 ≤ x ∧ x ≤ 4) → (sg = 1 → mm.reverse = mm) → (sg = -1 → mm.reverse = mm.map (fun x => -x) ∧ 2 ≤ mm.length) → Nx 9 B B' → Φ (tI mm) (bxs M b B')) : callAt T (k + 3) "_law_memory" [.loc b, .int sg] (bxs M b B) Φ Ψ := by
  refine call_row rfl ?_
  simp [startD, s_nil, s_cons, s_asg, s_par2, s_par3, s_aug, s_augS, s_expr, s_ret, s_retN, s_ite, s_for, s_brk, s_cnt, s_pass, s_never, for_step, lc_step, e_var, e_cst, e_bin, e_neg, e_not, e_and, e_or, e_cmp, e_chain, e_ife, e_tup, e_lst, e_ix, e_slc, e_rev, e_fld, e_call, e_meth, e_make, e_bi, e_bm, e_isi, e_lc, e_frz, e_sp, cont_nil, wEs, wG, wGs, wI, wIf, wO, ge0, geS, wIx, wCmp, wBin, wAug, wBi, wBm, arrD, sq_lst, sq_frl, sq_tup, lq_lst, isi_int, isi_bl, isi_str, isi_non, isi_lst, isi_frl, isi_tup, sl_tup, sl_lst, sl_frl, rv_tup, rv_lst, rv_frl, st_lst, st_frl, st_tup, mset_same, bxs_at, newL, wipeD, isN_non, isN_int, isN_bl, isN_str, isN_tup, isN_lst, isN_obj, rng_irg, isTy, memory1]
  refine take_ok (hB.le (by omega)) (by decide) (by decide) fun n1 B1 a1 a2 h1 => ?_
  refine take_ok (hB.nx h1 (by omega)) (by decide) (by decide) fun n2 B2 b1 b2 h2 => ?_
  refine take_ok (hB.nx (h1.trans h2) (by omega)) (by decide) (by decide) fun n3 B3 c1 c2 h3 => ?_
  have h13 := (h1.trans h2).trans h3
  have hsgb : -1 ≤ sg ∧ sg ≤ 1 := by rcases hsg with e | e | e <;> omega
  obtain ⟨n, hn0, hn5, hn2, hat⟩ : ∃ n : Int, 1 ≤ n ∧ n ≤ 5 ∧ (sg ≠ 0 → 2 ≤ n) ∧ ∀ k : Sw.D → Prop, k (.int n) → atD [Sw.D.int (2 + n1), Sw.D.int (1 + n2), Sw.D.int (2 + n3)] (sg + 1) k := by
    rcases hsg with e | e | e
    · exact ⟨2 + n1, by omega, by omega, by omega, fun k hk => atD_get (d := .int (2 + n1)) (by omega) (by subst e; rfl) hk⟩
    · exact ⟨1 + n2, by omega, by omega, by omega, fun k hk => atD_get (d := .int (1 + n2)) (by omega) (by subst e; rfl) hk⟩
    · exact ⟨2 + n3, by omega, by omega, by omega, fun k hk => atD_get (d := .int (2 + n3)) (by omega) (by subst e; rfl) hk⟩
  have hB3 := hB.nx h13 (c' := 6) (by omega)
  have hN : (irg 0 n.toNat).length = n.toNat := irg_len _ _
  simp [startD, s_nil, s_cons, s_asg, s_par2, s_par3, s_aug, s_augS, s_expr, s_ret, s_retN, s_ite, s_for, s_brk, s_cnt, s_pass, s_never, for_step, lc_step, e_var, e_cst, e_bin, e_neg, e_not, e_and, e_or, e_cmp, e_chain, e_ife, e_tup, e_lst, e_ix, e_slc, e_rev, e_fld, e_call, e_meth, e_make, e_bi, e_bm, e_isi, e_lc, e_frz, e_sp, cont_nil, wEs, wG, wGs, wI, wIf, wO, ge0, geS, wIx, wCmp, wBin, wAug, wBi, wBm, arrD, sq_lst, sq_frl, sq_tup, lq_lst, isi_int, isi_bl, isi_str, isi_non, isi_lst, isi_frl, isi_tup, sl_tup, sl_lst, sl_frl, rv_tup, rv_lst, rv_frl, st_lst, st_frl, st_tup, mset_same, bxs_at, newL, wipeD, isN_non, isN_int, isN_bl, isN_str, isN_tup, isN_lst, isN_obj, rng_irg, isTy]
  refine ⟨small_le (by decide), hat _ ?_⟩
  refine cont_step ?_
  simp [startD, s_nil, s_cons, s_asg, s_par2, s_par3, s_aug, s_augS, s_expr, s_ret, s_retN, s_ite, s_for, s_brk, s_cnt, s_pass, s_never, for_step, lc_step, e_var, e_cst, e_bin, e_neg, e_not, e_and, e_or, e_cmp, e_chain, e_ife, e_tup, e_lst, e_ix, e_slc, e_rev, e_fld, e_call, e_meth, e_make, e_bi, e_bm, e_isi, e_lc, e_frz, e_sp, cont_nil, wEs, wG, wGs, wI, wIf, wO, ge0, geS, wIx, wCmp, wBin, wAug, wBi, wBm, arrD, sq_lst, sq_frl, sq_tup, lq_lst, isi_int, isi_bl, isi_str, isi_non, isi_lst, isi_frl, isi_tup, sl_tup, sl_lst, sl_frl, rv_tup, rv_lst, rv_frl, st_lst, st_frl, st_tup, mset_same, bxs_at, newL, wipeD, isN_non, isN_int, isN_bl, isN_str, isN_tup, isN_lst, isN_obj, rng_irg, isTy]
  refine ⟨by omega, by omega, small_size (by omega), ?_⟩
  refine lcb Sw.D.int (fun _ y => -3 ≤ y ∧ y ≤ 3) 1 1 (fun _ => trivial) (hB3.le (by omega)) (fun x hx B' kk hr hk => ?_) fun ys B' ha hr hn3 => ?_
  · simp [startD, s_nil, s_cons, s_asg, s_par2, s_par3, s_aug, s_augS, s_expr, s_ret, s_retN, s_ite, s_for, s_brk, s_cnt, s_pass, s_never, for_step, lc_step, e_var, e_cst, e_bin, e_neg, e_not, e_and, e_or, e_cmp, e_chain, e_ife, e_tup, e_lst, e_ix, e_slc, e_rev, e_fld, e_call, e_meth, e_make, e_bi, e_bm, e_isi, e_lc, e_frz, e_sp, cont_nil, wEs, wG, wGs, wI, wIf, wO, ge0, geS, wIx, wCmp, wBin, wAug, wBi, wBm, arrD, sq_lst, sq_frl, sq_tup, lq_lst, isi_int, isi_bl, isi_str, isi_non, isi_lst, isi_frl, isi_tup, sl_tup, sl_lst, sl_frl, rv_tup, rv_lst, rv_frl, st_lst, st_frl, st_tup, mset_same, bxs_at, newL, wipeD, isN_non, isN_int, isN_bl, isN_str, isN_tup, isN_lst, isN_obj, rng_irg, isTy]
    refine take_ok (hr.le (by omega)) (by decide) (by decide) fun n2 B2 e1 e2 e3 => ?_
    exact hk (n2 - 3) B2 ⟨by omega, by omega⟩ e3
  have hl := ha.len
  simp [startD, s_nil, s_cons, s_asg, s_par2, s_par3, s_aug, s_augS, s_expr, s_ret, s_retN, s_ite, s_for, s_brk, s_cnt, s_pass, s_never, for_step, lc_step, e_var, e_cst, e_bin, e_neg, e_not, e_and, e_or, e_cmp, e_chain, e_ife, e_tup, e_lst, e_ix, e_slc, e_rev, e_fld, e_call, e_meth, e_make, e_bi, e_bm, e_isi, e_lc, e_frz, e_sp, cont_nil, wEs, wG, wGs, wI, wIf, wO, ge0, geS, wIx, wCmp, wBin, wAug, wBi, wBm, arrD, sq_lst, sq_frl, sq_tup, lq_lst, isi_int, isi_bl, isi_str, isi_non, isi_lst, isi_frl, isi_tup, sl_tup, sl_lst, sl_frl, rv_tup, rv_lst, rv_frl, st_lst, st_frl, st_tup, mset_same, bxs_at, newL, wipeD, isN_non, isN_int, isN_bl, isN_str, isN_tup, isN_lst, isN_obj, rng_irg, isTy]
  refine ⟨small_le (by omega), fun a hfr => ?_⟩
  obtain ⟨hab, hMa⟩ := bxs_fresh hfr
  rw [bxs_mset hab]
  refine cont_step ?_
  simp [startD, s_nil, s_cons, s_asg, s_par2, s_par3, s_aug, s_augS, s_expr, s_ret, s_retN, s_ite, s_for, s_brk, s_cnt, s_pass, s_never, for_step, lc_step, e_var, e_cst, e_bin, e_neg, e_not, e_and, e_or, e_cmp, e_chain, e_ife, e_tup, e_lst, e_ix, e_slc, e_rev, e_fld, e_call, e_meth, e_make, e_bi, e_bm, e_isi, e_lc, e_frz, e_sp, cont_nil, wEs, wG, wGs, wI, wIf, wO, ge0, geS, wIx, wCmp, wBin, wAug, wBi, wBm, arrD, sq_lst, sq_frl, sq_tup, lq_lst, isi_int, isi_bl, isi_str, isi_non, isi_lst, isi_frl, isi_tup, sl_tup, sl_lst, sl_frl, rv_tup, rv_lst, rv_frl, st_lst, st_frl, st_tup, mset_same, bxs_at, newL, wipeD, isN_non, isN_int, isN_bl, isN_str, isN_tup, isN_lst, isN_obj, rng_irg, isTy]
  refine ⟨small_le (by decide), ?_⟩
  refine pick_ok hr (xs := [.int 1, .int 1, .int (-1), .int 2, .int (-3)]) (fun _ => rfl) (by simp) (by decide) fun x B4 hx h4 => ?_
  obtain ⟨z, rfl, hz⟩ : ∃ z : Int, x = .int z ∧ (z ≠ 0 ∧ -3 ≤ z ∧ z ≤ 3) := by
    simp only [List.mem_cons, List.not_mem_nil, or_false] at hx
    rcases hx with rfl | rfl | rfl | rfl | rfl
    · exact ⟨1, rfl, by omega⟩
    · exact ⟨1, rfl, by omega⟩
    · exact ⟨-1, rfl, by omega⟩
    · exact ⟨2, rfl, by omega⟩
    · exact ⟨-3, rfl, by omega⟩
  refine setI_locN (bxs_cell hab) (by decide) (by simp; omega) ?_
  rw [bxs_up hab, map_set_int, List.length_map]
  have hdv : 0 ≤ n / 2 ∧ n / 2 < n := by omega
  have hys : ∀ y ∈ ys, -3 ≤ y ∧ y ≤ 3 := fun y hy => (ha.mem hy).elim fun _ q => q.2
  refine cont_step ?_
  simp [startD, s_nil, s_cons, s_asg, s_par2, s_par3, s_aug, s_augS, s_expr, s_ret, s_retN, s_ite, s_for, s_brk, s_cnt, s_pass, s_never, for_step, lc_step, e_var, e_cst, e_bin, e_neg, e_not, e_and, e_or, e_cmp, e_chain, e_ife, e_tup, e_lst, e_ix, e_slc, e_rev, e_fld, e_call, e_meth, e_make, e_bi, e_bm, e_isi, e_lc, e_frz, e_sp, cont_nil, wEs, wG, wGs, wI, wIf, wO, ge0, geS, wIx, wCmp, wBin, wAug, wBi, wBm, arrD, sq_lst, sq_frl, sq_tup, lq_lst, isi_int, isi_bl, isi_str, isi_non, isi_lst, isi_frl, isi_tup, sl_tup, sl_lst, sl_frl, rv_tup, rv_lst, rv_frl, st_lst, st_frl, st_tup, mset_same, bxs_at, newL, wipeD, isN_non, isN_int, isN_bl, isN_str, isN_tup, isN_lst, isN_obj, rng_irg, isTy]
  refine ⟨cdw (by decide) (by decide), by omega, by omega, ?_⟩
  have hl2 : ys.length = n.toNat := by omega
  have fin : ∀ (ns : List Int) (y : Option Sw.D), ns.length = n.toNat → (∀ z ∈ ns, -4 ≤ z ∧ z ≤ 4) → ns.getD (n.toNat - 1) 0 ≠ 0 → (sg ≠ 0 → ∀ p : Nat, (p : Int) < n / 2 → ns.getD p 0 = sg * ns.getD (n.toNat - 1 - p) 0) →
      cont ⟨callAt T (k + 2), noX⟩ (.cons (.ite (.and (.cmp .Lt (.var 1) (.cst (.int 0))) (.cmp .Eq (.bin false .Mod (.var 2) (.cst (.int 2))) (.cst (.int 1)))) (.cons (.asg (.sub (.var 3) (.bin false .FloorDiv (.var 2) (.cst (.int 2)))) (.cst (.int 0))) .nil) .nil) (.cons (.asg (.sub (.var 3) (.cst (.int 0))) (.ife (.cmp .NotEq (.var 1) (.cst (.int 0))) (.ix (.var 3) (.cst (.int 0))) (.cst (.int 4)))) (.cons (.ret (.bi false .tuple (.cons (.var 3) .nil))) .nil)))
        { nx := fun _ M' => rtn Φ .non M', rt := rtn Φ } [some (.loc b), some (.int sg), some (.int n), some (.loc a), y, none] (bxs (mset M a (.lst (ns.map Sw.D.int))) b B4) := fun ns y e1 e2 e3 e4 => by
    have tail : ∀ (ns : List Int), ns.length = n.toNat → (∀ z ∈ ns, -4 ≤ z ∧ z ≤ 4) → ns.getD (n.toNat - 1) 0 ≠ 0 → (sg ≠ 0 → ∀ p : Nat, (p : Int) < n / 2 → ns.getD p 0 = sg * ns.getD (n.toNat - 1 - p) 0) → (sg = -1 → n % 2 = 1 → ns.getD (n / 2).toNat 0 = 0) →
      cont ⟨callAt T (k + 2), noX⟩ (.cons (.asg (.sub (.var 3) (.cst (.int 0))) (.ife (.cmp .NotEq (.var 1) (.cst (.int 0))) (.ix (.var 3) (.cst (.int 0))) (.cst (.int 4)))) (.cons (.ret (.bi false .tuple (.cons (.var 3) .nil))) .nil))
        { nx := fun _ M' => rtn Φ .non M', rt := rtn Φ } [some (.loc b), some (.int sg), some (.int n), some (.loc a), y, none] (bxs (mset M a (.lst (ns.map Sw.D.int))) b B4) := fun ns e1 e2 e3 e4 e5 => by
      have last : ∀ (ms : List Int), ms.length = n.toNat → (∀ z ∈ ms, -4 ≤ z ∧ z ≤ 4) → ms.getD (n.toNat - 1) 0 ≠ 0 → (sg = 1 → ms.reverse = ms) → (sg = -1 → ms.reverse = ms.map (fun x => -x) ∧ 2 ≤ ms.length) →
          cont ⟨callAt T (k + 2), noX⟩ (.cons (.ret (.bi false .tuple (.cons (.var 3) .nil))) .nil) { nx := fun _ M' => rtn Φ .non M', rt := rtn Φ } [some (.loc b), some (.int sg), some (.int n), some (.loc a), y, none] (bxs (mset M a (.lst (ms.map Sw.D.int))) b B4) := fun ms g1 g2 g3 g4 g5 => by
        refine cont_step ?_
        simp [startD, s_nil, s_cons, s_asg, s_par2, s_par3, s_aug, s_augS, s_expr, s_ret, s_retN, s_ite, s_for, s_brk, s_cnt, s_pass, s_never, for_step, lc_step, e_var, e_cst, e_bin, e_neg, e_not, e_and, e_or, e_cmp, e_chain, e_ife, e_tup, e_lst, e_ix, e_slc, e_rev, e_fld, e_call, e_meth, e_make, e_bi, e_bm, e_isi, e_lc, e_frz, e_sp, cont_nil, wEs, wG, wGs, wI, wIf, wO, ge0, geS, wIx, wCmp, wBin, wAug, wBi, wBm, arrD, sq_lst, sq_frl, sq_tup, lq_lst, isi_int, isi_bl, isi_str, isi_non, isi_lst, isi_frl, isi_tup, sl_tup, sl_lst, sl_frl, rv_tup, rv_lst, rv_frl, st_lst, st_frl, st_tup, mset_same, bxs_at, newL, wipeD, isN_non, isN_int, isN_bl, isN_str, isN_tup, isN_lst, isN_obj, rng_irg, isTy, sq_loc (bxs_cell hab)]
        refine rtn_box hMa (h ms B4 ⟨fun e => by rw [e] at g1; simp at g1; omega, by omega, fun e => ?_⟩ g2 g4 g5 ((h13.trans (hn3.trans h4)).le (by omega)))
        rw [List.getLast?_eq_getElem?, g1] at e
        rw [List.getD_eq_getElem?_getD, e] at g3
        exact g3 rfl
      refine cont_step ?_
      simp [startD, s_nil, s_cons, s_asg, s_par2, s_par3, s_aug, s_augS, s_expr, s_ret, s_retN, s_ite, s_for, s_brk, s_cnt, s_pass, s_never, for_step, lc_step, e_var, e_cst, e_bin, e_neg, e_not, e_and, e_or, e_cmp, e_chain, e_ife, e_tup, e_lst, e_ix, e_slc, e_rev, e_fld, e_call, e_meth, e_make, e_bi, e_bm, e_isi, e_lc, e_frz, e_sp, cont_nil, wEs, wG, wGs, wI, wIf, wO, ge0, geS, wIx, wCmp, wBin, wAug, wBi, wBm, arrD, sq_lst, sq_frl, sq_tup, lq_lst, isi_int, isi_bl, isi_str, isi_non, isi_lst, isi_frl, isi_tup, sl_tup, sl_lst, sl_frl, rv_tup, rv_lst, rv_frl, st_lst, st_frl, st_tup, mset_same, bxs_at, newL, wipeD, isN_non, isN_int, isN_bl, isN_str, isN_tup, isN_lst, isN_obj, rng_irg, isTy, sq_loc (bxs_cell hab)]
      by_cases hz : sg = 0
      · simp [hz]
        refine setI_loc (bxs_cell hab) (by decide) (by simp; omega) ?_
        rw [bxs_up hab, show (0 : Int).toNat = 0 from rfl, map_set_int]
        subst hz
        refine last _ (by simpa using e1) (fun z hz => ?_) ?_ (fun e => absurd e (by decide)) (fun e => absurd e (by decide))
        · rcases List.mem_or_eq_of_mem_set hz with q | q
          · exact e2 z q
          · omega
        · rw [getD_set (by omega)]
          split
          · decide
          · exact e3
      · simp [hz]
        refine atD_int (by decide) (by omega) ?_
        refine setI_loc (bxs_cell hab) (by decide) (by simp; omega) ?_
        have e0 : ns.set (0 : Int).toNat (ns.getD (0 : Int).toNat 0) = ns := by
          refine ext_getD (by simp) fun i hi => ?_
          rw [getD_set (by simp; omega)]
          split
          · rename_i q; rw [q]
          · rfl
        rw [bxs_up hab, map_set_int, e0]
        have sym : ∀ i : Nat, i < ns.length → ns.getD i 0 = sg * ns.getD (ns.length - 1 - i) 0 := fun i hi => by
          by_cases c : (i : Int) < n / 2
          · rw [e4 hz i c, e1]
          · by_cases c2 : (i : Int) = n / 2 ∧ n % 2 = 1
            · have ei : ns.length - 1 - i = i := by omega
              rw [ei]
              rcases hsg with q | q | q
              · have := e5 q c2.2
                rw [show (n / 2).toNat = i by omega] at this
                rw [this]; simp
              · exact absurd q hz
              · rw [q]; omega
            · have h2 := e4 hz (n.toNat - 1 - i) (by omega)
              rw [show n.toNat - 1 - (n.toNat - 1 - i) = i by omega] at h2
              rw [e1, h2]
              rcases hsg with q | q | q
              · rw [q]; omega
              · exact absurd q hz
              · rw [q]; omega
        refine last ns e1 e2 e3 (fun q => ?_) (fun q => ⟨?_, by have := hn2 hz; omega⟩)
        · refine ext_getD (by simp) fun i hi => ?_
          rw [List.length_reverse] at hi
          rw [getD_rev hi, sym i hi, q]; omega
        · refine ext_getD (by simp) fun i hi => ?_
          rw [List.length_reverse] at hi
          rw [getD_rev hi, getD_map hi, sym i hi, q]; omega
    refine cont_step ?_
    simp [startD, s_nil, s_cons, s_asg, s_par2, s_par3, s_aug, s_augS, s_expr, s_ret, s_retN, s_ite, s_for, s_brk, s_cnt, s_pass, s_never, for_step, lc_step, e_var, e_cst, e_bin, e_neg, e_not, e_and, e_or, e_cmp, e_chain, e_ife, e_tup, e_lst, e_ix, e_slc, e_rev, e_fld, e_call, e_meth, e_make, e_bi, e_bm, e_isi, e_lc, e_frz, e_sp, cont_nil, wEs, wG, wGs, wI, wIf, wO, ge0, geS, wIx, wCmp, wBin, wAug, wBi, wBm, arrD, sq_lst, sq_frl, sq_tup, lq_lst, isi_int, isi_bl, isi_str, isi_non, isi_lst, isi_frl, isi_tup, sl_tup, sl_lst, sl_frl, rv_tup, rv_lst, rv_frl, st_lst, st_frl, st_tup, mset_same, bxs_at, newL, wipeD, isN_non, isN_int, isN_bl, isN_str, isN_tup, isN_lst, isN_obj, rng_irg, isTy]
    by_cases hneg : sg < 0
    · by_cases hodd : n % 2 = 1
      · simp [hneg, hodd]
        refine ⟨cdw (by decide) (by decide), ?_⟩
        refine setI_loc (bxs_cell hab) (by omega) (by simp; omega) ?_
        rw [bxs_up hab, map_set_int]
        have h2n : 2 ≤ n := hn2 (by omega)
        refine tail _ (by simpa using e1) (fun z hz => ?_) ?_ (fun hz p hp => ?_) fun _ _ => ?_
        · rcases List.mem_or_eq_of_mem_set hz with q | q
          · exact e2 z q
          · omega
        · rw [getD_set (by omega), if_neg (by omega)]
          exact e3
        · rw [getD_set (by omega), getD_set (by omega), if_neg (by omega), if_neg (by omega)]
          exact e4 hz p hp
        · rw [getD_set (by omega), if_pos rfl]
      · simp [hneg, hodd]
        exact tail ns e1 e2 e3 e4 fun _ q => absurd q hodd
    · simp [hneg]
      exact tail ns e1 e2 e3 e4 fun q => by omega
  refine for_inv (e := Sw.D.int) (fun i Γ M' => ∃ (ns : List Int) (y : Option Sw.D), Γ = [some (.loc b), some (.int sg), some (.int n), some (.loc a), y, none] ∧ M' = bxs (mset M a (.lst (ns.map Sw.D.int))) b B4 ∧ ns.length = n.toNat ∧ (∀ z ∈ ns, -4 ≤ z ∧ z ≤ 4) ∧ ns.getD (n.toNat - 1) 0 ≠ 0 ∧
    (sg ≠ 0 → ∀ p : Nat, p < i → ns.getD p 0 = sg * ns.getD (n.toNat - 1 - p) 0)) (fun _ _ _ _ => trivial) (i := 0) ⟨ys.set (-1 + (ys.length : Int)).toNat z, none, rfl, by rw [← map_set_int], by simpa using hl2, fun w hw => ?_, ?_, fun _ p hp => absurd hp (Nat.not_lt_zero p)⟩ (fun j x hx Γ M' kk hP hk => ?_) (fun Γ' M' hP => ?_)
  · rcases List.mem_or_eq_of_mem_set hw with q | q
    · have := hys w q; omega
    · omega
  · rw [getD_set (by omega), if_pos (by omega)]
    exact hz.1
  · obtain ⟨ns, y, rfl, rfl, e1, e2, e3, e4⟩ := hP
    obtain ⟨ex, hj⟩ := irg_get hx
    rw [Nat.zero_add] at e4
    have ex' : x.toNat = j := by omega
    have store : ∀ w : Int, -4 ≤ w ∧ w ≤ 4 → (sg ≠ 0 → w = sg * ns.getD (n.toNat - 1 - j) 0) → wSetI (.loc a) (.int x) (.int w) (bxs (mset M a (.lst (ns.map Sw.D.int))) b B4) (kk [some (.loc b), some (.int sg), some (.int n), some (.loc a), some (.int x), none]) := fun w hw hs => by
      refine setI_loc (bxs_cell hab) (by omega) (by simp; omega) ?_
      rw [bxs_up hab, map_set_int, ex']
      refine hk _ _ ⟨_, _, rfl, rfl, by simpa using e1, fun z hz => ?_, ?_, fun q p hp => ?_⟩
      · rcases List.mem_or_eq_of_mem_set hz with q | q
        · exact e2 z q
        · omega
      · rw [getD_set (by omega), if_neg (by omega)]
        exact e3
      · rw [getD_set (by omega), getD_set (by omega)]
        by_cases c : j = p
        · rw [if_pos c, if_neg (by omega), ← c]
          exact hs q
        · rw [if_neg c, if_neg (by omega)]
          exact e4 q p (by omega)
    have hb : ∀ i : Nat, i < ns.length → -4 ≤ ns.getD i 0 ∧ ns.getD i 0 ≤ 4 := fun i hi => e2 _ (getD_mem hi)
    simp [startD, s_nil, s_cons, s_asg, s_par2, s_par3, s_aug, s_augS, s_expr, s_ret, s_retN, s_ite, s_for, s_brk, s_cnt, s_pass, s_never, for_step, lc_step, e_var, e_cst, e_bin, e_neg, e_not, e_and, e_or, e_cmp, e_chain, e_ife, e_tup, e_lst, e_ix, e_slc, e_rev, e_fld, e_call, e_meth, e_make, e_bi, e_bm, e_isi, e_lc, e_frz, e_sp, cont_nil, wEs, wG, wGs, wI, wIf, wO, ge0, geS, wIx, wCmp, wBin, wAug, wBi, wBm, arrD, sq_lst, sq_frl, sq_tup, lq_lst, isi_int, isi_bl, isi_str, isi_non, isi_lst, isi_frl, isi_tup, sl_tup, sl_lst, sl_frl, rv_tup, rv_lst, rv_frl, st_lst, st_frl, st_tup, mset_same, bxs_at, newL, wipeD, isN_non, isN_int, isN_bl, isN_str, isN_tup, isN_lst, isN_obj, rng_irg, isTy, sq_loc (bxs_cell hab)]
    by_cases hz : sg = 0
    · simp [hz]
      refine atD_int (by omega) (by omega) ?_
      subst hz
      exact store _ (hb _ (by omega)) (fun q => absurd rfl q)
    · simp [hz]
      refine atD_int (by omega) (by omega) ?_
      have hq := hb (n.toNat - 1 - j) (by omega)
      rw [show (n - 1 - x).toNat = n.toNat - 1 - j by omega]
      refine ⟨mulL (by omega), ?_⟩
      refine store _ ?_ fun _ => rfl
      rcases hsg with q | q | q
      · rw [q]; omega
      · exact absurd q hz
      · rw [q]; omega
  · obtain ⟨ns, y, rfl, rfl, e1, e2, e3, e4⟩ := hP
    refine fin ns y e1 e2 e3 fun q p hp => e4 q p ?_
    rw [irg_len]
    omega
end
end Pg
set_option maxRecDepth 100000
set_option maxHeartbeats 1000000
/-! Pe: strings straight or turned by scales, by draws. -/
namespace Pg
open PySem Sw
def strings1 : Ss := (.cons (.asg (.tup (.cons (.name 4) (.cons (.name 5) .nil))) (.tup (.cons (.call "_law_take" [.at_ 0, .at_ 1] (.cons (.var 0) (.cons (.cst (.int 3)) .nil)) .nil) (.cons (.bin false .Add (.cst (.int 1)) (.call "_law_take" [.at_ 0, .at_ 1] (.cons (.var 0) (.cons (.cst (.int 3)) .nil)) .nil)) .nil)))) (.cons (.par2 6 7 (.lc false (.ix (.lst false (.cons (.cst (.int 1)) (.cons (.bin false .Add (.cst (.int 1)) (.call "_law_take" [.at_ 0, .at_ 1] (.cons (.var 0) (.cons (.cst (.int 9)) .nil)) .nil)) .nil))) (.bi false .int_ (.cons (.cmp .Gt (.var 4) (.cst (.int 0))) .nil))) (.name 10) (.range1 (.var 1)) .no [10]) (.lst true .nil)) (.cons (.for_ (.name 3) (.range1 (.var 1)) (.cons (.expr (.bm false .append (.var 7) (.cons (.bin true .Mult (.lst false (.cons (.cst (.int 0)) .nil)) (.var 1)) .nil))) .nil)) (.cons (.for_ (.name 3) (.range1 (.var 1)) (.cons (.for_ (.name 8) (.range2 (.var 3) (.var 1)) (.cons (.asg (.name 9) (.bin false .Mult (.bin false .Sub (.call "_law_take" [.at_ 0, .at_ 1] (.cons (.var 0) (.cons (.cst (.int 11)) .nil)) .nil) (.cst (.int 5))) (.bi false .int_ (.cons (.cmp .Eq (.call "_law_take" [.at_ 0, .at_ 1] (.cons (.var 0) (.cons (.var 5) .nil)) .nil) (.cst (.int 0))) .nil)))) (.cons (.asg (.name 9) (.bin false .Mult (.var 9) (.bi false .int_ (.cons (.or (.cmp .Gt (.var 2) (.cst (.int 0))) (.cmp .Lt (.var 3) (.var 8))) .nil)))) (.cons (.asg (.sub (.ix (.var 7) (.var 3)) (.var 8)) (.bin false .Mult (.var 9) (.ix (.var 6) (.var 8)))) (.cons (.asg (.sub (.ix (.var 7) (.var 8)) (.var 3)) (.ife (.cmp .Gt (.var 8) (.var 3)) (.bin false .Mult (.bin false .Mult (.var 2) (.var 9)) (.ix (.var 6) (.var 3))) (.ix (.ix (.var 7) (.var 3)) (.var 8)))) .nil))))) .nil)) (.cons (.ret (.tup (.cons (.lc false (.bi false .tuple (.cons (.var 11) .nil)) (.name 11) (.seq (.var 7)) .no [11]) (.cons (.var 6) .nil)))) .nil)))))
/-- rows that are one's own -/
structure Mat (M : MM) (rr b : Addr) (cs : List Addr) (R : List (List Int)) : Prop where
  r : M rr = some (.lst (cs.map Sw.D.loc))
  c : ∀ i c, cs[i]? = some c → M c = some (.lst ((R.getD i []).map Sw.D.int))
  nd : cs.Nodup
  rn : rr ∉ cs
  rb : rr ≠ b
  cb : ∀ c ∈ cs, c ≠ b
section
variable {M : MM} {rr b : Addr} {cs : List Addr} {R : List (List Int)} {B : Box}
theorem Mat.seq (h : Mat M rr b cs R) : seqOf (bxs M b B) (.loc rr) = some (cs.map Sw.D.loc) := sq_loc (by rw [bxs_ne h.rb]; exact h.r)
theorem Mat.row (h : Mat M rr b cs R) {i : Nat} {c : Addr} (e : cs[i]? = some c) : bxs M b B c = some (.lst ((R.getD i []).map Sw.D.int)) := by
  rw [bxs_ne (h.cb c (List.mem_of_getElem? e))]
  exact h.c i c e
theorem Mat.put (h : Mat M rr b cs R) {i j : Nat} {c : Addr} {v : Int} (e : cs[i]? = some c) (hi : i < R.length) : Mat (mset M c (.lst (((R.getD i []).set j v).map Sw.D.int))) rr b cs (entSet R i j v) where
  r := by
    rw [mset_ne (fun z => h.rn (by rw [z]; exact List.mem_of_getElem? e))]
    exact h.r
  c := fun a d ea => by
    unfold entSet
    rw [getD_setL hi]
    by_cases q : i = a
    · subst q
      rw [e] at ea
      cases ea
      rw [mset_same, if_pos rfl]
    · rw [if_neg q, mset_ne (fun z => q ?_)]
      · exact h.c a d ea
      · subst z
        have h1 : i < cs.length := by
          rcases Nat.lt_or_ge i cs.length with q | q
          · exact q
          · rw [List.getElem?_eq_none q] at e; cases e
        have h2 : a < cs.length := by
          rcases Nat.lt_or_ge a cs.length with q | q
          · exact q
          · rw [List.getElem?_eq_none q] at ea; cases ea
        rw [List.getElem?_eq_getElem h1] at e
        rw [List.getElem?_eq_getElem h2] at ea
        exact (List.getElem_inj h.nd).mp ((Option.some.inj e).trans (Option.some.inj ea).symm)
  nd := h.nd
  rn := h.rn
  rb := h.rb
  cb := h.cb
theorem Mat.at (h : Mat M rr b cs R) {i : Int} (h0 : 0 ≤ i) (hi : i < cs.length) : ∃ c, cs[i.toNat]? = some c ∧ ∀ k : Sw.D → Prop, k (.loc c) → atD (cs.map Sw.D.loc) i k := by
  have hl : i.toNat < cs.length := by omega
  refine ⟨cs[i.toNat], List.getElem?_eq_getElem hl, fun k hk => atD_get h0 (d := .loc cs[i.toNat]) ?_ hk⟩
  rw [List.getElem?_map, List.getElem?_eq_getElem hl]
  rfl
end
/-- straight (sg 1) or turned (sg -1) by scales -/
def Bal (own : List Int) (sg : Int) (R : List (List Int)) (n : Nat) : Prop := ∀ i j, i < n → j < n → own.getD i 0 * ent R i j = sg * (own.getD j 0 * ent R j i)
def Small (z : Int) (R : List (List Int)) (n : Nat) : Prop := ∀ i j, i < n → j < n → -z ≤ ent R i j ∧ ent R i j ≤ z
theorem Mat.more {M : MM} {rr b a : Addr} {cs : List Addr} {R : List (List Int)} {r : List Int} (h : Mat M rr b cs R) (hl : R.length = cs.length) (ha : M a = none) (hab : a ≠ b) : Mat (mset (mset M a (.lst (r.map Sw.D.int))) rr (.lst ((cs.map Sw.D.loc) ++ [.loc a]))) rr b (cs ++ [a]) (R ++ [r]) where
  r := by rw [mset_same]; simp
  c := fun i c e => by
    have har : a ≠ rr := fun z => by rw [z, h.r] at ha; cases ha
    rcases Nat.lt_trichotomy i cs.length with q | q | q
    · rw [List.getElem?_append_left q] at e
      have hc := h.c i c e
      have hcr : c ≠ rr := fun z => h.rn (by rw [← z]; exact List.mem_of_getElem? e)
      have hca : c ≠ a := fun z => by rw [z, ha] at hc; cases hc
      rw [mset_ne hcr, mset_ne hca, hc]
      congr 3
      rw [List.getD_eq_getElem?_getD, List.getD_eq_getElem?_getD, List.getElem?_append_left (by omega)]
    · subst q
      have ec : a = c := by simpa using e
      subst ec
      rw [mset_ne har, mset_same]
      congr 3
      rw [List.getD_eq_getElem?_getD, ← hl]
      simp
    · rw [List.getElem?_eq_none (by simp; omega)] at e; cases e
  nd := by
    refine List.nodup_append.mpr ⟨h.nd, by simp, fun x hx y hy => ?_⟩
    obtain ⟨i, hi⟩ := List.mem_iff_getElem?.mp hx
    have hc := h.c i x hi
    intro e
    have ey : y = a := by simpa using hy
    rw [e, ey, ha] at hc; cases hc
  rn := fun z => by
    rcases List.mem_append.mp z with q | q
    · exact h.rn q
    · have ez : rr = a := by simpa using q
      have hr := h.r
      rw [ez, ha] at hr; cases hr
  rb := h.rb
  cb := fun c hc => by
    rcases List.mem_append.mp hc with q | q
    · exact h.cb c q
    · have ez : c = a := by simpa using q
      rw [ez]; exact hab
theorem ent_repl {n m i j : Nat} : ent (List.replicate n (List.replicate m (0 : Int))) i j = 0 := by
  unfold ent
  rw [List.getD_eq_getElem?_getD, List.getD_eq_getElem?_getD]
  by_cases hi : i < n
  · rw [List.getElem?_replicate, if_pos hi]
    simp only [Option.getD_some]
    rw [List.getElem?_replicate]
    split <;> rfl
  · rw [List.getElem?_replicate, if_neg hi]
    rfl
section
variable {T : Tb} {k : Nat} {M : MM} {b : Addr} {B : Box} {Φ Ψ : CallC}
def sBody : Ss := (.cons (.asg (.name 9) (.bin false .Mult (.bin false .Sub (.call "_law_take" [.at_ 0, .at_ 1] (.cons (.var 0) (.cons (.cst (.int 11)) .nil)) .nil) (.cst (.int 5))) (.bi false .int_ (.cons (.cmp .Eq (.call "_law_take" [.at_ 0, .at_ 1] (.cons (.var 0) (.cons (.var 5) .nil)) .nil) (.cst (.int 0))) .nil)))) (.cons (.asg (.name 9) (.bin false .Mult (.var 9) (.bi false .int_ (.cons (.or (.cmp .Gt (.var 2) (.cst (.int 0))) (.cmp .Lt (.var 3) (.var 8))) .nil)))) (.cons (.asg (.sub (.ix (.var 7) (.var 3)) (.var 8)) (.bin false .Mult (.var 9) (.ix (.var 6) (.var 8)))) (.cons (.asg (.sub (.ix (.var 7) (.var 8)) (.var 3)) (.ife (.cmp .Gt (.var 8) (.var 3)) (.bin false .Mult (.bin false .Mult (.var 2) (.var 9)) (.ix (.var 6) (.var 3))) (.ix (.ix (.var 7) (.var 3)) (.var 8)))) .nil))))
structure SInv (M M2 : MM) (rr b : Addr) (cs : List Addr) (R : List (List Int)) (own : List Int) (sg : Int) (n : Nat) : Prop where
  sub : MSub M M2
  mat : Mat M2 rr b cs R
  sz : Sized n n R
  bal : Bal own sg R n
  sm : Small 45 R n
  fr : ∀ c ∈ cs, M c = none
  fr0 : M rr = none
  cl : cs.length = n
theorem sBody_ok [CTake T] {sg x y n pl od : Int} {own : List Int} {rr : Addr} {cs : List Addr} {R : List (List Int)} {M2 : MM} {o9 o10 o11 : Option Sw.D} {wk : WK} {j : Sw.Env → MM → Prop} (hsg : sg = 1 ∨ sg = -1) (hB : Rdy 2 B) (hod : 1 ≤ od ∧ od ≤ 3) (hx : 0 ≤ x) (hxy : x ≤ y) (hy : y < n) (hol : own.length = n.toNat) (how : ∀ z ∈ own, 1 ≤ z ∧ z ≤ 9)
    (I : SInv M M2 rr b cs R own sg n.toNat)
    (h : ∀ R' M3 z B', SInv M M3 rr b cs R' own sg n.toNat → Nx 2 B B' → j [some (.loc b), some (.int n), some (.int sg), some (.int x), some (.int pl), some (.int od), some (lI own), some (.loc rr), some (.int y), z, o10, o11] (bxs M3 b B')) :
    wSs ⟨callAt T (k + 1), noX⟩ sBody { nx := j, rt := wk.rt, bk := wk.nx, ct := j } [some (.loc b), some (.int n), some (.int sg), some (.int x), some (.int pl), some (.int od), some (lI own), some (.loc rr), some (.int y), o9, o10, o11] (bxs M2 b B) := by
  simp only [startD, s_nil, s_cons, s_asg, s_par2, s_par3, s_aug, s_augS, s_expr, s_ret, s_retN, s_ite, s_for, s_brk, s_cnt, s_pass, s_never, for_step, lc_step, e_var, e_cst, e_bin, e_neg, e_not, e_and, e_or, e_cmp, e_chain, e_ife, e_tup, e_lst, e_ix, e_slc, e_rev, e_fld, e_call, e_meth, e_make, e_bi, e_bm, e_isi, e_lc, e_frz, e_sp, cont_nil, wEs, wG, wGs, wI, wIf, wO, ge0, geS, wIx, wCmp, wBin, wAug, wBi, wBm, arrD, sq_lst, sq_frl, sq_tup, lq_lst, isi_int, isi_bl, isi_str, isi_non, isi_lst, isi_frl, isi_tup, sl_tup, sl_lst, sl_frl, rv_tup, rv_lst, rv_frl, st_lst, st_frl, st_tup, mset_same, bxs_at, newL, wipeD, isN_non, isN_int, isN_bl, isN_str, isN_tup, isN_lst, isN_obj, rng_irg, isTy, List.map_cons, List.map_nil, Nat.reduceSub, List.replicate_succ, List.replicate_zero, List.set_cons_zero, List.set_cons_succ, List.cons_append, List.nil_append, List.length_cons, List.length_nil, List.any_cons, List.any_nil, decide_eq_true_eq, Bool.not_eq_true', decide_eq_false_iff_not, if_true, if_false, reduceIte, Bool.false_eq_true, Bool.true_eq_false, Bool.not_true, Bool.not_false, true_and, and_true, Bool.or_false, Bool.or_true, Bool.true_or, Bool.false_or, beq_self_eq_true, List.getD_cons_zero, List.getD_cons_succ, not_true_eq_false, not_false_eq_true, ne_eq, Nat.zero_add, Nat.reduceAdd, Nat.reduceLeDiff, Int.reduceNeg, eq_self, sBody]
  refine take_ok (hB.le (by omega)) (by decide) (by decide) fun n1 B1 a1 a2 h1 => ?_
  refine take_ok (hB.nx h1 (by omega)) (by omega) (by omega) fun n2 B2 b1 b2 h2 => ?_
  have fin : ∀ s0 : Int, -5 ≤ s0 ∧ s0 ≤ 5 → cont ⟨callAt T (k + 1), noX⟩ (.cons (.asg (.name 9) (.bin false .Mult (.var 9) (.bi false .int_ (.cons (.or (.cmp .Gt (.var 2) (.cst (.int 0))) (.cmp .Lt (.var 3) (.var 8))) .nil)))) (.cons (.asg (.sub (.ix (.var 7) (.var 3)) (.var 8)) (.bin false .Mult (.var 9) (.ix (.var 6) (.var 8)))) (.cons (.asg (.sub (.ix (.var 7) (.var 8)) (.var 3)) (.ife (.cmp .Gt (.var 8) (.var 3)) (.bin false .Mult (.bin false .Mult (.var 2) (.var 9)) (.ix (.var 6) (.var 3))) (.ix (.ix (.var 7) (.var 3)) (.var 8)))) .nil)))
      { nx := j, rt := wk.rt, bk := wk.nx, ct := j } [some (.loc b), some (.int n), some (.int sg), some (.int x), some (.int pl), some (.int od), some (lI own), some (.loc rr), some (.int y), some (.int s0), o10, o11] (bxs M2 b B2) := fun s0 hs0 => by
    have hoy := how _ (getD_mem (ns := own) (i := y.toNat) (by omega))
    have hox := how _ (getD_mem (ns := own) (i := x.toNat) (by omega))
    obtain ⟨cx, ex, kx⟩ := I.mat.at (i := x) hx (by have := I.cl; omega)
    obtain ⟨cy, ey, ky⟩ := I.mat.at (i := y) (by omega) (by have := I.cl; omega)
    have lx := I.sz.2 x.toNat (by omega)
    have ly := I.sz.2 y.toNat (by omega)
    have lR := I.sz.1
    have cxb := I.mat.cb cx (List.mem_of_getElem? ex)
    have cyb := I.mat.cb cy (List.mem_of_getElem? ey)
    have two : ∀ t : Int, -5 ≤ t ∧ t ≤ 5 → (x = y → sg = -1 → t = 0) → cont ⟨callAt T (k + 1), noX⟩ (.cons (.asg (.sub (.ix (.var 7) (.var 3)) (.var 8)) (.bin false .Mult (.var 9) (.ix (.var 6) (.var 8)))) (.cons (.asg (.sub (.ix (.var 7) (.var 8)) (.var 3)) (.ife (.cmp .Gt (.var 8) (.var 3)) (.bin false .Mult (.bin false .Mult (.var 2) (.var 9)) (.ix (.var 6) (.var 3))) (.ix (.ix (.var 7) (.var 3)) (.var 8)))) .nil))
        { nx := j, rt := wk.rt, bk := wk.nx, ct := j } [some (.loc b), some (.int n), some (.int sg), some (.int x), some (.int pl), some (.int od), some (lI own), some (.loc rr), some (.int y), some (.int t), o10, o11] (bxs M2 b B2) := fun t ht hd => by
      refine cont_step ?_
      simp only [startD, s_nil, s_cons, s_asg, s_par2, s_par3, s_aug, s_augS, s_expr, s_ret, s_retN, s_ite, s_for, s_brk, s_cnt, s_pass, s_never, for_step, lc_step, e_var, e_cst, e_bin, e_neg, e_not, e_and, e_or, e_cmp, e_chain, e_ife, e_tup, e_lst, e_ix, e_slc, e_rev, e_fld, e_call, e_meth, e_make, e_bi, e_bm, e_isi, e_lc, e_frz, e_sp, cont_nil, wEs, wG, wGs, wI, wIf, wO, ge0, geS, wIx, wCmp, wBin, wAug, wBi, wBm, arrD, sq_lst, sq_frl, sq_tup, lq_lst, isi_int, isi_bl, isi_str, isi_non, isi_lst, isi_frl, isi_tup, sl_tup, sl_lst, sl_frl, rv_tup, rv_lst, rv_frl, st_lst, st_frl, st_tup, mset_same, bxs_at, newL, wipeD, isN_non, isN_int, isN_bl, isN_str, isN_tup, isN_lst, isN_obj, rng_irg, isTy, List.map_cons, List.map_nil, Nat.reduceSub, List.replicate_succ, List.replicate_zero, List.set_cons_zero, List.set_cons_succ, List.cons_append, List.nil_append, List.length_cons, List.length_nil, List.any_cons, List.any_nil, decide_eq_true_eq, Bool.not_eq_true', decide_eq_false_iff_not, if_true, if_false, reduceIte, Bool.false_eq_true, Bool.true_eq_false, Bool.not_true, Bool.not_false, true_and, and_true, Bool.or_false, Bool.or_true, Bool.true_or, Bool.false_or, beq_self_eq_true, List.getD_cons_zero, List.getD_cons_succ, not_true_eq_false, not_false_eq_true, ne_eq, Nat.zero_add, Nat.reduceAdd, Nat.reduceLeDiff, Int.reduceNeg, eq_self, I.mat.seq]
      refine atD_int (by omega) (by omega) ⟨mulL (by omega), ?_⟩
      refine kx _ ?_
      have hv : ∀ o : Int, 1 ≤ o ∧ o ≤ 9 → -45 ≤ t * o ∧ t * o ≤ 45 := fun o ho => by
        obtain ⟨g1, g2⟩ := ho
        have e1 : t * o ≤ 5 * o := Int.mul_le_mul_of_nonneg_right ht.2 (by omega)
        have e2 : -5 * o ≤ t * o := Int.mul_le_mul_of_nonneg_right ht.1 (by omega)
        omega
      generalize hoyv : own.getD y.toNat 0 = oy at *
      generalize hoxv : own.getD x.toNat 0 = ox at *
      have v1 := hv oy hoy
      have v2 := hv ox hox
      refine setI_loc (I.mat.row ex) (by omega) (by rw [List.length_map]; omega) ?_
      rw [bxs_mset cxb, map_set_int]
      have M1 := I.mat.put (v := t * oy) (j := y.toNat) ex (by omega)
      have S1 := I.sz.set (j := y.toNat) (v := t * oy) (i := x.toNat) (by omega)
      have l1 := S1.2 x.toNat (by omega)
      have l1y := S1.2 y.toNat (by omega)
      have hsub : MSub M (mset M2 cx (.lst (((R.getD x.toNat []).set y.toNat (t * oy)).map Sw.D.int))) := msub_put I.sub (I.fr cx (List.mem_of_getElem? ex))
      have put2 : ∀ w : Int, (x < y → w = sg * t * ox) → (x = y → w = t * oy) → wIx (.loc rr) (.int y) (bxs (mset M2 cx (.lst (((R.getD x.toNat []).set y.toNat (t * oy)).map Sw.D.int))) b B2) (fun d M5 => wSetI d (.int x) (.int w) M5 (j [some (.loc b), some (.int n), some (.int sg), some (.int x), some (.int pl), some (.int od), some (lI own), some (.loc rr), some (.int y), some (.int t), o10, o11])) := fun w hw1 hw2 => by
        simp only [startD, s_nil, s_cons, s_asg, s_par2, s_par3, s_aug, s_augS, s_expr, s_ret, s_retN, s_ite, s_for, s_brk, s_cnt, s_pass, s_never, for_step, lc_step, e_var, e_cst, e_bin, e_neg, e_not, e_and, e_or, e_cmp, e_chain, e_ife, e_tup, e_lst, e_ix, e_slc, e_rev, e_fld, e_call, e_meth, e_make, e_bi, e_bm, e_isi, e_lc, e_frz, e_sp, cont_nil, wEs, wG, wGs, wI, wIf, wO, ge0, geS, wIx, wCmp, wBin, wAug, wBi, wBm, arrD, sq_lst, sq_frl, sq_tup, lq_lst, isi_int, isi_bl, isi_str, isi_non, isi_lst, isi_frl, isi_tup, sl_tup, sl_lst, sl_frl, rv_tup, rv_lst, rv_frl, st_lst, st_frl, st_tup, mset_same, bxs_at, newL, wipeD, isN_non, isN_int, isN_bl, isN_str, isN_tup, isN_lst, isN_obj, rng_irg, isTy, List.map_cons, List.map_nil, Nat.reduceSub, List.replicate_succ, List.replicate_zero, List.set_cons_zero, List.set_cons_succ, List.cons_append, List.nil_append, List.length_cons, List.length_nil, List.any_cons, List.any_nil, decide_eq_true_eq, Bool.not_eq_true', decide_eq_false_iff_not, if_true, if_false, reduceIte, Bool.false_eq_true, Bool.true_eq_false, Bool.not_true, Bool.not_false, true_and, and_true, Bool.or_false, Bool.or_true, Bool.true_or, Bool.false_or, beq_self_eq_true, List.getD_cons_zero, List.getD_cons_succ, not_true_eq_false, not_false_eq_true, ne_eq, Nat.zero_add, Nat.reduceAdd, Nat.reduceLeDiff, Int.reduceNeg, eq_self, M1.seq]
        refine ky _ ?_
        refine setI_loc (M1.row ey) (by omega) (by rw [List.length_map]; omega) ?_
        rw [bxs_mset cyb, map_set_int]
        have vw : -45 ≤ w ∧ w ≤ 45 := by
          by_cases c : x < y
          · rw [hw1 c]
            rcases hsg with q | q
            · rw [q, Int.one_mul]; exact v2
            · rw [q, show -1 * t * ox = -(t * ox) by rw [Int.neg_mul, Int.neg_mul, Int.one_mul]]; omega
          · rw [hw2 (by omega)]; exact v1
        have hent : ∀ i j', ent (entSet (entSet R x.toNat y.toNat (t * oy)) y.toNat x.toNat w) i j' = if y.toNat = i ∧ x.toNat = j' then w else if x.toNat = i ∧ y.toNat = j' then t * oy else ent R i j' := fun i j' => by
          rw [ent_set (by rw [S1.1]; omega) (by rw [l1y]; omega), ent_set (by omega) (by omega)]
        refine h _ _ _ B2 ⟨msub_put hsub (I.fr cy (List.mem_of_getElem? ey)), M1.put (v := w) (j := x.toNat) ey (by rw [S1.1]; omega), S1.set (by omega), fun i j' hi hj => ?_, fun i j' hi hj => ?_, I.fr, I.fr0, I.cl⟩ (h1.trans h2)
        · rw [hent, hent]
          have hI := I.bal i j' hi hj
          by_cases c : x < y
          · have hw := hw1 c
            by_cases q1 : y.toNat = i ∧ x.toNat = j'
            · obtain ⟨q1a, q1b⟩ := q1
              subst q1a; subst q1b
              rw [if_pos ⟨rfl, rfl⟩, if_neg (by omega), if_pos ⟨rfl, rfl⟩, hoyv, hoxv, hw]
              have : oy * (sg * t * ox) = sg * (ox * (t * oy)) := by
                rw [Int.mul_comm oy, Int.mul_assoc, Int.mul_assoc, Int.mul_left_comm t ox oy]
              exact this
            · rw [if_neg q1]
              by_cases q2 : x.toNat = i ∧ y.toNat = j'
              · obtain ⟨q2a, q2b⟩ := q2
                subst q2a; subst q2b
                rw [if_pos ⟨rfl, rfl⟩, if_pos ⟨rfl, rfl⟩, hoyv, hoxv, hw]
                have h2 : sg * sg = 1 := by rcases hsg with q | q <;> rw [q] <;> rfl
                have : sg * (oy * (sg * t * ox)) = (sg * sg) * (ox * (t * oy)) := by
                  rw [Int.mul_assoc sg t ox, Int.mul_left_comm oy sg, ← Int.mul_assoc sg sg, Int.mul_left_comm ox t oy, Int.mul_comm ox oy, Int.mul_left_comm oy t ox]
                rw [this, h2, Int.one_mul]
              · rw [if_neg q2, if_neg (by omega), if_neg (by omega)]
                exact hI
          · have exy : x = y := by omega
            have hw := hw2 exy
            subst exy
            by_cases q1 : x.toNat = i ∧ x.toNat = j'
            · obtain ⟨q1a, q1b⟩ := q1
              subst q1a; subst q1b
              rw [if_pos ⟨rfl, rfl⟩, hoyv, hw]
              rcases hsg with q | q
              · rw [q, Int.one_mul]
              · rw [hd rfl q, q]; simp
            · rw [if_neg q1, if_neg q1, if_neg (by omega), if_neg (by omega)]
              exact hI
        · rw [hent]
          split
          · exact vw
          · split
            · exact v1
            · exact I.sm i j' hi hj
      refine cont_step ?_
      simp only [startD, s_nil, s_cons, s_asg, s_par2, s_par3, s_aug, s_augS, s_expr, s_ret, s_retN, s_ite, s_for, s_brk, s_cnt, s_pass, s_never, for_step, lc_step, e_var, e_cst, e_bin, e_neg, e_not, e_and, e_or, e_cmp, e_chain, e_ife, e_tup, e_lst, e_ix, e_slc, e_rev, e_fld, e_call, e_meth, e_make, e_bi, e_bm, e_isi, e_lc, e_frz, e_sp, cont_nil, wEs, wG, wGs, wI, wIf, wO, ge0, geS, wIx, wCmp, wBin, wAug, wBi, wBm, arrD, sq_lst, sq_frl, sq_tup, lq_lst, isi_int, isi_bl, isi_str, isi_non, isi_lst, isi_frl, isi_tup, sl_tup, sl_lst, sl_frl, rv_tup, rv_lst, rv_frl, st_lst, st_frl, st_tup, mset_same, bxs_at, newL, wipeD, isN_non, isN_int, isN_bl, isN_str, isN_tup, isN_lst, isN_obj, rng_irg, isTy, List.map_cons, List.map_nil, Nat.reduceSub, List.replicate_succ, List.replicate_zero, List.set_cons_zero, List.set_cons_succ, List.cons_append, List.nil_append, List.length_cons, List.length_nil, List.any_cons, List.any_nil, decide_eq_true_eq, Bool.not_eq_true', decide_eq_false_iff_not, if_true, if_false, reduceIte, Bool.false_eq_true, Bool.true_eq_false, Bool.not_true, Bool.not_false, true_and, and_true, Bool.or_false, Bool.or_true, Bool.true_or, Bool.false_or, beq_self_eq_true, List.getD_cons_zero, List.getD_cons_succ, not_true_eq_false, not_false_eq_true, ne_eq, Nat.zero_add, Nat.reduceAdd, Nat.reduceLeDiff, Int.reduceNeg, eq_self]
      by_cases c : x < y
      · rw [if_pos c]
        refine ⟨?_, atD_int (by omega) (by omega) ⟨?_, put2 _ (fun _ => by rw [hoxv]) (fun q => absurd q (by omega))⟩⟩
        · exact mulL (by rcases hsg with q | q <;> omega)
        · exact mulL (by rcases hsg with q | q <;> (rw [q]; omega))
      · have exy : x = y := by omega
        rw [if_neg c]
        simp only [startD, s_nil, s_cons, s_asg, s_par2, s_par3, s_aug, s_augS, s_expr, s_ret, s_retN, s_ite, s_for, s_brk, s_cnt, s_pass, s_never, for_step, lc_step, e_var, e_cst, e_bin, e_neg, e_not, e_and, e_or, e_cmp, e_chain, e_ife, e_tup, e_lst, e_ix, e_slc, e_rev, e_fld, e_call, e_meth, e_make, e_bi, e_bm, e_isi, e_lc, e_frz, e_sp, cont_nil, wEs, wG, wGs, wI, wIf, wO, ge0, geS, wIx, wCmp, wBin, wAug, wBi, wBm, arrD, sq_lst, sq_frl, sq_tup, lq_lst, isi_int, isi_bl, isi_str, isi_non, isi_lst, isi_frl, isi_tup, sl_tup, sl_lst, sl_frl, rv_tup, rv_lst, rv_frl, st_lst, st_frl, st_tup, mset_same, bxs_at, newL, wipeD, isN_non, isN_int, isN_bl, isN_str, isN_tup, isN_lst, isN_obj, rng_irg, isTy, List.map_cons, List.map_nil, Nat.reduceSub, List.replicate_succ, List.replicate_zero, List.set_cons_zero, List.set_cons_succ, List.cons_append, List.nil_append, List.length_cons, List.length_nil, List.any_cons, List.any_nil, decide_eq_true_eq, Bool.not_eq_true', decide_eq_false_iff_not, if_true, if_false, reduceIte, Bool.false_eq_true, Bool.true_eq_false, Bool.not_true, Bool.not_false, true_and, and_true, Bool.or_false, Bool.or_true, Bool.true_or, Bool.false_or, beq_self_eq_true, List.getD_cons_zero, List.getD_cons_succ, not_true_eq_false, not_false_eq_true, ne_eq, Nat.zero_add, Nat.reduceAdd, Nat.reduceLeDiff, Int.reduceNeg, eq_self, M1.seq]
        refine kx _ ?_
        simp only [startD, s_nil, s_cons, s_asg, s_par2, s_par3, s_aug, s_augS, s_expr, s_ret, s_retN, s_ite, s_for, s_brk, s_cnt, s_pass, s_never, for_step, lc_step, e_var, e_cst, e_bin, e_neg, e_not, e_and, e_or, e_cmp, e_chain, e_ife, e_tup, e_lst, e_ix, e_slc, e_rev, e_fld, e_call, e_meth, e_make, e_bi, e_bm, e_isi, e_lc, e_frz, e_sp, cont_nil, wEs, wG, wGs, wI, wIf, wO, ge0, geS, wIx, wCmp, wBin, wAug, wBi, wBm, arrD, sq_lst, sq_frl, sq_tup, lq_lst, isi_int, isi_bl, isi_str, isi_non, isi_lst, isi_frl, isi_tup, sl_tup, sl_lst, sl_frl, rv_tup, rv_lst, rv_frl, st_lst, st_frl, st_tup, mset_same, bxs_at, newL, wipeD, isN_non, isN_int, isN_bl, isN_str, isN_tup, isN_lst, isN_obj, rng_irg, isTy, List.map_cons, List.map_nil, Nat.reduceSub, List.replicate_succ, List.replicate_zero, List.set_cons_zero, List.set_cons_succ, List.cons_append, List.nil_append, List.length_cons, List.length_nil, List.any_cons, List.any_nil, decide_eq_true_eq, Bool.not_eq_true', decide_eq_false_iff_not, if_true, if_false, reduceIte, Bool.false_eq_true, Bool.true_eq_false, Bool.not_true, Bool.not_false, true_and, and_true, Bool.or_false, Bool.or_true, Bool.true_or, Bool.false_or, beq_self_eq_true, List.getD_cons_zero, List.getD_cons_succ, not_true_eq_false, not_false_eq_true, ne_eq, Nat.zero_add, Nat.reduceAdd, Nat.reduceLeDiff, Int.reduceNeg, eq_self, sq_loc (M1.row ex)]
        refine atD_int (by omega) ?_ ?_
        · unfold entSet; rw [getD_setL (by omega), if_pos rfl, List.length_set]; omega
        have := put2 _ (fun q => absurd q c) fun _ => rfl
        simp only [wIx, M1.seq] at this
        have e2 : ((entSet R x.toNat y.toNat (t * oy)).getD x.toNat []).getD y.toNat 0 = t * oy := by
          unfold entSet
          rw [getD_setL (by omega), if_pos rfl, getD_set (by omega), if_pos rfl]
        rw [e2]
        exact this
    refine cont_step ?_
    simp only [startD, s_nil, s_cons, s_asg, s_par2, s_par3, s_aug, s_augS, s_expr, s_ret, s_retN, s_ite, s_for, s_brk, s_cnt, s_pass, s_never, for_step, lc_step, e_var, e_cst, e_bin, e_neg, e_not, e_and, e_or, e_cmp, e_chain, e_ife, e_tup, e_lst, e_ix, e_slc, e_rev, e_fld, e_call, e_meth, e_make, e_bi, e_bm, e_isi, e_lc, e_frz, e_sp, cont_nil, wEs, wG, wGs, wI, wIf, wO, ge0, geS, wIx, wCmp, wBin, wAug, wBi, wBm, arrD, sq_lst, sq_frl, sq_tup, lq_lst, isi_int, isi_bl, isi_str, isi_non, isi_lst, isi_frl, isi_tup, sl_tup, sl_lst, sl_frl, rv_tup, rv_lst, rv_frl, st_lst, st_frl, st_tup, mset_same, bxs_at, newL, wipeD, isN_non, isN_int, isN_bl, isN_str, isN_tup, isN_lst, isN_obj, rng_irg, isTy, List.map_cons, List.map_nil, Nat.reduceSub, List.replicate_succ, List.replicate_zero, List.set_cons_zero, List.set_cons_succ, List.cons_append, List.nil_append, List.length_cons, List.length_nil, List.any_cons, List.any_nil, decide_eq_true_eq, Bool.not_eq_true', decide_eq_false_iff_not, if_true, if_false, reduceIte, Bool.false_eq_true, Bool.true_eq_false, Bool.not_true, Bool.not_false, true_and, and_true, Bool.or_false, Bool.or_true, Bool.true_or, Bool.false_or, beq_self_eq_true, List.getD_cons_zero, List.getD_cons_succ, not_true_eq_false, not_false_eq_true, ne_eq, Nat.zero_add, Nat.reduceAdd, Nat.reduceLeDiff, Int.reduceNeg, eq_self]
    by_cases c : 0 < sg
    · rw [if_pos c, Int.mul_one]
      exact ⟨mulL (by omega), two s0 hs0 fun _ q => by omega⟩
    · rw [if_neg c]
      refine ⟨mulL (by omega), ?_⟩
      by_cases c2 : x < y
      · rw [if_pos c2, Int.mul_one]
        exact two s0 hs0 fun q => by omega
      · rw [if_neg c2, Int.mul_zero]
        exact two 0 (by omega) fun _ _ => rfl
  simp only [startD, s_nil, s_cons, s_asg, s_par2, s_par3, s_aug, s_augS, s_expr, s_ret, s_retN, s_ite, s_for, s_brk, s_cnt, s_pass, s_never, for_step, lc_step, e_var, e_cst, e_bin, e_neg, e_not, e_and, e_or, e_cmp, e_chain, e_ife, e_tup, e_lst, e_ix, e_slc, e_rev, e_fld, e_call, e_meth, e_make, e_bi, e_bm, e_isi, e_lc, e_frz, e_sp, cont_nil, wEs, wG, wGs, wI, wIf, wO, ge0, geS, wIx, wCmp, wBin, wAug, wBi, wBm, arrD, sq_lst, sq_frl, sq_tup, lq_lst, isi_int, isi_bl, isi_str, isi_non, isi_lst, isi_frl, isi_tup, sl_tup, sl_lst, sl_frl, rv_tup, rv_lst, rv_frl, st_lst, st_frl, st_tup, mset_same, bxs_at, newL, wipeD, isN_non, isN_int, isN_bl, isN_str, isN_tup, isN_lst, isN_obj, rng_irg, isTy, List.map_cons, List.map_nil, Nat.reduceSub, List.replicate_succ, List.replicate_zero, List.set_cons_zero, List.set_cons_succ, List.cons_append, List.nil_append, List.length_cons, List.length_nil, List.any_cons, List.any_nil, decide_eq_true_eq, Bool.not_eq_true', decide_eq_false_iff_not, if_true, if_false, reduceIte, Bool.false_eq_true, Bool.true_eq_false, Bool.not_true, Bool.not_false, true_and, and_true, Bool.or_false, Bool.or_true, Bool.true_or, Bool.false_or, beq_self_eq_true, List.getD_cons_zero, List.getD_cons_succ, not_true_eq_false, not_false_eq_true, ne_eq, Nat.zero_add, Nat.reduceAdd, Nat.reduceLeDiff, Int.reduceNeg, eq_self]
  refine ⟨mulL (by omega), ?_⟩
  by_cases c : n2 = 0
  · rw [if_pos c, Int.mul_one]
    exact fin _ (by omega)
  · rw [if_neg c, Int.mul_zero]
    exact fin _ (by omega)
theorem strings1_ok [CTake T] [Row T "_law_strings" ⟨"_law_strings", 3, 12, strings1⟩] {n sg : Int} (hsg : sg = 1 ∨ sg = -1) (hn : 1 ≤ n) (hn2 : n ≤ 12) (hB : Rdy 400 B)
    (h : ∀ R own B', Sized n.toNat n.toNat R → own.length = n.toNat → (∀ z ∈ own, 1 ≤ z ∧ z ≤ 9) → Bal own sg R n.toNat → Small 45 R n.toNat → Nx 400 B B' → Φ (.tup [.lst (R.map tI), lI own]) (bxs M b B')) : callAt T (k + 2) "_law_strings" [.loc b, .int n, .int sg] (bxs M b B) Φ Ψ := by
  refine call_row rfl ?_
  simp only [startD, s_nil, s_cons, s_asg, s_par2, s_par3, s_aug, s_augS, s_expr, s_ret, s_retN, s_ite, s_for, s_brk, s_cnt, s_pass, s_never, for_step, lc_step, e_var, e_cst, e_bin, e_neg, e_not, e_and, e_or, e_cmp, e_chain, e_ife, e_tup, e_lst, e_ix, e_slc, e_rev, e_fld, e_call, e_meth, e_make, e_bi, e_bm, e_isi, e_lc, e_frz, e_sp, cont_nil, wEs, wG, wGs, wI, wIf, wO, ge0, geS, wIx, wCmp, wBin, wAug, wBi, wBm, arrD, sq_lst, sq_frl, sq_tup, lq_lst, isi_int, isi_bl, isi_str, isi_non, isi_lst, isi_frl, isi_tup, sl_tup, sl_lst, sl_frl, rv_tup, rv_lst, rv_frl, st_lst, st_frl, st_tup, mset_same, bxs_at, newL, wipeD, isN_non, isN_int, isN_bl, isN_str, isN_tup, isN_lst, isN_obj, rng_irg, isTy, List.map_cons, List.map_nil, Nat.reduceSub, List.replicate_succ, List.replicate_zero, List.set_cons_zero, List.set_cons_succ, List.cons_append, List.nil_append, List.length_cons, List.length_nil, List.any_cons, List.any_nil, decide_eq_true_eq, Bool.not_eq_true', decide_eq_false_iff_not, if_true, if_false, reduceIte, Bool.false_eq_true, Bool.true_eq_false, Bool.not_true, Bool.not_false, true_and, and_true, Bool.or_false, Bool.or_true, Bool.true_or, Bool.false_or, beq_self_eq_true, List.getD_cons_zero, List.getD_cons_succ, not_true_eq_false, not_false_eq_true, ne_eq, Nat.zero_add, Nat.reduceAdd, Nat.reduceLeDiff, Int.reduceNeg, eq_self, strings1]
  refine take_ok (hB.le (by omega)) (by decide) (by decide) fun pl B1 a1 a2 h1 => ?_
  refine take_ok (hB.nx h1 (by omega)) (by decide) (by decide) fun od B2 b1 b2 h2 => ?_
  refine ⟨small_le (by decide), ?_⟩
  refine cont_step ?_
  simp only [startD, s_nil, s_cons, s_asg, s_par2, s_par3, s_aug, s_augS, s_expr, s_ret, s_retN, s_ite, s_for, s_brk, s_cnt, s_pass, s_never, for_step, lc_step, e_var, e_cst, e_bin, e_neg, e_not, e_and, e_or, e_cmp, e_chain, e_ife, e_tup, e_lst, e_ix, e_slc, e_rev, e_fld, e_call, e_meth, e_make, e_bi, e_bm, e_isi, e_lc, e_frz, e_sp, cont_nil, wEs, wG, wGs, wI, wIf, wO, ge0, geS, wIx, wCmp, wBin, wAug, wBi, wBm, arrD, sq_lst, sq_frl, sq_tup, lq_lst, isi_int, isi_bl, isi_str, isi_non, isi_lst, isi_frl, isi_tup, sl_tup, sl_lst, sl_frl, rv_tup, rv_lst, rv_frl, st_lst, st_frl, st_tup, mset_same, bxs_at, newL, wipeD, isN_non, isN_int, isN_bl, isN_str, isN_tup, isN_lst, isN_obj, rng_irg, isTy, List.map_cons, List.map_nil, Nat.reduceSub, List.replicate_succ, List.replicate_zero, List.set_cons_zero, List.set_cons_succ, List.cons_append, List.nil_append, List.length_cons, List.length_nil, List.any_cons, List.any_nil, decide_eq_true_eq, Bool.not_eq_true', decide_eq_false_iff_not, if_true, if_false, reduceIte, Bool.false_eq_true, Bool.true_eq_false, Bool.not_true, Bool.not_false, true_and, and_true, Bool.or_false, Bool.or_true, Bool.true_or, Bool.false_or, beq_self_eq_true, List.getD_cons_zero, List.getD_cons_succ, not_true_eq_false, not_false_eq_true, ne_eq, Nat.zero_add, Nat.reduceAdd, Nat.reduceLeDiff, Int.reduceNeg, eq_self]
  have hN : (irg 0 n.toNat).length = n.toNat := irg_len _ _
  have hB2 := hB.nx (h1.trans h2) (c' := 398) (by omega)
  refine ⟨by omega, by omega, by rw [List.length_map]; exact small_size (by omega), ?_⟩
  refine lcb Sw.D.int (fun _ y => 1 ≤ y ∧ y ≤ 9) 1 386 (fun _ => trivial) (hB2.le (by omega)) (fun x hx B' kk hr hk => ?_) fun own B3 ha hr hn3 => ?_
  · simp only [startD, s_nil, s_cons, s_asg, s_par2, s_par3, s_aug, s_augS, s_expr, s_ret, s_retN, s_ite, s_for, s_brk, s_cnt, s_pass, s_never, for_step, lc_step, e_var, e_cst, e_bin, e_neg, e_not, e_and, e_or, e_cmp, e_chain, e_ife, e_tup, e_lst, e_ix, e_slc, e_rev, e_fld, e_call, e_meth, e_make, e_bi, e_bm, e_isi, e_lc, e_frz, e_sp, cont_nil, wEs, wG, wGs, wI, wIf, wO, ge0, geS, wIx, wCmp, wBin, wAug, wBi, wBm, arrD, sq_lst, sq_frl, sq_tup, lq_lst, isi_int, isi_bl, isi_str, isi_non, isi_lst, isi_frl, isi_tup, sl_tup, sl_lst, sl_frl, rv_tup, rv_lst, rv_frl, st_lst, st_frl, st_tup, mset_same, bxs_at, newL, wipeD, isN_non, isN_int, isN_bl, isN_str, isN_tup, isN_lst, isN_obj, rng_irg, isTy, List.map_cons, List.map_nil, Nat.reduceSub, List.replicate_succ, List.replicate_zero, List.set_cons_zero, List.set_cons_succ, List.cons_append, List.nil_append, List.length_cons, List.length_nil, List.any_cons, List.any_nil, decide_eq_true_eq, Bool.not_eq_true', decide_eq_false_iff_not, if_true, if_false, reduceIte, Bool.false_eq_true, Bool.true_eq_false, Bool.not_true, Bool.not_false, true_and, and_true, Bool.or_false, Bool.or_true, Bool.true_or, Bool.false_or, beq_self_eq_true, List.getD_cons_zero, List.getD_cons_succ, not_true_eq_false, not_false_eq_true, ne_eq, Nat.zero_add, Nat.reduceAdd, Nat.reduceLeDiff, Int.reduceNeg, eq_self]
    refine take_ok (hr.le (by omega)) (by decide) (by decide) fun n2 B2 e1 e2 e3 => ?_
    refine ⟨small_le (by decide), ?_⟩
    by_cases c : 0 < pl
    · simp only [startD, s_nil, s_cons, s_asg, s_par2, s_par3, s_aug, s_augS, s_expr, s_ret, s_retN, s_ite, s_for, s_brk, s_cnt, s_pass, s_never, for_step, lc_step, e_var, e_cst, e_bin, e_neg, e_not, e_and, e_or, e_cmp, e_chain, e_ife, e_tup, e_lst, e_ix, e_slc, e_rev, e_fld, e_call, e_meth, e_make, e_bi, e_bm, e_isi, e_lc, e_frz, e_sp, cont_nil, wEs, wG, wGs, wI, wIf, wO, ge0, geS, wIx, wCmp, wBin, wAug, wBi, wBm, arrD, sq_lst, sq_frl, sq_tup, lq_lst, isi_int, isi_bl, isi_str, isi_non, isi_lst, isi_frl, isi_tup, sl_tup, sl_lst, sl_frl, rv_tup, rv_lst, rv_frl, st_lst, st_frl, st_tup, mset_same, bxs_at, newL, wipeD, isN_non, isN_int, isN_bl, isN_str, isN_tup, isN_lst, isN_obj, rng_irg, isTy, List.map_cons, List.map_nil, Nat.reduceSub, List.replicate_succ, List.replicate_zero, List.set_cons_zero, List.set_cons_succ, List.cons_append, List.nil_append, List.length_cons, List.length_nil, List.any_cons, List.any_nil, decide_eq_true_eq, Bool.not_eq_true', decide_eq_false_iff_not, if_true, if_false, reduceIte, Bool.false_eq_true, Bool.true_eq_false, Bool.not_true, Bool.not_false, true_and, and_true, Bool.or_false, Bool.or_true, Bool.true_or, Bool.false_or, beq_self_eq_true, List.getD_cons_zero, List.getD_cons_succ, not_true_eq_false, not_false_eq_true, ne_eq, Nat.zero_add, Nat.reduceAdd, Nat.reduceLeDiff, Int.reduceNeg, eq_self, c]
      exact atD_get (d := .int (1 + n2)) (by decide) rfl (hk (1 + n2) B2 ⟨by omega, by omega⟩ e3)
    · simp only [startD, s_nil, s_cons, s_asg, s_par2, s_par3, s_aug, s_augS, s_expr, s_ret, s_retN, s_ite, s_for, s_brk, s_cnt, s_pass, s_never, for_step, lc_step, e_var, e_cst, e_bin, e_neg, e_not, e_and, e_or, e_cmp, e_chain, e_ife, e_tup, e_lst, e_ix, e_slc, e_rev, e_fld, e_call, e_meth, e_make, e_bi, e_bm, e_isi, e_lc, e_frz, e_sp, cont_nil, wEs, wG, wGs, wI, wIf, wO, ge0, geS, wIx, wCmp, wBin, wAug, wBi, wBm, arrD, sq_lst, sq_frl, sq_tup, lq_lst, isi_int, isi_bl, isi_str, isi_non, isi_lst, isi_frl, isi_tup, sl_tup, sl_lst, sl_frl, rv_tup, rv_lst, rv_frl, st_lst, st_frl, st_tup, mset_same, bxs_at, newL, wipeD, isN_non, isN_int, isN_bl, isN_str, isN_tup, isN_lst, isN_obj, rng_irg, isTy, List.map_cons, List.map_nil, Nat.reduceSub, List.replicate_succ, List.replicate_zero, List.set_cons_zero, List.set_cons_succ, List.cons_append, List.nil_append, List.length_cons, List.length_nil, List.any_cons, List.any_nil, decide_eq_true_eq, Bool.not_eq_true', decide_eq_false_iff_not, if_true, if_false, reduceIte, Bool.false_eq_true, Bool.true_eq_false, Bool.not_true, Bool.not_false, true_and, and_true, Bool.or_false, Bool.or_true, Bool.true_or, Bool.false_or, beq_self_eq_true, List.getD_cons_zero, List.getD_cons_succ, not_true_eq_false, not_false_eq_true, ne_eq, Nat.zero_add, Nat.reduceAdd, Nat.reduceLeDiff, Int.reduceNeg, eq_self, c]
      exact atD_get (d := .int 1) (by decide) rfl (hk 1 B2 ⟨by omega, by omega⟩ e3)
  have hol : own.length = n.toNat := ha.len.trans hN
  have how : ∀ z ∈ own, 1 ≤ z ∧ z ≤ 9 := fun z hz => (ha.mem hz).elim fun _ q => q.2
  simp only [startD, s_nil, s_cons, s_asg, s_par2, s_par3, s_aug, s_augS, s_expr, s_ret, s_retN, s_ite, s_for, s_brk, s_cnt, s_pass, s_never, for_step, lc_step, e_var, e_cst, e_bin, e_neg, e_not, e_and, e_or, e_cmp, e_chain, e_ife, e_tup, e_lst, e_ix, e_slc, e_rev, e_fld, e_call, e_meth, e_make, e_bi, e_bm, e_isi, e_lc, e_frz, e_sp, cont_nil, wEs, wG, wGs, wI, wIf, wO, ge0, geS, wIx, wCmp, wBin, wAug, wBi, wBm, arrD, sq_lst, sq_frl, sq_tup, lq_lst, isi_int, isi_bl, isi_str, isi_non, isi_lst, isi_frl, isi_tup, sl_tup, sl_lst, sl_frl, rv_tup, rv_lst, rv_frl, st_lst, st_frl, st_tup, mset_same, bxs_at, newL, wipeD, isN_non, isN_int, isN_bl, isN_str, isN_tup, isN_lst, isN_obj, rng_irg, isTy, List.map_cons, List.map_nil, Nat.reduceSub, List.replicate_succ, List.replicate_zero, List.set_cons_zero, List.set_cons_succ, List.cons_append, List.nil_append, List.length_cons, List.length_nil, List.any_cons, List.any_nil, decide_eq_true_eq, Bool.not_eq_true', decide_eq_false_iff_not, if_true, if_false, reduceIte, Bool.false_eq_true, Bool.true_eq_false, Bool.not_true, Bool.not_false, true_and, and_true, Bool.or_false, Bool.or_true, Bool.true_or, Bool.false_or, beq_self_eq_true, List.getD_cons_zero, List.getD_cons_succ, not_true_eq_false, not_false_eq_true, ne_eq, Nat.zero_add, Nat.reduceAdd, Nat.reduceLeDiff, Int.reduceNeg, eq_self]
  refine ⟨by rw [List.length_map]; exact small_le (by omega), Nat.zero_le _, fun rr hfr => ?_⟩
  obtain ⟨hrb, hMr⟩ := bxs_fresh hfr
  rw [bxs_mset hrb]
  refine cont_step ?_
  simp only [startD, s_nil, s_cons, s_asg, s_par2, s_par3, s_aug, s_augS, s_expr, s_ret, s_retN, s_ite, s_for, s_brk, s_cnt, s_pass, s_never, for_step, lc_step, e_var, e_cst, e_bin, e_neg, e_not, e_and, e_or, e_cmp, e_chain, e_ife, e_tup, e_lst, e_ix, e_slc, e_rev, e_fld, e_call, e_meth, e_make, e_bi, e_bm, e_isi, e_lc, e_frz, e_sp, cont_nil, wEs, wG, wGs, wI, wIf, wO, ge0, geS, wIx, wCmp, wBin, wAug, wBi, wBm, arrD, sq_lst, sq_frl, sq_tup, lq_lst, isi_int, isi_bl, isi_str, isi_non, isi_lst, isi_frl, isi_tup, sl_tup, sl_lst, sl_frl, rv_tup, rv_lst, rv_frl, st_lst, st_frl, st_tup, mset_same, bxs_at, newL, wipeD, isN_non, isN_int, isN_bl, isN_str, isN_tup, isN_lst, isN_obj, rng_irg, isTy, List.map_cons, List.map_nil, Nat.reduceSub, List.replicate_succ, List.replicate_zero, List.set_cons_zero, List.set_cons_succ, List.cons_append, List.nil_append, List.length_cons, List.length_nil, List.any_cons, List.any_nil, decide_eq_true_eq, Bool.not_eq_true', decide_eq_false_iff_not, if_true, if_false, reduceIte, Bool.false_eq_true, Bool.true_eq_false, Bool.not_true, Bool.not_false, true_and, and_true, Bool.or_false, Bool.or_true, Bool.true_or, Bool.false_or, beq_self_eq_true, List.getD_cons_zero, List.getD_cons_succ, not_true_eq_false, not_false_eq_true, ne_eq, Nat.zero_add, Nat.reduceAdd, Nat.reduceLeDiff, Int.reduceNeg, eq_self]
  refine ⟨by omega, by omega, ?_⟩
  refine for_inv (e := Sw.D.int) (fun i Γ M' => ∃ (cs : List Addr) (y : Option Sw.D) (M2 : MM), Γ = [some (.loc b), some (.int n), some (.int sg), y, some (.int pl), some (.int (1 + od)), some (lI own), some (.loc rr), none, none, none, none] ∧ M' = bxs M2 b B3 ∧
    MSub M M2 ∧ cs.length = i ∧ Mat M2 rr b cs (List.replicate i (List.replicate n.toNat 0)) ∧ ∀ c ∈ cs, M c = none) (fun _ _ _ _ => trivial) (i := 0) ⟨[], none, _, rfl, rfl, msub_mset .refl hMr, rfl, ⟨mset_same, fun i c e => by simp at e, List.nodup_nil, by simp, hrb, by simp⟩, by simp⟩ (fun j x hx Γ M' kk hP hk => ?_) (fun Γ' M' hP => ?_)
  · obtain ⟨cs, y, M2, rfl, rfl, e1, e2, e3, e4⟩ := hP
    obtain ⟨ex, hj⟩ := irg_get hx
    simp only [startD, s_nil, s_cons, s_asg, s_par2, s_par3, s_aug, s_augS, s_expr, s_ret, s_retN, s_ite, s_for, s_brk, s_cnt, s_pass, s_never, for_step, lc_step, e_var, e_cst, e_bin, e_neg, e_not, e_and, e_or, e_cmp, e_chain, e_ife, e_tup, e_lst, e_ix, e_slc, e_rev, e_fld, e_call, e_meth, e_make, e_bi, e_bm, e_isi, e_lc, e_frz, e_sp, cont_nil, wEs, wG, wGs, wI, wIf, wO, ge0, geS, wIx, wCmp, wBin, wAug, wBi, wBm, arrD, sq_lst, sq_frl, sq_tup, lq_lst, isi_int, isi_bl, isi_str, isi_non, isi_lst, isi_frl, isi_tup, sl_tup, sl_lst, sl_frl, rv_tup, rv_lst, rv_frl, st_lst, st_frl, st_tup, mset_same, bxs_at, newL, wipeD, isN_non, isN_int, isN_bl, isN_str, isN_tup, isN_lst, isN_obj, rng_irg, isTy, List.map_cons, List.map_nil, Nat.reduceSub, List.replicate_succ, List.replicate_zero, List.set_cons_zero, List.set_cons_succ, List.cons_append, List.nil_append, List.length_cons, List.length_nil, List.any_cons, List.any_nil, decide_eq_true_eq, Bool.not_eq_true', decide_eq_false_iff_not, if_true, if_false, reduceIte, Bool.false_eq_true, Bool.true_eq_false, Bool.not_true, Bool.not_false, true_and, and_true, Bool.or_false, Bool.or_true, Bool.true_or, Bool.false_or, beq_self_eq_true, List.getD_cons_zero, List.getD_cons_succ, not_true_eq_false, not_false_eq_true, ne_eq, Nat.zero_add, Nat.reduceAdd, Nat.reduceLeDiff, Int.reduceNeg, eq_self, ty_loc (show bxs M2 b B3 rr = _ by rw [bxs_ne hrb]; exact e3.r)]
    refine ⟨small_le (by decide), by omega, by omega, small_le (by omega), ?_, fun a hfa => ?_⟩
    · have : (List.replicate n.toNat [Sw.D.int 0]).flatten.length = n.toNat := by simp
      rw [this]
      exact small_le (by omega)
    obtain ⟨hab, hMa⟩ := bxs_fresh hfa
    have har : rr ≠ a := fun z => by rw [← z, e3.r] at hMa; cases hMa
    have e5 : mset (bxs M2 b B3) a (.lst (List.replicate n.toNat [Sw.D.int 0]).flatten) rr = some (.lst (cs.map Sw.D.loc)) := by
      rw [mset_ne har, bxs_ne hrb]; exact e3.r
    have e6 : (List.replicate n.toNat [Sw.D.int 0]).flatten = (List.replicate n.toNat (0 : Int)).map Sw.D.int := by
      simp [List.flatten_replicate_singleton]
    rw [e5]
    simp only [startD, s_nil, s_cons, s_asg, s_par2, s_par3, s_aug, s_augS, s_expr, s_ret, s_retN, s_ite, s_for, s_brk, s_cnt, s_pass, s_never, for_step, lc_step, e_var, e_cst, e_bin, e_neg, e_not, e_and, e_or, e_cmp, e_chain, e_ife, e_tup, e_lst, e_ix, e_slc, e_rev, e_fld, e_call, e_meth, e_make, e_bi, e_bm, e_isi, e_lc, e_frz, e_sp, cont_nil, wEs, wG, wGs, wI, wIf, wO, ge0, geS, wIx, wCmp, wBin, wAug, wBi, wBm, arrD, sq_lst, sq_frl, sq_tup, lq_lst, isi_int, isi_bl, isi_str, isi_non, isi_lst, isi_frl, isi_tup, sl_tup, sl_lst, sl_frl, rv_tup, rv_lst, rv_frl, st_lst, st_frl, st_tup, mset_same, bxs_at, newL, wipeD, isN_non, isN_int, isN_bl, isN_str, isN_tup, isN_lst, isN_obj, rng_irg, isTy, List.map_cons, List.map_nil, Nat.reduceSub, List.replicate_succ, List.replicate_zero, List.set_cons_zero, List.set_cons_succ, List.cons_append, List.nil_append, List.length_cons, List.length_nil, List.any_cons, List.any_nil, decide_eq_true_eq, Bool.not_eq_true', decide_eq_false_iff_not, if_true, if_false, reduceIte, Bool.false_eq_true, Bool.true_eq_false, Bool.not_true, Bool.not_false, true_and, and_true, Bool.or_false, Bool.or_true, Bool.true_or, Bool.false_or, beq_self_eq_true, List.getD_cons_zero, List.getD_cons_succ, not_true_eq_false, not_false_eq_true, ne_eq, Nat.zero_add, Nat.reduceAdd, Nat.reduceLeDiff, Int.reduceNeg, eq_self]
    refine ⟨by rw [List.length_map]; exact small_size (by omega), ?_⟩
    rw [bxs_mset hab, bxs_mset hrb, e6]
    rw [Nat.zero_add] at e2
    refine hk _ _ ⟨cs ++ [a], _, _, rfl, rfl, msub_put (msub_put e1 (msub_none e1 hMa)) hMr, by rw [List.length_append, e2, Nat.zero_add]; rfl, ?_, fun c hc => ?_⟩
    · have := e3.more (r := List.replicate n.toNat 0) (a := a) (by simp [e2]) hMa hab
      rw [Nat.zero_add] at this ⊢
      rw [show List.replicate (j + 1) (List.replicate n.toNat (0 : Int)) = List.replicate j (List.replicate n.toNat 0) ++ [List.replicate n.toNat 0] from List.replicate_succ']
      exact this
    · rcases List.mem_append.mp hc with q | q
      · exact e4 c q
      · have : c = a := by simpa using q
        rw [this]; exact msub_none e1 hMa
  obtain ⟨cs, y, M2, rfl, rfl, e1, e2, e3, e4⟩ := hP
  rw [Nat.zero_add, irg_len] at e2 e3
  have I0 : SInv M M2 rr b cs (List.replicate n.toNat (List.replicate n.toNat 0)) own sg n.toNat :=
    ⟨e1, e3, .of_mem (by simp) (fun r hr => by rw [(List.mem_replicate.mp hr).2]; simp), fun i j hi hj => by rw [ent_repl, ent_repl]; simp, fun i j hi hj => by rw [ent_repl]; omega, e4, hMr, e2⟩
  refine cont_step ?_
  simp only [startD, s_nil, s_cons, s_asg, s_par2, s_par3, s_aug, s_augS, s_expr, s_ret, s_retN, s_ite, s_for, s_brk, s_cnt, s_pass, s_never, for_step, lc_step, e_var, e_cst, e_bin, e_neg, e_not, e_and, e_or, e_cmp, e_chain, e_ife, e_tup, e_lst, e_ix, e_slc, e_rev, e_fld, e_call, e_meth, e_make, e_bi, e_bm, e_isi, e_lc, e_frz, e_sp, cont_nil, wEs, wG, wGs, wI, wIf, wO, ge0, geS, wIx, wCmp, wBin, wAug, wBi, wBm, arrD, sq_lst, sq_frl, sq_tup, lq_lst, isi_int, isi_bl, isi_str, isi_non, isi_lst, isi_frl, isi_tup, sl_tup, sl_lst, sl_frl, rv_tup, rv_lst, rv_frl, st_lst, st_frl, st_tup, mset_same, bxs_at, newL, wipeD, isN_non, isN_int, isN_bl, isN_str, isN_tup, isN_lst, isN_obj, rng_irg, isTy, List.map_cons, List.map_nil, Nat.reduceSub, List.replicate_succ, List.replicate_zero, List.set_cons_zero, List.set_cons_succ, List.cons_append, List.nil_append, List.length_cons, List.length_nil, List.any_cons, List.any_nil, decide_eq_true_eq, Bool.not_eq_true', decide_eq_false_iff_not, if_true, if_false, reduceIte, Bool.false_eq_true, Bool.true_eq_false, Bool.not_true, Bool.not_false, true_and, and_true, Bool.or_false, Bool.or_true, Bool.true_or, Bool.false_or, beq_self_eq_true, List.getD_cons_zero, List.getD_cons_succ, not_true_eq_false, not_false_eq_true, ne_eq, Nat.zero_add, Nat.reduceAdd, Nat.reduceLeDiff, Int.reduceNeg, eq_self]
  refine ⟨by omega, by omega, ?_⟩
  refine forb (e := Sw.D.int) (fun i Γ M' => ∃ (R : List (List Int)) (y3 y8 y9 : Option Sw.D), Γ = [some (.loc b), some (.int n), some (.int sg), y3, some (.int pl), some (.int (1 + od)), some (lI own), some (.loc rr), y8, y9, none, none] ∧ SInv M M' rr b cs R own sg n.toNat) 24 0 (fun _ _ _ _ _ => trivial) (i := 0) (hr.le (by omega)) ⟨_, y, none, none, rfl, I0⟩ (fun j x hx Γ M' B' kk hP hr2 hk => ?_) (fun Γ' M' B' hP hr2 hn4 => ?_)
  · obtain ⟨R, y3, y8, y9, rfl, I⟩ := hP
    obtain ⟨ex, hj⟩ := irg_get hx
    have hN2 := irg_len x (n - x).toNat
    simp only [startD, s_nil, s_cons, s_asg, s_par2, s_par3, s_aug, s_augS, s_expr, s_ret, s_retN, s_ite, s_for, s_brk, s_cnt, s_pass, s_never, for_step, lc_step, e_var, e_cst, e_bin, e_neg, e_not, e_and, e_or, e_cmp, e_chain, e_ife, e_tup, e_lst, e_ix, e_slc, e_rev, e_fld, e_call, e_meth, e_make, e_bi, e_bm, e_isi, e_lc, e_frz, e_sp, cont_nil, wEs, wG, wGs, wI, wIf, wO, ge0, geS, wIx, wCmp, wBin, wAug, wBi, wBm, arrD, sq_lst, sq_frl, sq_tup, lq_lst, isi_int, isi_bl, isi_str, isi_non, isi_lst, isi_frl, isi_tup, sl_tup, sl_lst, sl_frl, rv_tup, rv_lst, rv_frl, st_lst, st_frl, st_tup, mset_same, bxs_at, newL, wipeD, isN_non, isN_int, isN_bl, isN_str, isN_tup, isN_lst, isN_obj, rng_irg, isTy, List.map_cons, List.map_nil, Nat.reduceSub, List.replicate_succ, List.replicate_zero, List.set_cons_zero, List.set_cons_succ, List.cons_append, List.nil_append, List.length_cons, List.length_nil, List.any_cons, List.any_nil, decide_eq_true_eq, Bool.not_eq_true', decide_eq_false_iff_not, if_true, if_false, reduceIte, Bool.false_eq_true, Bool.true_eq_false, Bool.not_true, Bool.not_false, true_and, and_true, Bool.or_false, Bool.or_true, Bool.true_or, Bool.false_or, beq_self_eq_true, List.getD_cons_zero, List.getD_cons_succ, not_true_eq_false, not_false_eq_true, ne_eq, Nat.zero_add, Nat.reduceAdd, Nat.reduceLeDiff, Int.reduceNeg, eq_self]
    refine ⟨by omega, by omega, by omega, by omega, ?_⟩
    refine forb (e := Sw.D.int) (fun i Γ M' => ∃ (R : List (List Int)) (y8 y9 : Option Sw.D), Γ = [some (.loc b), some (.int n), some (.int sg), some (.int x), some (.int pl), some (.int (1 + od)), some (lI own), some (.loc rr), y8, y9, none, none] ∧ SInv M M' rr b cs R own sg n.toNat) 2 0 (fun _ _ _ _ _ => trivial) (i := 0) (hr2.le (by omega)) ⟨R, y8, y9, rfl, I⟩ (fun j2 x2 hx2 Γ M' B' kk2 hP hr3 hk2 => ?_) (fun Γ' M' B' hP hr3 hn5 => ?_)
    · obtain ⟨R, y8, y9, rfl, I⟩ := hP
      obtain ⟨ex2, hj2⟩ := irg_get hx2
      rw [for_step]
      simp only [wG, List.set_cons_zero, List.set_cons_succ]
      exact sBody_ok (wk := { nx := _, rt := _ }) hsg hr3 (by omega) (by omega) (by omega) (by omega) hol how I fun R' M3 z B' I' hn6 => hk2 _ _ _ ⟨R', _, z, rfl, I'⟩ hn6
    · obtain ⟨R, y8, y9, rfl, I⟩ := hP
      exact hk _ _ _ ⟨R, _, y8, y9, rfl, I⟩ (hn5.le (by omega))
  · obtain ⟨R, y3, y8, y9, rfl, I⟩ := hP
    refine cont_step ?_
    simp only [startD, s_nil, s_cons, s_asg, s_par2, s_par3, s_aug, s_augS, s_expr, s_ret, s_retN, s_ite, s_for, s_brk, s_cnt, s_pass, s_never, for_step, lc_step, e_var, e_cst, e_bin, e_neg, e_not, e_and, e_or, e_cmp, e_chain, e_ife, e_tup, e_lst, e_ix, e_slc, e_rev, e_fld, e_call, e_meth, e_make, e_bi, e_bm, e_isi, e_lc, e_frz, e_sp, cont_nil, wEs, wG, wGs, wI, wIf, wO, ge0, geS, wIx, wCmp, wBin, wAug, wBi, wBm, arrD, sq_lst, sq_frl, sq_tup, lq_lst, isi_int, isi_bl, isi_str, isi_non, isi_lst, isi_frl, isi_tup, sl_tup, sl_lst, sl_frl, rv_tup, rv_lst, rv_frl, st_lst, st_frl, st_tup, mset_same, bxs_at, newL, wipeD, isN_non, isN_int, isN_bl, isN_str, isN_tup, isN_lst, isN_obj, rng_irg, isTy, List.map_cons, List.map_nil, Nat.reduceSub, List.replicate_succ, List.replicate_zero, List.set_cons_zero, List.set_cons_succ, List.cons_append, List.nil_append, List.length_cons, List.length_nil, List.any_cons, List.any_nil, decide_eq_true_eq, Bool.not_eq_true', decide_eq_false_iff_not, if_true, if_false, reduceIte, Bool.false_eq_true, Bool.true_eq_false, Bool.not_true, Bool.not_false, true_and, and_true, Bool.or_false, Bool.or_true, Bool.true_or, Bool.false_or, beq_self_eq_true, List.getD_cons_zero, List.getD_cons_succ, not_true_eq_false, not_false_eq_true, ne_eq, Nat.zero_add, Nat.reduceAdd, Nat.reduceLeDiff, Int.reduceNeg, eq_self, I.mat.seq]
    have hsq := I.mat.seq (B := B')
    refine ⟨by rw [List.length_map]; exact small_size (by rw [I.cl]; omega), ?_⟩
    have ha2 : All2 (fun (x : Sw.D) (r : List Int) => ∃ c, x = .loc c ∧ bxs M' b B' c = some (.lst (r.map Sw.D.int))) (cs.map Sw.D.loc) R := by
      have key : ∀ (cs : List Addr) (R : List (List Int)), cs.length = R.length → (∀ i c, cs[i]? = some c → bxs M' b B' c = some (.lst ((R.getD i []).map Sw.D.int))) → All2 (fun (x : Sw.D) (r : List Int) => ∃ c, x = .loc c ∧ bxs M' b B' c = some (.lst (r.map Sw.D.int))) (cs.map Sw.D.loc) R := by
        intro cs
        induction cs with
        | nil => intro R hl _; cases R with
          | nil => trivial
          | cons _ _ => simp at hl
        | cons c cs ih =>
          intro R hl hh
          cases R with
          | nil => simp at hl
          | cons r R => exact ⟨⟨c, rfl, hh 0 c rfl⟩, ih R (by simpa using hl) fun i d e => hh (i + 1) d (by simpa using e)⟩
      exact key cs R (by rw [I.cl, I.sz.1]) fun i c e => I.mat.row e
    refine lc_a2 (fun r => tI r) (stays_self hsq) ha2 (fun x r hm hr hq kk hk => ?_) ?_
    · obtain ⟨c, rfl, hc⟩ := hq
      simp only [startD, s_nil, s_cons, s_asg, s_par2, s_par3, s_aug, s_augS, s_expr, s_ret, s_retN, s_ite, s_for, s_brk, s_cnt, s_pass, s_never, for_step, lc_step, e_var, e_cst, e_bin, e_neg, e_not, e_and, e_or, e_cmp, e_chain, e_ife, e_tup, e_lst, e_ix, e_slc, e_rev, e_fld, e_call, e_meth, e_make, e_bi, e_bm, e_isi, e_lc, e_frz, e_sp, cont_nil, wEs, wG, wGs, wI, wIf, wO, ge0, geS, wIx, wCmp, wBin, wAug, wBi, wBm, arrD, sq_lst, sq_frl, sq_tup, lq_lst, isi_int, isi_bl, isi_str, isi_non, isi_lst, isi_frl, isi_tup, sl_tup, sl_lst, sl_frl, rv_tup, rv_lst, rv_frl, st_lst, st_frl, st_tup, mset_same, bxs_at, newL, wipeD, isN_non, isN_int, isN_bl, isN_str, isN_tup, isN_lst, isN_obj, rng_irg, isTy, List.map_cons, List.map_nil, Nat.reduceSub, List.replicate_succ, List.replicate_zero, List.set_cons_zero, List.set_cons_succ, List.cons_append, List.nil_append, List.length_cons, List.length_nil, List.any_cons, List.any_nil, decide_eq_true_eq, Bool.not_eq_true', decide_eq_false_iff_not, if_true, if_false, reduceIte, Bool.false_eq_true, Bool.true_eq_false, Bool.not_true, Bool.not_false, true_and, and_true, Bool.or_false, Bool.or_true, Bool.true_or, Bool.false_or, beq_self_eq_true, List.getD_cons_zero, List.getD_cons_succ, not_true_eq_false, not_false_eq_true, ne_eq, Nat.zero_add, Nat.reduceAdd, Nat.reduceLeDiff, Int.reduceNeg, eq_self, sq_loc hc]
      exact hk
    · simp only [startD, s_nil, s_cons, s_asg, s_par2, s_par3, s_aug, s_augS, s_expr, s_ret, s_retN, s_ite, s_for, s_brk, s_cnt, s_pass, s_never, for_step, lc_step, e_var, e_cst, e_bin, e_neg, e_not, e_and, e_or, e_cmp, e_chain, e_ife, e_tup, e_lst, e_ix, e_slc, e_rev, e_fld, e_call, e_meth, e_make, e_bi, e_bm, e_isi, e_lc, e_frz, e_sp, cont_nil, wEs, wG, wGs, wI, wIf, wO, ge0, geS, wIx, wCmp, wBin, wAug, wBi, wBm, arrD, sq_lst, sq_frl, sq_tup, lq_lst, isi_int, isi_bl, isi_str, isi_non, isi_lst, isi_frl, isi_tup, sl_tup, sl_lst, sl_frl, rv_tup, rv_lst, rv_frl, st_lst, st_frl, st_tup, mset_same, bxs_at, newL, wipeD, isN_non, isN_int, isN_bl, isN_str, isN_tup, isN_lst, isN_obj, rng_irg, isTy, List.map_cons, List.map_nil, Nat.reduceSub, List.replicate_succ, List.replicate_zero, List.set_cons_zero, List.set_cons_succ, List.cons_append, List.nil_append, List.length_cons, List.length_nil, List.any_cons, List.any_nil, decide_eq_true_eq, Bool.not_eq_true', decide_eq_false_iff_not, if_true, if_false, reduceIte, Bool.false_eq_true, Bool.true_eq_false, Bool.not_true, Bool.not_false, true_and, and_true, Bool.or_false, Bool.or_true, Bool.true_or, Bool.false_or, beq_self_eq_true, List.getD_cons_zero, List.getD_cons_succ, not_true_eq_false, not_false_eq_true, ne_eq, Nat.zero_add, Nat.reduceAdd, Nat.reduceLeDiff, Int.reduceNeg, eq_self]
      refine ⟨by rw [List.length_map, I.sz.1]; exact small_le (by omega), small_le (by decide), ?_⟩
      exact rtn_sub I.sub (h R own B' I.sz hol how I.bal I.sm (((h1.trans h2).trans (hn3.trans hn4)).le (by rw [irg_len] at *; omega)))
end
end Pg
set_option maxRecDepth 100000
set_option maxHeartbeats 1000000
/-! Pf: a Hall's deeds, memory's word. -/
namespace Pg
open PySem Sw
def b_memory : Ss := (.cons (.ret (.fld (.var 0) "own_memory")) .nil)
def b_strings : Ss := (.cons (.ret (.fld (.var 0) "own_strings")) .nil)
def b_steps : Ss := (.cons (.ret (.fld (.var 0) "own_steps")) .nil)
def b_memory_word : Ss := (.cons (.asg (.name 1) (.meth "Hall" "memory" [.at_ 0] (.var 0) .nil .nil)) (.cons (.asg (.name 2) (.sp false .zipS (.cons (.var 1) (.cons (.rev false (.var 1)) .nil)))) (.cons (.ite (.bi false .all (.cons (.lc false (.cmp .Eq (.var 3) (.var 4)) (.tup (.cons (.name 3) (.cons (.name 4) .nil))) (.seq (.var 2)) .no [3, 4]) .nil)) (.cons (.ret (.cst (.str "straight"))) .nil) .nil) (.cons (.ret (.ife (.bi false .all (.cons (.lc false (.cmp .Eq (.var 3) (.neg (.var 4))) (.tup (.cons (.name 3) (.cons (.name 4) .nil))) (.seq (.var 2)) .no [3, 4]) .nil)) (.cst (.str "turned")) (.cst (.str "")))) .nil))))
theorem ap_init : ("Hall" ++ ".__init__" : Str) = "Hall.__init__" := by decide +kernel
theorem ap_memory : ("Hall" ++ "." ++ "memory" : Str) = "Hall.memory" := by decide +kernel
theorem ap_strings : ("Hall" ++ "." ++ "strings" : Str) = "Hall.strings" := by decide +kernel
theorem ap_steps : ("Hall" ++ "." ++ "steps" : Str) = "Hall.steps" := by decide +kernel
theorem ap_tops : ("Hall" ++ "." ++ "tops" : Str) = "Hall.tops" := by decide +kernel
theorem no_memory {V : HallV} : lookF "memory" (hallF V) = none := by
  unfold hallF lookF lookF lookF lookF
  rw [if_neg (by decide +kernel), if_neg (by decide +kernel), if_neg (by decide +kernel)]
theorem no_strings {V : HallV} : lookF "strings" (hallF V) = none := by
  unfold hallF lookF lookF lookF lookF
  rw [if_neg (by decide +kernel), if_neg (by decide +kernel), if_neg (by decide +kernel)]
theorem no_steps {V : HallV} : lookF "steps" (hallF V) = none := by
  unfold hallF lookF lookF lookF lookF
  rw [if_neg (by decide +kernel), if_neg (by decide +kernel), if_neg (by decide +kernel)]
theorem no_tops {V : HallV} : lookF "tops" (hallF V) = none := by
  unfold hallF lookF lookF lookF lookF
  rw [if_neg (by decide +kernel), if_neg (by decide +kernel), if_neg (by decide +kernel)]
section
variable {V : HallV} {M : MM} {Φ : CallC}
theorem f_strings : wFld (hallD V) "own_strings" M Φ = Φ (.tup (V.ss.map tI)) M := by
  unfold wFld hallD hallF lookF
  simp only [if_true]
theorem f_steps : wFld (hallD V) "own_steps" M Φ = Φ (.tup (V.st.map tI)) M := by
  unfold wFld hallD hallF lookF lookF
  simp only [if_true, if_neg n12]
theorem f_memory : wFld (hallD V) "own_memory" M Φ = Φ (tI V.mm) M := by
  unfold wFld hallD hallF lookF lookF lookF
  simp only [if_true, if_neg n13, if_neg n23]
/-- a Hall is asked: it's one, has no field of the deed's name -/
theorem c_hall {m : Str} (h : lookF m (hallF V) = none) : isC (hallD V) "Hall" m M := ⟨rfl, h⟩
theorem c_memory : isC (hallD V) "Hall" "memory" M := c_hall no_memory
theorem c_strings : isC (hallD V) "Hall" "strings" M := c_hall no_strings
theorem c_steps : isC (hallD V) "Hall" "steps" M := c_hall no_steps
theorem c_tops : isC (hallD V) "Hall" "tops" M := c_hall no_tops
end
/-- memory's word -/
def memWord (mm : List Int) : Str := if mm = mm.reverse then "straight" else if mm = mm.reverse.map (fun x => -x) then "turned" else ""
section
variable {T : Tb} {k : Nat} {M : MM} {Φ Ψ : CallC} {V : HallV}
theorem h_memory [Row T "Hall.memory" ⟨"Hall.memory", 1, 1, b_memory⟩] (h : Φ (tI V.mm) M) : callAt T (k + 1) "Hall.memory" [hallD V] M Φ Ψ := by
  refine call_row rfl ?_
  simp only [startD, s_nil, s_cons, s_asg, s_par2, s_par3, s_aug, s_augS, s_expr, s_ret, s_retN, s_ite, s_for, s_brk, s_cnt, s_pass, s_never, for_step, lc_step, e_var, e_cst, e_bin, e_neg, e_not, e_and, e_or, e_cmp, e_chain, e_ife, e_tup, e_lst, e_ix, e_slc, e_rev, e_fld, e_call, e_meth, e_make, e_bi, e_bm, e_isi, e_lc, e_frz, e_sp, cont_nil, wEs, wG, wGs, wI, wIf, wO, ge0, geS, wIx, wCmp, wBin, wAug, wBi, wBm, arrD, sq_lst, sq_frl, sq_tup, lq_lst, isi_int, isi_bl, isi_str, isi_non, isi_lst, isi_frl, isi_tup, sl_tup, sl_lst, sl_frl, rv_tup, rv_lst, rv_frl, st_lst, st_frl, st_tup, mset_same, bxs_at, newL, wipeD, isN_non, isN_int, isN_bl, isN_str, isN_tup, isN_lst, isN_obj, rng_irg, isTy, List.map_cons, List.map_nil, Nat.reduceSub, List.replicate_succ, List.replicate_zero, List.set_cons_zero, List.set_cons_succ, List.cons_append, List.nil_append, List.length_cons, List.length_nil, List.any_cons, List.any_nil, decide_eq_true_eq, Bool.not_eq_true', decide_eq_false_iff_not, if_true, if_false, reduceIte, Bool.false_eq_true, Bool.true_eq_false, Bool.not_true, Bool.not_false, true_and, and_true, Bool.or_false, Bool.or_true, Bool.true_or, Bool.false_or, beq_self_eq_true, List.getD_cons_zero, List.getD_cons_succ, not_true_eq_false, not_false_eq_true, ne_eq, Nat.zero_add, Nat.reduceAdd, Nat.reduceLeDiff, Int.reduceNeg, eq_self, b_memory, f_memory]
  exact rtn_self h
theorem h_strings [Row T "Hall.strings" ⟨"Hall.strings", 1, 1, b_strings⟩] (h : Φ (.tup (V.ss.map tI)) M) : callAt T (k + 1) "Hall.strings" [hallD V] M Φ Ψ := by
  refine call_row rfl ?_
  simp only [startD, s_nil, s_cons, s_asg, s_par2, s_par3, s_aug, s_augS, s_expr, s_ret, s_retN, s_ite, s_for, s_brk, s_cnt, s_pass, s_never, for_step, lc_step, e_var, e_cst, e_bin, e_neg, e_not, e_and, e_or, e_cmp, e_chain, e_ife, e_tup, e_lst, e_ix, e_slc, e_rev, e_fld, e_call, e_meth, e_make, e_bi, e_bm, e_isi, e_lc, e_frz, e_sp, cont_nil, wEs, wG, wGs, wI, wIf, wO, ge0, geS, wIx, wCmp, wBin, wAug, wBi, wBm, arrD, sq_lst, sq_frl, sq_tup, lq_lst, isi_int, isi_bl, isi_str, isi_non, isi_lst, isi_frl, isi_tup, sl_tup, sl_lst, sl_frl, rv_tup, rv_lst, rv_frl, st_lst, st_frl, st_tup, mset_same, bxs_at, newL, wipeD, isN_non, isN_int, isN_bl, isN_str, isN_tup, isN_lst, isN_obj, rng_irg, isTy, List.map_cons, List.map_nil, Nat.reduceSub, List.replicate_succ, List.replicate_zero, List.set_cons_zero, List.set_cons_succ, List.cons_append, List.nil_append, List.length_cons, List.length_nil, List.any_cons, List.any_nil, decide_eq_true_eq, Bool.not_eq_true', decide_eq_false_iff_not, if_true, if_false, reduceIte, Bool.false_eq_true, Bool.true_eq_false, Bool.not_true, Bool.not_false, true_and, and_true, Bool.or_false, Bool.or_true, Bool.true_or, Bool.false_or, beq_self_eq_true, List.getD_cons_zero, List.getD_cons_succ, not_true_eq_false, not_false_eq_true, ne_eq, Nat.zero_add, Nat.reduceAdd, Nat.reduceLeDiff, Int.reduceNeg, eq_self, b_strings, f_strings]
  exact rtn_self h
theorem h_steps [Row T "Hall.steps" ⟨"Hall.steps", 1, 1, b_steps⟩] (h : Φ (.tup (V.st.map tI)) M) : callAt T (k + 1) "Hall.steps" [hallD V] M Φ Ψ := by
  refine call_row rfl ?_
  simp only [startD, s_nil, s_cons, s_asg, s_par2, s_par3, s_aug, s_augS, s_expr, s_ret, s_retN, s_ite, s_for, s_brk, s_cnt, s_pass, s_never, for_step, lc_step, e_var, e_cst, e_bin, e_neg, e_not, e_and, e_or, e_cmp, e_chain, e_ife, e_tup, e_lst, e_ix, e_slc, e_rev, e_fld, e_call, e_meth, e_make, e_bi, e_bm, e_isi, e_lc, e_frz, e_sp, cont_nil, wEs, wG, wGs, wI, wIf, wO, ge0, geS, wIx, wCmp, wBin, wAug, wBi, wBm, arrD, sq_lst, sq_frl, sq_tup, lq_lst, isi_int, isi_bl, isi_str, isi_non, isi_lst, isi_frl, isi_tup, sl_tup, sl_lst, sl_frl, rv_tup, rv_lst, rv_frl, st_lst, st_frl, st_tup, mset_same, bxs_at, newL, wipeD, isN_non, isN_int, isN_bl, isN_str, isN_tup, isN_lst, isN_obj, rng_irg, isTy, List.map_cons, List.map_nil, Nat.reduceSub, List.replicate_succ, List.replicate_zero, List.set_cons_zero, List.set_cons_succ, List.cons_append, List.nil_append, List.length_cons, List.length_nil, List.any_cons, List.any_nil, decide_eq_true_eq, Bool.not_eq_true', decide_eq_false_iff_not, if_true, if_false, reduceIte, Bool.false_eq_true, Bool.true_eq_false, Bool.not_true, Bool.not_false, true_and, and_true, Bool.or_false, Bool.or_true, Bool.true_or, Bool.false_or, beq_self_eq_true, List.getD_cons_zero, List.getD_cons_succ, not_true_eq_false, not_false_eq_true, ne_eq, Nat.zero_add, Nat.reduceAdd, Nat.reduceLeDiff, Int.reduceNeg, eq_self, b_steps, f_steps]
  exact rtn_self h
theorem zip_all {α : Type} [DecidableEq α] : ∀ {xs ys : List α}, xs.length = ys.length → (((xs.zip ys).map fun p => decide (p.1 = p.2)).all id = decide (xs = ys))
  | [], [], _ => by simp
  | x :: xs, y :: ys, h => by
    have := zip_all (xs := xs) (ys := ys) (by simpa using h)
    rw [List.zip_cons_cons, List.map_cons, List.all_cons, this]
    simp
  | [], _ :: _, h => by simp at h
  | _ :: _, [], h => by simp at h
theorem zip_allN : ∀ {xs ys : List Int}, xs.length = ys.length → (((xs.zip ys).map fun p => decide (p.1 = -p.2)).all id = decide (xs = ys.map (fun x => -x)))
  | [], [], _ => by simp
  | x :: xs, y :: ys, h => by
    have := zip_allN (xs := xs) (ys := ys) (by simpa using h)
    rw [List.zip_cons_cons, List.map_cons, List.all_cons, this]
    simp
  | [], _ :: _, h => by simp at h
  | _ :: _, [], h => by simp at h
theorem memory_word [Row T "Hall.memory" ⟨"Hall.memory", 1, 1, b_memory⟩] [Row T "memory_word" ⟨"memory_word", 1, 5, b_memory_word⟩] (hl : V.mm.length ≤ 1000) (h : Φ (.str (memWord V.mm)) M) : callAt T (k + 2) "memory_word" [hallD V] M Φ Ψ := by
  refine call_row rfl ?_
  simp only [startD, s_nil, s_cons, s_asg, s_par2, s_par3, s_aug, s_augS, s_expr, s_ret, s_retN, s_ite, s_for, s_brk, s_cnt, s_pass, s_never, for_step, lc_step, e_var, e_cst, e_bin, e_neg, e_not, e_and, e_or, e_cmp, e_chain, e_ife, e_tup, e_lst, e_ix, e_slc, e_rev, e_fld, e_call, e_meth, e_make, e_bi, e_bm, e_isi, e_lc, e_frz, e_sp, cont_nil, wEs, wG, wGs, wI, wIf, wO, ge0, geS, wIx, wCmp, wBin, wAug, wBi, wBm, arrD, sq_lst, sq_frl, sq_tup, lq_lst, isi_int, isi_bl, isi_str, isi_non, isi_lst, isi_frl, isi_tup, sl_tup, sl_lst, sl_frl, rv_tup, rv_lst, rv_frl, st_lst, st_frl, st_tup, mset_same, bxs_at, newL, wipeD, isN_non, isN_int, isN_bl, isN_str, isN_tup, isN_lst, isN_obj, rng_irg, isTy, List.map_cons, List.map_nil, Nat.reduceSub, List.replicate_succ, List.replicate_zero, List.set_cons_zero, List.set_cons_succ, List.cons_append, List.nil_append, List.length_cons, List.length_nil, List.any_cons, List.any_nil, decide_eq_true_eq, Bool.not_eq_true', decide_eq_false_iff_not, if_true, if_false, reduceIte, Bool.false_eq_true, Bool.true_eq_false, Bool.not_true, Bool.not_false, true_and, and_true, Bool.or_false, Bool.or_true, Bool.true_or, Bool.false_or, beq_self_eq_true, List.getD_cons_zero, List.getD_cons_succ, not_true_eq_false, not_false_eq_true, ne_eq, Nat.zero_add, Nat.reduceAdd, Nat.reduceLeDiff, Int.reduceNeg, eq_self, b_memory_word, ap_memory, c_memory]
  refine h_memory ?_
  refine cont_step ?_
  simp only [startD, s_nil, s_cons, s_asg, s_par2, s_par3, s_aug, s_augS, s_expr, s_ret, s_retN, s_ite, s_for, s_brk, s_cnt, s_pass, s_never, for_step, lc_step, e_var, e_cst, e_bin, e_neg, e_not, e_and, e_or, e_cmp, e_chain, e_ife, e_tup, e_lst, e_ix, e_slc, e_rev, e_fld, e_call, e_meth, e_make, e_bi, e_bm, e_isi, e_lc, e_frz, e_sp, cont_nil, wEs, wG, wGs, wI, wIf, wO, ge0, geS, wIx, wCmp, wBin, wAug, wBi, wBm, arrD, sq_lst, sq_frl, sq_tup, lq_lst, isi_int, isi_bl, isi_str, isi_non, isi_lst, isi_frl, isi_tup, sl_tup, sl_lst, sl_frl, rv_tup, rv_lst, rv_frl, st_lst, st_frl, st_tup, mset_same, bxs_at, newL, wipeD, isN_non, isN_int, isN_bl, isN_str, isN_tup, isN_lst, isN_obj, rng_irg, isTy, List.map_cons, List.map_nil, Nat.reduceSub, List.replicate_succ, List.replicate_zero, List.set_cons_zero, List.set_cons_succ, List.cons_append, List.nil_append, List.length_cons, List.length_nil, List.any_cons, List.any_nil, decide_eq_true_eq, Bool.not_eq_true', decide_eq_false_iff_not, if_true, if_false, reduceIte, Bool.false_eq_true, Bool.true_eq_false, Bool.not_true, Bool.not_false, true_and, and_true, Bool.or_false, Bool.or_true, Bool.true_or, Bool.false_or, beq_self_eq_true, List.getD_cons_zero, List.getD_cons_succ, not_true_eq_false, not_false_eq_true, ne_eq, Nat.zero_add, Nat.reduceAdd, Nat.reduceLeDiff, Int.reduceNeg, eq_self, wSp, ← List.map_reverse, List.length_map, List.length_reverse, pairs_map]
  refine ⟨by rw [List.length_zip, List.length_reverse]; exact small_le (by omega), ?_⟩
  refine cont_step ?_
  simp only [startD, s_nil, s_cons, s_asg, s_par2, s_par3, s_aug, s_augS, s_expr, s_ret, s_retN, s_ite, s_for, s_brk, s_cnt, s_pass, s_never, for_step, lc_step, e_var, e_cst, e_bin, e_neg, e_not, e_and, e_or, e_cmp, e_chain, e_ife, e_tup, e_lst, e_ix, e_slc, e_rev, e_fld, e_call, e_meth, e_make, e_bi, e_bm, e_isi, e_lc, e_frz, e_sp, cont_nil, wEs, wG, wGs, wI, wIf, wO, ge0, geS, wIx, wCmp, wBin, wAug, wBi, wBm, arrD, sq_lst, sq_frl, sq_tup, lq_lst, isi_int, isi_bl, isi_str, isi_non, isi_lst, isi_frl, isi_tup, sl_tup, sl_lst, sl_frl, rv_tup, rv_lst, rv_frl, st_lst, st_frl, st_tup, mset_same, bxs_at, newL, wipeD, isN_non, isN_int, isN_bl, isN_str, isN_tup, isN_lst, isN_obj, rng_irg, isTy, List.map_cons, List.map_nil, Nat.reduceSub, List.replicate_succ, List.replicate_zero, List.set_cons_zero, List.set_cons_succ, List.cons_append, List.nil_append, List.length_cons, List.length_nil, List.any_cons, List.any_nil, decide_eq_true_eq, Bool.not_eq_true', decide_eq_false_iff_not, if_true, if_false, reduceIte, Bool.false_eq_true, Bool.true_eq_false, Bool.not_true, Bool.not_false, true_and, and_true, Bool.or_false, Bool.or_true, Bool.true_or, Bool.false_or, beq_self_eq_true, List.getD_cons_zero, List.getD_cons_succ, not_true_eq_false, not_false_eq_true, ne_eq, Nat.zero_add, Nat.reduceAdd, Nat.reduceLeDiff, Int.reduceNeg, eq_self, List.length_map, List.length_zip, List.length_reverse]
  refine ⟨small_size (by omega), ?_⟩
  refine lc_map (fun p => .bl (decide (p.1 = p.2))) trivial (fun p hp kk hk => ?_) ?_
  · simp only [startD, s_nil, s_cons, s_asg, s_par2, s_par3, s_aug, s_augS, s_expr, s_ret, s_retN, s_ite, s_for, s_brk, s_cnt, s_pass, s_never, for_step, lc_step, e_var, e_cst, e_bin, e_neg, e_not, e_and, e_or, e_cmp, e_chain, e_ife, e_tup, e_lst, e_ix, e_slc, e_rev, e_fld, e_call, e_meth, e_make, e_bi, e_bm, e_isi, e_lc, e_frz, e_sp, cont_nil, wEs, wG, wGs, wI, wIf, wO, ge0, geS, wIx, wCmp, wBin, wAug, wBi, wBm, arrD, sq_lst, sq_frl, sq_tup, lq_lst, isi_int, isi_bl, isi_str, isi_non, isi_lst, isi_frl, isi_tup, sl_tup, sl_lst, sl_frl, rv_tup, rv_lst, rv_frl, st_lst, st_frl, st_tup, mset_same, bxs_at, newL, wipeD, isN_non, isN_int, isN_bl, isN_str, isN_tup, isN_lst, isN_obj, rng_irg, isTy, List.map_cons, List.map_nil, Nat.reduceSub, List.replicate_succ, List.replicate_zero, List.set_cons_zero, List.set_cons_succ, List.cons_append, List.nil_append, List.length_cons, List.length_nil, List.any_cons, List.any_nil, decide_eq_true_eq, Bool.not_eq_true', decide_eq_false_iff_not, if_true, if_false, reduceIte, Bool.false_eq_true, Bool.true_eq_false, Bool.not_true, Bool.not_false, true_and, and_true, Bool.or_false, Bool.or_true, Bool.true_or, Bool.false_or, beq_self_eq_true, List.getD_cons_zero, List.getD_cons_succ, not_true_eq_false, not_false_eq_true, ne_eq, Nat.zero_add, Nat.reduceAdd, Nat.reduceLeDiff, Int.reduceNeg, eq_self]
    exact hk
  simp only [startD, s_nil, s_cons, s_asg, s_par2, s_par3, s_aug, s_augS, s_expr, s_ret, s_retN, s_ite, s_for, s_brk, s_cnt, s_pass, s_never, for_step, lc_step, e_var, e_cst, e_bin, e_neg, e_not, e_and, e_or, e_cmp, e_chain, e_ife, e_tup, e_lst, e_ix, e_slc, e_rev, e_fld, e_call, e_meth, e_make, e_bi, e_bm, e_isi, e_lc, e_frz, e_sp, cont_nil, wEs, wG, wGs, wI, wIf, wO, ge0, geS, wIx, wCmp, wBin, wAug, wBi, wBm, arrD, sq_lst, sq_frl, sq_tup, lq_lst, isi_int, isi_bl, isi_str, isi_non, isi_lst, isi_frl, isi_tup, sl_tup, sl_lst, sl_frl, rv_tup, rv_lst, rv_frl, st_lst, st_frl, st_tup, mset_same, bxs_at, newL, wipeD, isN_non, isN_int, isN_bl, isN_str, isN_tup, isN_lst, isN_obj, rng_irg, isTy, List.map_cons, List.map_nil, Nat.reduceSub, List.replicate_succ, List.replicate_zero, List.set_cons_zero, List.set_cons_succ, List.cons_append, List.nil_append, List.length_cons, List.length_nil, List.any_cons, List.any_nil, decide_eq_true_eq, Bool.not_eq_true', decide_eq_false_iff_not, if_true, if_false, reduceIte, Bool.false_eq_true, Bool.true_eq_false, Bool.not_true, Bool.not_false, true_and, and_true, Bool.or_false, Bool.or_true, Bool.true_or, Bool.false_or, beq_self_eq_true, List.getD_cons_zero, List.getD_cons_succ, not_true_eq_false, not_false_eq_true, ne_eq, Nat.zero_add, Nat.reduceAdd, Nat.reduceLeDiff, Int.reduceNeg, eq_self, bls_map, List.length_map, List.length_zip, List.length_reverse, zip_all (show V.mm.length = V.mm.reverse.length by rw [List.length_reverse])]
  refine ⟨small_le (by omega), ?_⟩
  unfold memWord at h
  by_cases c : V.mm = V.mm.reverse
  · rw [if_pos c] at h ⊢
    exact rtn_self h
  · rw [if_neg c] at h ⊢
    refine cont_step ?_
    simp only [startD, s_nil, s_cons, s_asg, s_par2, s_par3, s_aug, s_augS, s_expr, s_ret, s_retN, s_ite, s_for, s_brk, s_cnt, s_pass, s_never, for_step, lc_step, e_var, e_cst, e_bin, e_neg, e_not, e_and, e_or, e_cmp, e_chain, e_ife, e_tup, e_lst, e_ix, e_slc, e_rev, e_fld, e_call, e_meth, e_make, e_bi, e_bm, e_isi, e_lc, e_frz, e_sp, cont_nil, wEs, wG, wGs, wI, wIf, wO, ge0, geS, wIx, wCmp, wBin, wAug, wBi, wBm, arrD, sq_lst, sq_frl, sq_tup, lq_lst, isi_int, isi_bl, isi_str, isi_non, isi_lst, isi_frl, isi_tup, sl_tup, sl_lst, sl_frl, rv_tup, rv_lst, rv_frl, st_lst, st_frl, st_tup, mset_same, bxs_at, newL, wipeD, isN_non, isN_int, isN_bl, isN_str, isN_tup, isN_lst, isN_obj, rng_irg, isTy, List.map_cons, List.map_nil, Nat.reduceSub, List.replicate_succ, List.replicate_zero, List.set_cons_zero, List.set_cons_succ, List.cons_append, List.nil_append, List.length_cons, List.length_nil, List.any_cons, List.any_nil, decide_eq_true_eq, Bool.not_eq_true', decide_eq_false_iff_not, if_true, if_false, reduceIte, Bool.false_eq_true, Bool.true_eq_false, Bool.not_true, Bool.not_false, true_and, and_true, Bool.or_false, Bool.or_true, Bool.true_or, Bool.false_or, beq_self_eq_true, List.getD_cons_zero, List.getD_cons_succ, not_true_eq_false, not_false_eq_true, ne_eq, Nat.zero_add, Nat.reduceAdd, Nat.reduceLeDiff, Int.reduceNeg, eq_self, List.length_map, List.length_zip, List.length_reverse]
    refine ⟨small_size (by omega), ?_⟩
    refine lc_map (fun p => .bl (decide (p.1 = -p.2))) trivial (fun p hp kk hk => ?_) ?_
    · simp only [startD, s_nil, s_cons, s_asg, s_par2, s_par3, s_aug, s_augS, s_expr, s_ret, s_retN, s_ite, s_for, s_brk, s_cnt, s_pass, s_never, for_step, lc_step, e_var, e_cst, e_bin, e_neg, e_not, e_and, e_or, e_cmp, e_chain, e_ife, e_tup, e_lst, e_ix, e_slc, e_rev, e_fld, e_call, e_meth, e_make, e_bi, e_bm, e_isi, e_lc, e_frz, e_sp, cont_nil, wEs, wG, wGs, wI, wIf, wO, ge0, geS, wIx, wCmp, wBin, wAug, wBi, wBm, arrD, sq_lst, sq_frl, sq_tup, lq_lst, isi_int, isi_bl, isi_str, isi_non, isi_lst, isi_frl, isi_tup, sl_tup, sl_lst, sl_frl, rv_tup, rv_lst, rv_frl, st_lst, st_frl, st_tup, mset_same, bxs_at, newL, wipeD, isN_non, isN_int, isN_bl, isN_str, isN_tup, isN_lst, isN_obj, rng_irg, isTy, List.map_cons, List.map_nil, Nat.reduceSub, List.replicate_succ, List.replicate_zero, List.set_cons_zero, List.set_cons_succ, List.cons_append, List.nil_append, List.length_cons, List.length_nil, List.any_cons, List.any_nil, decide_eq_true_eq, Bool.not_eq_true', decide_eq_false_iff_not, if_true, if_false, reduceIte, Bool.false_eq_true, Bool.true_eq_false, Bool.not_true, Bool.not_false, true_and, and_true, Bool.or_false, Bool.or_true, Bool.true_or, Bool.false_or, beq_self_eq_true, List.getD_cons_zero, List.getD_cons_succ, not_true_eq_false, not_false_eq_true, ne_eq, Nat.zero_add, Nat.reduceAdd, Nat.reduceLeDiff, Int.reduceNeg, eq_self]
      exact hk
    simp only [startD, s_nil, s_cons, s_asg, s_par2, s_par3, s_aug, s_augS, s_expr, s_ret, s_retN, s_ite, s_for, s_brk, s_cnt, s_pass, s_never, for_step, lc_step, e_var, e_cst, e_bin, e_neg, e_not, e_and, e_or, e_cmp, e_chain, e_ife, e_tup, e_lst, e_ix, e_slc, e_rev, e_fld, e_call, e_meth, e_make, e_bi, e_bm, e_isi, e_lc, e_frz, e_sp, cont_nil, wEs, wG, wGs, wI, wIf, wO, ge0, geS, wIx, wCmp, wBin, wAug, wBi, wBm, arrD, sq_lst, sq_frl, sq_tup, lq_lst, isi_int, isi_bl, isi_str, isi_non, isi_lst, isi_frl, isi_tup, sl_tup, sl_lst, sl_frl, rv_tup, rv_lst, rv_frl, st_lst, st_frl, st_tup, mset_same, bxs_at, newL, wipeD, isN_non, isN_int, isN_bl, isN_str, isN_tup, isN_lst, isN_obj, rng_irg, isTy, List.map_cons, List.map_nil, Nat.reduceSub, List.replicate_succ, List.replicate_zero, List.set_cons_zero, List.set_cons_succ, List.cons_append, List.nil_append, List.length_cons, List.length_nil, List.any_cons, List.any_nil, decide_eq_true_eq, Bool.not_eq_true', decide_eq_false_iff_not, if_true, if_false, reduceIte, Bool.false_eq_true, Bool.true_eq_false, Bool.not_true, Bool.not_false, true_and, and_true, Bool.or_false, Bool.or_true, Bool.true_or, Bool.false_or, beq_self_eq_true, List.getD_cons_zero, List.getD_cons_succ, not_true_eq_false, not_false_eq_true, ne_eq, Nat.zero_add, Nat.reduceAdd, Nat.reduceLeDiff, Int.reduceNeg, eq_self, bls_map, List.length_map, List.length_zip, List.length_reverse, zip_allN (show V.mm.length = V.mm.reverse.length by rw [List.length_reverse])]
    refine ⟨small_le (by omega), ?_⟩
    by_cases c2 : V.mm = V.mm.reverse.map (fun x => -x)
    · rw [if_pos c2] at h ⊢
      exact rtn_self h
    · rw [if_neg c2] at h ⊢
      exact rtn_self h
end
end Pg
set_option maxRecDepth 100000
set_option maxHeartbeats 1000000
/-! Ph: tops, middles, balance, mirrors. -/
namespace Pg
open PySem Sw
def b_tops : Ss := (.cons (.ret (.bi false .tuple (.cons (.lc false (.bi false .len (.cons (.var 1) .nil)) (.name 1) (.seq (.fld (.var 0) "own_steps")) .no [1]) .nil))) .nil)
def b_hlen : Ss := (.cons (.ret (.bi false .len (.cons (.fld (.var 0) "own_steps") .nil))) .nil)
def b_middle_of : Ss := (.cons (.asg (.name 2) (.ix (.meth "Hall" "strings" [.at_ 0] (.var 0) .nil .nil) (.var 1))) (.cons (.ret (.bin false .Mult (.bi false .sum (.cons (.meth "Hall" "memory" [.at_ 0] (.var 0) .nil .nil) .nil)) (.bi false .sum (.cons (.lc false (.bin false .Mult (.var 3) (.var 4)) (.tup (.cons (.name 3) (.cons (.name 4) .nil))) (.zip true (.var 2) (.meth "Hall" "tops" [.at_ 0] (.var 0) .nil .nil)) .no [3, 4]) .nil)))) .nil))
def b_middles : Ss := (.cons (.ret (.bi false .tuple (.cons (.lc false (.call "middle_of" [.at_ 0, .at_ 1] (.cons (.var 0) (.cons (.var 1) .nil)) .nil) (.name 1) (.range1 (.olen "Hall" (.var 0))) .no [1]) .nil))) .nil)
def b_is_balanced : Ss := (.cons (.asg (.tup (.cons (.name 2) (.cons (.name 3) .nil))) (.tup (.cons (.ix (.meth "Hall" "steps" [.at_ 0] (.var 0) .nil .nil) (.var 1)) (.cons (.bin false .Add (.call "middle_of" [.at_ 0, .at_ 1] (.cons (.var 0) (.cons (.var 1) .nil)) .nil) (.cst (.int 1))) .nil)))) (.cons (.ret (.bi false .all (.cons (.lc false (.cmp .Eq (.bin false .Add (.var 4) (.var 5)) (.var 3)) (.tup (.cons (.name 4) (.cons (.name 5) .nil))) (.zip true (.var 2) (.rev false (.var 2))) .no [4, 5]) .nil))) .nil))
def b_mirror : Ss := (.cons (.ret (.bi false .tuple (.cons (.lc false (.bin false .Sub (.var 2) (.var 3)) (.tup (.cons (.name 2) (.cons (.name 3) .nil))) (.zip true (.meth "Hall" "tops" [.at_ 0] (.var 0) .nil .nil) (.var 1)) .no [2, 3]) .nil))) .nil)
theorem ap_len : ("Hall" ++ "." ++ "__len__" : Str) = "Hall.__len__" := by decide +kernel
theorem e_olen {s : Sm} {Γ : Sw.Env} {M : MM} {Φ : Sw.D → MM → Prop} {a : C} {cn : Str} : wE s (.olen cn a) Γ M Φ = wE s a Γ M fun x M1 => (match x with
      | .obj c' _ => c' = cn
      | .loc a => match M1 a with
        | some (.ins c' _) => c' = cn
        | _ => False
      | _ => False) ∧ s.call (cn ++ "." ++ "__len__") [x] M1 (fun d M2 => match d with
      | .int n => 0 ≤ n ∧ n < 2 ^ 62 ∧ Φ d M2
      | _ => False) s.xs := rfl
def HallV.tops (h : HallV) : List Int := h.st.map fun r => (r.length : Int)
def HallV.n (h : HallV) : Nat := h.ss.length
def dot (xs ys : List Int) : Int := ((xs.zip ys).map fun p => p.1 * p.2).sum
def HallV.mid (h : HallV) (i : Nat) : Int := h.mm.sum * dot (h.ss.getD i []) h.tops
def MS (h : HallV) : Prop := -(2 ^ 64) < h.mm.sum ∧ h.mm.sum < 2 ^ 64
theorem HallV.Ok.top {h : HallV} (o : h.Ok) : ∀ t ∈ h.tops, 1 ≤ t ∧ t ≤ 4 := fun t ht => by
  obtain ⟨r, hr, rfl⟩ := List.mem_map.mp ht
  obtain ⟨a, b, _⟩ := o.s r hr
  omega
theorem HallV.Ok.tl {h : HallV} (o : h.Ok) : h.tops.length = h.n := by
  unfold HallV.tops HallV.n
  rw [List.length_map, o.n2]
theorem HallV.Ok.row {h : HallV} (o : h.Ok) {i : Nat} (hi : i < h.n) : (h.ss.getD i []).length = h.n := by
  unfold HallV.n at *
  rw [List.getD_eq_getElem?_getD, List.getElem?_eq_getElem hi]
  exact o.r _ (List.getElem_mem _)
theorem HallV.Ok.small {h : HallV} (o : h.Ok) : 1 ≤ h.n ∧ h.n ≤ 1000 := by
  have := o.n1
  have := List.length_pos_iff.mpr o.n0
  unfold HallV.n
  omega
/-- a place of a list of typed values -/
theorem atD_map {α : Type} [Inhabited α] {f : α → Sw.D} {xs : List α} {d : α} {i : Int} {k : Sw.D → Prop} (h0 : 0 ≤ i) (h : i < xs.length) (hk : k (f (xs.getD i.toNat d))) : atD (xs.map f) i k := by
  refine atD_get (d := f (xs.getD i.toNat d)) h0 ?_ hk
  rw [List.getElem?_map, List.getD_eq_getElem?_getD, List.getElem?_eq_getElem (by omega)]
  rfl
section
variable {T : Tb} {k : Nat} {M : MM} {Φ Ψ : CallC} {V : HallV}
theorem h_tops [Row T "Hall.tops" ⟨"Hall.tops", 1, 2, b_tops⟩] (o : V.Ok) (h : Φ (tI V.tops) M) : callAt T (k + 1) "Hall.tops" [hallD V] M Φ Ψ := by
  have hn := o.small
  have hl := o.tl
  have h2 := o.n2
  refine call_row rfl ?_
  simp only [startD, s_nil, s_cons, s_asg, s_par2, s_par3, s_aug, s_augS, s_expr, s_ret, s_retN, s_ite, s_for, s_brk, s_cnt, s_pass, s_never, for_step, lc_step, e_var, e_cst, e_bin, e_neg, e_not, e_and, e_or, e_cmp, e_chain, e_ife, e_tup, e_lst, e_ix, e_slc, e_rev, e_fld, e_call, e_meth, e_make, e_bi, e_bm, e_isi, e_lc, e_frz, e_sp, cont_nil, wEs, wG, wGs, wI, wIf, wO, ge0, geS, wIx, wCmp, wBin, wAug, wBi, wBm, arrD, sq_lst, sq_frl, sq_tup, lq_lst, isi_int, isi_bl, isi_str, isi_non, isi_lst, isi_frl, isi_tup, sl_tup, sl_lst, sl_frl, rv_tup, rv_lst, rv_frl, st_lst, st_frl, st_tup, mset_same, bxs_at, newL, wipeD, isN_non, isN_int, isN_bl, isN_str, isN_tup, isN_lst, isN_obj, rng_irg, isTy, List.map_cons, List.map_nil, Nat.reduceSub, List.replicate_succ, List.replicate_zero, List.set_cons_zero, List.set_cons_succ, List.cons_append, List.nil_append, List.length_cons, List.length_nil, List.any_cons, List.any_nil, decide_eq_true_eq, Bool.not_eq_true', decide_eq_false_iff_not, if_true, if_false, reduceIte, Bool.false_eq_true, Bool.true_eq_false, Bool.not_true, Bool.not_false, true_and, and_true, Bool.or_false, Bool.or_true, Bool.true_or, Bool.false_or, beq_self_eq_true, List.getD_cons_zero, List.getD_cons_succ, not_true_eq_false, not_false_eq_true, ne_eq, Nat.zero_add, Nat.reduceAdd, Nat.reduceLeDiff, Int.reduceNeg, eq_self, b_tops, f_steps, List.length_map]
  unfold HallV.n at hn
  refine ⟨small_size (by omega), ?_⟩
  refine lc_map (fun r => .int (r.length : Int)) trivial (fun x hx kk hk => ?_) ?_
  · simp only [startD, s_nil, s_cons, s_asg, s_par2, s_par3, s_aug, s_augS, s_expr, s_ret, s_retN, s_ite, s_for, s_brk, s_cnt, s_pass, s_never, for_step, lc_step, e_var, e_cst, e_bin, e_neg, e_not, e_and, e_or, e_cmp, e_chain, e_ife, e_tup, e_lst, e_ix, e_slc, e_rev, e_fld, e_call, e_meth, e_make, e_bi, e_bm, e_isi, e_lc, e_frz, e_sp, cont_nil, wEs, wG, wGs, wI, wIf, wO, ge0, geS, wIx, wCmp, wBin, wAug, wBi, wBm, arrD, sq_lst, sq_frl, sq_tup, lq_lst, isi_int, isi_bl, isi_str, isi_non, isi_lst, isi_frl, isi_tup, sl_tup, sl_lst, sl_frl, rv_tup, rv_lst, rv_frl, st_lst, st_frl, st_tup, mset_same, bxs_at, newL, wipeD, isN_non, isN_int, isN_bl, isN_str, isN_tup, isN_lst, isN_obj, rng_irg, isTy, List.map_cons, List.map_nil, Nat.reduceSub, List.replicate_succ, List.replicate_zero, List.set_cons_zero, List.set_cons_succ, List.cons_append, List.nil_append, List.length_cons, List.length_nil, List.any_cons, List.any_nil, decide_eq_true_eq, Bool.not_eq_true', decide_eq_false_iff_not, if_true, if_false, reduceIte, Bool.false_eq_true, Bool.true_eq_false, Bool.not_true, Bool.not_false, true_and, and_true, Bool.or_false, Bool.or_true, Bool.true_or, Bool.false_or, beq_self_eq_true, List.getD_cons_zero, List.getD_cons_succ, not_true_eq_false, not_false_eq_true, ne_eq, Nat.zero_add, Nat.reduceAdd, Nat.reduceLeDiff, Int.reduceNeg, eq_self, List.length_map]
    exact hk
  · simp only [startD, s_nil, s_cons, s_asg, s_par2, s_par3, s_aug, s_augS, s_expr, s_ret, s_retN, s_ite, s_for, s_brk, s_cnt, s_pass, s_never, for_step, lc_step, e_var, e_cst, e_bin, e_neg, e_not, e_and, e_or, e_cmp, e_chain, e_ife, e_tup, e_lst, e_ix, e_slc, e_rev, e_fld, e_call, e_meth, e_make, e_bi, e_bm, e_isi, e_lc, e_frz, e_sp, cont_nil, wEs, wG, wGs, wI, wIf, wO, ge0, geS, wIx, wCmp, wBin, wAug, wBi, wBm, arrD, sq_lst, sq_frl, sq_tup, lq_lst, isi_int, isi_bl, isi_str, isi_non, isi_lst, isi_frl, isi_tup, sl_tup, sl_lst, sl_frl, rv_tup, rv_lst, rv_frl, st_lst, st_frl, st_tup, mset_same, bxs_at, newL, wipeD, isN_non, isN_int, isN_bl, isN_str, isN_tup, isN_lst, isN_obj, rng_irg, isTy, List.map_cons, List.map_nil, Nat.reduceSub, List.replicate_succ, List.replicate_zero, List.set_cons_zero, List.set_cons_succ, List.cons_append, List.nil_append, List.length_cons, List.length_nil, List.any_cons, List.any_nil, decide_eq_true_eq, Bool.not_eq_true', decide_eq_false_iff_not, if_true, if_false, reduceIte, Bool.false_eq_true, Bool.true_eq_false, Bool.not_true, Bool.not_false, true_and, and_true, Bool.or_false, Bool.or_true, Bool.true_or, Bool.false_or, beq_self_eq_true, List.getD_cons_zero, List.getD_cons_succ, not_true_eq_false, not_false_eq_true, ne_eq, Nat.zero_add, Nat.reduceAdd, Nat.reduceLeDiff, Int.reduceNeg, eq_self, List.length_map]
    refine ⟨small_le (by omega), rtn_self ?_⟩
    have e : (V.st.map fun r => Sw.D.int (r.length : Int)) = V.tops.map Sw.D.int := by unfold HallV.tops; rw [List.map_map]; rfl
    rw [e]; exact h
theorem h_len [Row T "Hall.__len__" ⟨"Hall.__len__", 1, 1, b_hlen⟩] (o : V.Ok) (h : Φ (.int V.n) M) : callAt T (k + 1) "Hall.__len__" [hallD V] M Φ Ψ := by
  refine call_row rfl ?_
  simp only [startD, s_nil, s_cons, s_asg, s_par2, s_par3, s_aug, s_augS, s_expr, s_ret, s_retN, s_ite, s_for, s_brk, s_cnt, s_pass, s_never, for_step, lc_step, e_var, e_cst, e_bin, e_neg, e_not, e_and, e_or, e_cmp, e_chain, e_ife, e_tup, e_lst, e_ix, e_slc, e_rev, e_fld, e_call, e_meth, e_make, e_bi, e_bm, e_isi, e_lc, e_frz, e_sp, cont_nil, wEs, wG, wGs, wI, wIf, wO, ge0, geS, wIx, wCmp, wBin, wAug, wBi, wBm, arrD, sq_lst, sq_frl, sq_tup, lq_lst, isi_int, isi_bl, isi_str, isi_non, isi_lst, isi_frl, isi_tup, sl_tup, sl_lst, sl_frl, rv_tup, rv_lst, rv_frl, st_lst, st_frl, st_tup, mset_same, bxs_at, newL, wipeD, isN_non, isN_int, isN_bl, isN_str, isN_tup, isN_lst, isN_obj, rng_irg, isTy, List.map_cons, List.map_nil, Nat.reduceSub, List.replicate_succ, List.replicate_zero, List.set_cons_zero, List.set_cons_succ, List.cons_append, List.nil_append, List.length_cons, List.length_nil, List.any_cons, List.any_nil, decide_eq_true_eq, Bool.not_eq_true', decide_eq_false_iff_not, if_true, if_false, reduceIte, Bool.false_eq_true, Bool.true_eq_false, Bool.not_true, Bool.not_false, true_and, and_true, Bool.or_false, Bool.or_true, Bool.true_or, Bool.false_or, beq_self_eq_true, List.getD_cons_zero, List.getD_cons_succ, not_true_eq_false, not_false_eq_true, ne_eq, Nat.zero_add, Nat.reduceAdd, Nat.reduceLeDiff, Int.reduceNeg, eq_self, b_hlen, f_steps, List.length_map]
  rw [o.n2]
  exact rtn_self h
/-- len(hall) -/
theorem o_len [Row T "Hall.__len__" ⟨"Hall.__len__", 1, 1, b_hlen⟩] (o : V.Ok) {xs : Sw.D → MM → Prop} {Γ : Sw.Env} {i : Nat} (hg : getE Γ i = some (hallD V)) (h : Φ (.int V.n) M) : wE ⟨callAt T (k + 1), xs⟩ (.olen "Hall" (.var i)) Γ M Φ := by
  have := o.small
  rw [e_olen, e_var, hg]
  refine ⟨rfl, ?_⟩
  rw [ap_len]
  refine h_len o ?_
  exact ⟨by omega, by omega, h⟩
theorem middle_of [Row T "Hall.tops" ⟨"Hall.tops", 1, 2, b_tops⟩] [Row T "Hall.strings" ⟨"Hall.strings", 1, 1, b_strings⟩] [Row T "Hall.memory" ⟨"Hall.memory", 1, 1, b_memory⟩] [Row T "middle_of" ⟨"middle_of", 2, 5, b_middle_of⟩] (o : V.Ok) (ms : MS V) {i : Int} (h0 : 0 ≤ i) (hi : i < V.n) (h : Φ (.int (V.mid i.toNat)) M) : callAt T (k + 2) "middle_of" [hallD V, .int i] M Φ Ψ := by
  have hn := o.small
  have hr := o.row (i := i.toNat) (by omega)
  have htl := o.tl
  refine call_row rfl ?_
  simp only [startD, s_nil, s_cons, s_asg, s_par2, s_par3, s_aug, s_augS, s_expr, s_ret, s_retN, s_ite, s_for, s_brk, s_cnt, s_pass, s_never, for_step, lc_step, e_var, e_cst, e_bin, e_neg, e_not, e_and, e_or, e_cmp, e_chain, e_ife, e_tup, e_lst, e_ix, e_slc, e_rev, e_fld, e_call, e_meth, e_make, e_bi, e_bm, e_isi, e_lc, e_frz, e_sp, cont_nil, wEs, wG, wGs, wI, wIf, wO, ge0, geS, wIx, wCmp, wBin, wAug, wBi, wBm, arrD, sq_lst, sq_frl, sq_tup, lq_lst, isi_int, isi_bl, isi_str, isi_non, isi_lst, isi_frl, isi_tup, sl_tup, sl_lst, sl_frl, rv_tup, rv_lst, rv_frl, st_lst, st_frl, st_tup, mset_same, bxs_at, newL, wipeD, isN_non, isN_int, isN_bl, isN_str, isN_tup, isN_lst, isN_obj, rng_irg, isTy, List.map_cons, List.map_nil, Nat.reduceSub, List.replicate_succ, List.replicate_zero, List.set_cons_zero, List.set_cons_succ, List.cons_append, List.nil_append, List.length_cons, List.length_nil, List.any_cons, List.any_nil, decide_eq_true_eq, Bool.not_eq_true', decide_eq_false_iff_not, if_true, if_false, reduceIte, Bool.false_eq_true, Bool.true_eq_false, Bool.not_true, Bool.not_false, true_and, and_true, Bool.or_false, Bool.or_true, Bool.true_or, Bool.false_or, beq_self_eq_true, List.getD_cons_zero, List.getD_cons_succ, not_true_eq_false, not_false_eq_true, ne_eq, Nat.zero_add, Nat.reduceAdd, Nat.reduceLeDiff, Int.reduceNeg, eq_self, b_middle_of, ap_strings, c_strings]
  refine h_strings ?_
  simp only [startD, s_nil, s_cons, s_asg, s_par2, s_par3, s_aug, s_augS, s_expr, s_ret, s_retN, s_ite, s_for, s_brk, s_cnt, s_pass, s_never, for_step, lc_step, e_var, e_cst, e_bin, e_neg, e_not, e_and, e_or, e_cmp, e_chain, e_ife, e_tup, e_lst, e_ix, e_slc, e_rev, e_fld, e_call, e_meth, e_make, e_bi, e_bm, e_isi, e_lc, e_frz, e_sp, cont_nil, wEs, wG, wGs, wI, wIf, wO, ge0, geS, wIx, wCmp, wBin, wAug, wBi, wBm, arrD, sq_lst, sq_frl, sq_tup, lq_lst, isi_int, isi_bl, isi_str, isi_non, isi_lst, isi_frl, isi_tup, sl_tup, sl_lst, sl_frl, rv_tup, rv_lst, rv_frl, st_lst, st_frl, st_tup, mset_same, bxs_at, newL, wipeD, isN_non, isN_int, isN_bl, isN_str, isN_tup, isN_lst, isN_obj, rng_irg, isTy, List.map_cons, List.map_nil, Nat.reduceSub, List.replicate_succ, List.replicate_zero, List.set_cons_zero, List.set_cons_succ, List.cons_append, List.nil_append, List.length_cons, List.length_nil, List.any_cons, List.any_nil, decide_eq_true_eq, Bool.not_eq_true', decide_eq_false_iff_not, if_true, if_false, reduceIte, Bool.false_eq_true, Bool.true_eq_false, Bool.not_true, Bool.not_false, true_and, and_true, Bool.or_false, Bool.or_true, Bool.true_or, Bool.false_or, beq_self_eq_true, List.getD_cons_zero, List.getD_cons_succ, not_true_eq_false, not_false_eq_true, ne_eq, Nat.zero_add, Nat.reduceAdd, Nat.reduceLeDiff, Int.reduceNeg, eq_self]
  refine atD_map (d := []) h0 hi ?_
  refine cont_step ?_
  simp only [startD, s_nil, s_cons, s_asg, s_par2, s_par3, s_aug, s_augS, s_expr, s_ret, s_retN, s_ite, s_for, s_brk, s_cnt, s_pass, s_never, for_step, lc_step, e_var, e_cst, e_bin, e_neg, e_not, e_and, e_or, e_cmp, e_chain, e_ife, e_tup, e_lst, e_ix, e_slc, e_rev, e_fld, e_call, e_meth, e_make, e_bi, e_bm, e_isi, e_lc, e_frz, e_sp, cont_nil, wEs, wG, wGs, wI, wIf, wO, ge0, geS, wIx, wCmp, wBin, wAug, wBi, wBm, arrD, sq_lst, sq_frl, sq_tup, lq_lst, isi_int, isi_bl, isi_str, isi_non, isi_lst, isi_frl, isi_tup, sl_tup, sl_lst, sl_frl, rv_tup, rv_lst, rv_frl, st_lst, st_frl, st_tup, mset_same, bxs_at, newL, wipeD, isN_non, isN_int, isN_bl, isN_str, isN_tup, isN_lst, isN_obj, rng_irg, isTy, List.map_cons, List.map_nil, Nat.reduceSub, List.replicate_succ, List.replicate_zero, List.set_cons_zero, List.set_cons_succ, List.cons_append, List.nil_append, List.length_cons, List.length_nil, List.any_cons, List.any_nil, decide_eq_true_eq, Bool.not_eq_true', decide_eq_false_iff_not, if_true, if_false, reduceIte, Bool.false_eq_true, Bool.true_eq_false, Bool.not_true, Bool.not_false, true_and, and_true, Bool.or_false, Bool.or_true, Bool.true_or, Bool.false_or, beq_self_eq_true, List.getD_cons_zero, List.getD_cons_succ, not_true_eq_false, not_false_eq_true, ne_eq, Nat.zero_add, Nat.reduceAdd, Nat.reduceLeDiff, Int.reduceNeg, eq_self, ap_memory, c_memory]
  refine h_memory ?_
  simp only [startD, s_nil, s_cons, s_asg, s_par2, s_par3, s_aug, s_augS, s_expr, s_ret, s_retN, s_ite, s_for, s_brk, s_cnt, s_pass, s_never, for_step, lc_step, e_var, e_cst, e_bin, e_neg, e_not, e_and, e_or, e_cmp, e_chain, e_ife, e_tup, e_lst, e_ix, e_slc, e_rev, e_fld, e_call, e_meth, e_make, e_bi, e_bm, e_isi, e_lc, e_frz, e_sp, cont_nil, wEs, wG, wGs, wI, wIf, wO, ge0, geS, wIx, wCmp, wBin, wAug, wBi, wBm, arrD, sq_lst, sq_frl, sq_tup, lq_lst, isi_int, isi_bl, isi_str, isi_non, isi_lst, isi_frl, isi_tup, sl_tup, sl_lst, sl_frl, rv_tup, rv_lst, rv_frl, st_lst, st_frl, st_tup, mset_same, bxs_at, newL, wipeD, isN_non, isN_int, isN_bl, isN_str, isN_tup, isN_lst, isN_obj, rng_irg, isTy, List.map_cons, List.map_nil, Nat.reduceSub, List.replicate_succ, List.replicate_zero, List.set_cons_zero, List.set_cons_succ, List.cons_append, List.nil_append, List.length_cons, List.length_nil, List.any_cons, List.any_nil, decide_eq_true_eq, Bool.not_eq_true', decide_eq_false_iff_not, if_true, if_false, reduceIte, Bool.false_eq_true, Bool.true_eq_false, Bool.not_true, Bool.not_false, true_and, and_true, Bool.or_false, Bool.or_true, Bool.true_or, Bool.false_or, beq_self_eq_true, List.getD_cons_zero, List.getD_cons_succ, not_true_eq_false, not_false_eq_true, ne_eq, Nat.zero_add, Nat.reduceAdd, Nat.reduceLeDiff, Int.reduceNeg, eq_self, ints_id, ap_tops, c_tops]
  refine h_tops o ?_
  simp only [startD, s_nil, s_cons, s_asg, s_par2, s_par3, s_aug, s_augS, s_expr, s_ret, s_retN, s_ite, s_for, s_brk, s_cnt, s_pass, s_never, for_step, lc_step, e_var, e_cst, e_bin, e_neg, e_not, e_and, e_or, e_cmp, e_chain, e_ife, e_tup, e_lst, e_ix, e_slc, e_rev, e_fld, e_call, e_meth, e_make, e_bi, e_bm, e_isi, e_lc, e_frz, e_sp, cont_nil, wEs, wG, wGs, wI, wIf, wO, ge0, geS, wIx, wCmp, wBin, wAug, wBi, wBm, arrD, sq_lst, sq_frl, sq_tup, lq_lst, isi_int, isi_bl, isi_str, isi_non, isi_lst, isi_frl, isi_tup, sl_tup, sl_lst, sl_frl, rv_tup, rv_lst, rv_frl, st_lst, st_frl, st_tup, mset_same, bxs_at, newL, wipeD, isN_non, isN_int, isN_bl, isN_str, isN_tup, isN_lst, isN_obj, rng_irg, isTy, List.map_cons, List.map_nil, Nat.reduceSub, List.replicate_succ, List.replicate_zero, List.set_cons_zero, List.set_cons_succ, List.cons_append, List.nil_append, List.length_cons, List.length_nil, List.any_cons, List.any_nil, decide_eq_true_eq, Bool.not_eq_true', decide_eq_false_iff_not, if_true, if_false, reduceIte, Bool.false_eq_true, Bool.true_eq_false, Bool.not_true, Bool.not_false, true_and, and_true, Bool.or_false, Bool.or_true, Bool.true_or, Bool.false_or, beq_self_eq_true, List.getD_cons_zero, List.getD_cons_succ, not_true_eq_false, not_false_eq_true, ne_eq, Nat.zero_add, Nat.reduceAdd, Nat.reduceLeDiff, Int.reduceNeg, eq_self, pairs_map, List.length_map, List.length_zip, hr, htl]
  refine ⟨fun _ => trivial, small_size (by omega), ?_⟩
  refine lc_map (fun p => .int (p.1 * p.2)) trivial (fun p hp kk hk => ?_) ?_
  · have := o.top p.2 (List.of_mem_zip hp).2
    simp only [startD, s_nil, s_cons, s_asg, s_par2, s_par3, s_aug, s_augS, s_expr, s_ret, s_retN, s_ite, s_for, s_brk, s_cnt, s_pass, s_never, for_step, lc_step, e_var, e_cst, e_bin, e_neg, e_not, e_and, e_or, e_cmp, e_chain, e_ife, e_tup, e_lst, e_ix, e_slc, e_rev, e_fld, e_call, e_meth, e_make, e_bi, e_bm, e_isi, e_lc, e_frz, e_sp, cont_nil, wEs, wG, wGs, wI, wIf, wO, ge0, geS, wIx, wCmp, wBin, wAug, wBi, wBm, arrD, sq_lst, sq_frl, sq_tup, lq_lst, isi_int, isi_bl, isi_str, isi_non, isi_lst, isi_frl, isi_tup, sl_tup, sl_lst, sl_frl, rv_tup, rv_lst, rv_frl, st_lst, st_frl, st_tup, mset_same, bxs_at, newL, wipeD, isN_non, isN_int, isN_bl, isN_str, isN_tup, isN_lst, isN_obj, rng_irg, isTy, List.map_cons, List.map_nil, Nat.reduceSub, List.replicate_succ, List.replicate_zero, List.set_cons_zero, List.set_cons_succ, List.cons_append, List.nil_append, List.length_cons, List.length_nil, List.any_cons, List.any_nil, decide_eq_true_eq, Bool.not_eq_true', decide_eq_false_iff_not, if_true, if_false, reduceIte, Bool.false_eq_true, Bool.true_eq_false, Bool.not_true, Bool.not_false, true_and, and_true, Bool.or_false, Bool.or_true, Bool.true_or, Bool.false_or, beq_self_eq_true, List.getD_cons_zero, List.getD_cons_succ, not_true_eq_false, not_false_eq_true, ne_eq, Nat.zero_add, Nat.reduceAdd, Nat.reduceLeDiff, Int.reduceNeg, eq_self]
    exact ⟨mulR (by omega), hk⟩
  · simp only [startD, s_nil, s_cons, s_asg, s_par2, s_par3, s_aug, s_augS, s_expr, s_ret, s_retN, s_ite, s_for, s_brk, s_cnt, s_pass, s_never, for_step, lc_step, e_var, e_cst, e_bin, e_neg, e_not, e_and, e_or, e_cmp, e_chain, e_ife, e_tup, e_lst, e_ix, e_slc, e_rev, e_fld, e_call, e_meth, e_make, e_bi, e_bm, e_isi, e_lc, e_frz, e_sp, cont_nil, wEs, wG, wGs, wI, wIf, wO, ge0, geS, wIx, wCmp, wBin, wAug, wBi, wBm, arrD, sq_lst, sq_frl, sq_tup, lq_lst, isi_int, isi_bl, isi_str, isi_non, isi_lst, isi_frl, isi_tup, sl_tup, sl_lst, sl_frl, rv_tup, rv_lst, rv_frl, st_lst, st_frl, st_tup, mset_same, bxs_at, newL, wipeD, isN_non, isN_int, isN_bl, isN_str, isN_tup, isN_lst, isN_obj, rng_irg, isTy, List.map_cons, List.map_nil, Nat.reduceSub, List.replicate_succ, List.replicate_zero, List.set_cons_zero, List.set_cons_succ, List.cons_append, List.nil_append, List.length_cons, List.length_nil, List.any_cons, List.any_nil, decide_eq_true_eq, Bool.not_eq_true', decide_eq_false_iff_not, if_true, if_false, reduceIte, Bool.false_eq_true, Bool.true_eq_false, Bool.not_true, Bool.not_false, true_and, and_true, Bool.or_false, Bool.or_true, Bool.true_or, Bool.false_or, beq_self_eq_true, List.getD_cons_zero, List.getD_cons_succ, not_true_eq_false, not_false_eq_true, ne_eq, Nat.zero_add, Nat.reduceAdd, Nat.reduceLeDiff, Int.reduceNeg, eq_self, List.length_map, List.length_zip, hr, htl, ints_map]
    exact ⟨small_le (by omega), mulL ms, rtn_self h⟩
theorem middles [Row T "Hall.__len__" ⟨"Hall.__len__", 1, 1, b_hlen⟩] [Row T "Hall.tops" ⟨"Hall.tops", 1, 2, b_tops⟩] [Row T "Hall.strings" ⟨"Hall.strings", 1, 1, b_strings⟩] [Row T "Hall.memory" ⟨"Hall.memory", 1, 1, b_memory⟩] [Row T "middle_of" ⟨"middle_of", 2, 5, b_middle_of⟩] [Row T "middles" ⟨"middles", 1, 2, b_middles⟩] (o : V.Ok) (ms : MS V)
    (h : Φ (tI ((List.range V.n).map V.mid)) M) : callAt T (k + 3) "middles" [hallD V] M Φ Ψ := by
  have hn := o.small
  refine call_row rfl ?_
  rw [b_middles]
  simp only [s_cons, s_ret, e_bi, wEs, e_lc, wI]
  refine o_len o rfl ?_
  simp only [startD, s_nil, s_cons, s_asg, s_par2, s_par3, s_aug, s_augS, s_expr, s_ret, s_retN, s_ite, s_for, s_brk, s_cnt, s_pass, s_never, for_step, lc_step, e_var, e_cst, e_bin, e_neg, e_not, e_and, e_or, e_cmp, e_chain, e_ife, e_tup, e_lst, e_ix, e_slc, e_rev, e_fld, e_call, e_meth, e_make, e_bi, e_bm, e_isi, e_lc, e_frz, e_sp, cont_nil, wEs, wG, wGs, wI, wIf, wO, ge0, geS, wIx, wCmp, wBin, wAug, wBi, wBm, arrD, sq_lst, sq_frl, sq_tup, lq_lst, isi_int, isi_bl, isi_str, isi_non, isi_lst, isi_frl, isi_tup, sl_tup, sl_lst, sl_frl, rv_tup, rv_lst, rv_frl, st_lst, st_frl, st_tup, mset_same, bxs_at, newL, wipeD, isN_non, isN_int, isN_bl, isN_str, isN_tup, isN_lst, isN_obj, rng_irg, isTy, List.map_cons, List.map_nil, Nat.reduceSub, List.replicate_succ, List.replicate_zero, List.set_cons_zero, List.set_cons_succ, List.cons_append, List.nil_append, List.length_cons, List.length_nil, List.any_cons, List.any_nil, decide_eq_true_eq, Bool.not_eq_true', decide_eq_false_iff_not, if_true, if_false, reduceIte, Bool.false_eq_true, Bool.true_eq_false, Bool.not_true, Bool.not_false, true_and, and_true, Bool.or_false, Bool.or_true, Bool.true_or, Bool.false_or, beq_self_eq_true, List.getD_cons_zero, List.getD_cons_succ, not_true_eq_false, not_false_eq_true, ne_eq, Nat.zero_add, Nat.reduceAdd, Nat.reduceLeDiff, Int.reduceNeg, eq_self, List.length_map, irg_len]
  refine ⟨by omega, by omega, small_size (by omega), ?_⟩
  refine lc_map (fun x => .int (V.mid x.toNat)) trivial (fun x hx kk hk => ?_) ?_
  · have := irg_mem hx
    simp only [startD, s_nil, s_cons, s_asg, s_par2, s_par3, s_aug, s_augS, s_expr, s_ret, s_retN, s_ite, s_for, s_brk, s_cnt, s_pass, s_never, for_step, lc_step, e_var, e_cst, e_bin, e_neg, e_not, e_and, e_or, e_cmp, e_chain, e_ife, e_tup, e_lst, e_ix, e_slc, e_rev, e_fld, e_call, e_meth, e_make, e_bi, e_bm, e_isi, e_lc, e_frz, e_sp, cont_nil, wEs, wG, wGs, wI, wIf, wO, ge0, geS, wIx, wCmp, wBin, wAug, wBi, wBm, arrD, sq_lst, sq_frl, sq_tup, lq_lst, isi_int, isi_bl, isi_str, isi_non, isi_lst, isi_frl, isi_tup, sl_tup, sl_lst, sl_frl, rv_tup, rv_lst, rv_frl, st_lst, st_frl, st_tup, mset_same, bxs_at, newL, wipeD, isN_non, isN_int, isN_bl, isN_str, isN_tup, isN_lst, isN_obj, rng_irg, isTy, List.map_cons, List.map_nil, Nat.reduceSub, List.replicate_succ, List.replicate_zero, List.set_cons_zero, List.set_cons_succ, List.cons_append, List.nil_append, List.length_cons, List.length_nil, List.any_cons, List.any_nil, decide_eq_true_eq, Bool.not_eq_true', decide_eq_false_iff_not, if_true, if_false, reduceIte, Bool.false_eq_true, Bool.true_eq_false, Bool.not_true, Bool.not_false, true_and, and_true, Bool.or_false, Bool.or_true, Bool.true_or, Bool.false_or, beq_self_eq_true, List.getD_cons_zero, List.getD_cons_succ, not_true_eq_false, not_false_eq_true, ne_eq, Nat.zero_add, Nat.reduceAdd, Nat.reduceLeDiff, Int.reduceNeg, eq_self]
    exact middle_of o ms (by omega) (by omega) hk
  · have e : ((irg 0 (V.n : Int).toNat).map fun x => Sw.D.int (V.mid x.toNat)) = ((List.range V.n).map V.mid).map Sw.D.int := by
      apply List.ext_getElem?
      intro i
      rw [List.getElem?_map, List.getElem?_map, List.getElem?_map]
      by_cases hi : i < V.n
      · rw [irg_at (by omega), List.getElem?_range hi]
        simp
      · rw [List.getElem?_eq_none (by rw [irg_len]; omega), List.getElem?_eq_none (by simp; omega)]
        rfl
    simp only [startD, s_nil, s_cons, s_asg, s_par2, s_par3, s_aug, s_augS, s_expr, s_ret, s_retN, s_ite, s_for, s_brk, s_cnt, s_pass, s_never, for_step, lc_step, e_var, e_cst, e_bin, e_neg, e_not, e_and, e_or, e_cmp, e_chain, e_ife, e_tup, e_lst, e_ix, e_slc, e_rev, e_fld, e_call, e_meth, e_make, e_bi, e_bm, e_isi, e_lc, e_frz, e_sp, cont_nil, wEs, wG, wGs, wI, wIf, wO, ge0, geS, wIx, wCmp, wBin, wAug, wBi, wBm, arrD, sq_lst, sq_frl, sq_tup, lq_lst, isi_int, isi_bl, isi_str, isi_non, isi_lst, isi_frl, isi_tup, sl_tup, sl_lst, sl_frl, rv_tup, rv_lst, rv_frl, st_lst, st_frl, st_tup, mset_same, bxs_at, newL, wipeD, isN_non, isN_int, isN_bl, isN_str, isN_tup, isN_lst, isN_obj, rng_irg, isTy, List.map_cons, List.map_nil, Nat.reduceSub, List.replicate_succ, List.replicate_zero, List.set_cons_zero, List.set_cons_succ, List.cons_append, List.nil_append, List.length_cons, List.length_nil, List.any_cons, List.any_nil, decide_eq_true_eq, Bool.not_eq_true', decide_eq_false_iff_not, if_true, if_false, reduceIte, Bool.false_eq_true, Bool.true_eq_false, Bool.not_true, Bool.not_false, true_and, and_true, Bool.or_false, Bool.or_true, Bool.true_or, Bool.false_or, beq_self_eq_true, List.getD_cons_zero, List.getD_cons_succ, not_true_eq_false, not_false_eq_true, ne_eq, Nat.zero_add, Nat.reduceAdd, Nat.reduceLeDiff, Int.reduceNeg, eq_self, List.length_map, irg_len]
    refine ⟨small_le (by omega), rtn_self ?_⟩
    rw [e]; exact h
/-- each step and the one opposite are together d -/
def balB (ns : List Int) (d : Int) : Bool := ((ns.zip ns.reverse).map fun p => decide (p.1 + p.2 = d)).all id
theorem is_balanced [Row T "Hall.steps" ⟨"Hall.steps", 1, 1, b_steps⟩] [Row T "Hall.tops" ⟨"Hall.tops", 1, 2, b_tops⟩] [Row T "Hall.strings" ⟨"Hall.strings", 1, 1, b_strings⟩] [Row T "Hall.memory" ⟨"Hall.memory", 1, 1, b_memory⟩] [Row T "middle_of" ⟨"middle_of", 2, 5, b_middle_of⟩] [Row T "is_balanced" ⟨"is_balanced", 2, 6, b_is_balanced⟩] (o : V.Ok) (ms : MS V) {i : Int} (h0 : 0 ≤ i) (hi : i < V.n)
    (h : Φ (.bl (balB (V.st.getD i.toNat []) (V.mid i.toNat + 1))) M) : callAt T (k + 3) "is_balanced" [hallD V, .int i] M Φ Ψ := by
  have hn := o.small
  have h2 := o.n2
  unfold HallV.n at hn
  have hs : (V.st.getD i.toNat []).length ≤ 4 := by
    unfold HallV.n at hi
    rw [List.getD_eq_getElem?_getD, List.getElem?_eq_getElem (by omega)]
    exact (o.s _ (List.getElem_mem _)).2.1
  refine call_row rfl ?_
  simp only [startD, s_nil, s_cons, s_asg, s_par2, s_par3, s_aug, s_augS, s_expr, s_ret, s_retN, s_ite, s_for, s_brk, s_cnt, s_pass, s_never, for_step, lc_step, e_var, e_cst, e_bin, e_neg, e_not, e_and, e_or, e_cmp, e_chain, e_ife, e_tup, e_lst, e_ix, e_slc, e_rev, e_fld, e_call, e_meth, e_make, e_bi, e_bm, e_isi, e_lc, e_frz, e_sp, cont_nil, wEs, wG, wGs, wI, wIf, wO, ge0, geS, wIx, wCmp, wBin, wAug, wBi, wBm, arrD, sq_lst, sq_frl, sq_tup, lq_lst, isi_int, isi_bl, isi_str, isi_non, isi_lst, isi_frl, isi_tup, sl_tup, sl_lst, sl_frl, rv_tup, rv_lst, rv_frl, st_lst, st_frl, st_tup, mset_same, bxs_at, newL, wipeD, isN_non, isN_int, isN_bl, isN_str, isN_tup, isN_lst, isN_obj, rng_irg, isTy, List.map_cons, List.map_nil, Nat.reduceSub, List.replicate_succ, List.replicate_zero, List.set_cons_zero, List.set_cons_succ, List.cons_append, List.nil_append, List.length_cons, List.length_nil, List.any_cons, List.any_nil, decide_eq_true_eq, Bool.not_eq_true', decide_eq_false_iff_not, if_true, if_false, reduceIte, Bool.false_eq_true, Bool.true_eq_false, Bool.not_true, Bool.not_false, true_and, and_true, Bool.or_false, Bool.or_true, Bool.true_or, Bool.false_or, beq_self_eq_true, List.getD_cons_zero, List.getD_cons_succ, not_true_eq_false, not_false_eq_true, ne_eq, Nat.zero_add, Nat.reduceAdd, Nat.reduceLeDiff, Int.reduceNeg, eq_self, b_is_balanced, ap_steps, c_steps]
  refine h_steps ?_
  simp only [startD, s_nil, s_cons, s_asg, s_par2, s_par3, s_aug, s_augS, s_expr, s_ret, s_retN, s_ite, s_for, s_brk, s_cnt, s_pass, s_never, for_step, lc_step, e_var, e_cst, e_bin, e_neg, e_not, e_and, e_or, e_cmp, e_chain, e_ife, e_tup, e_lst, e_ix, e_slc, e_rev, e_fld, e_call, e_meth, e_make, e_bi, e_bm, e_isi, e_lc, e_frz, e_sp, cont_nil, wEs, wG, wGs, wI, wIf, wO, ge0, geS, wIx, wCmp, wBin, wAug, wBi, wBm, arrD, sq_lst, sq_frl, sq_tup, lq_lst, isi_int, isi_bl, isi_str, isi_non, isi_lst, isi_frl, isi_tup, sl_tup, sl_lst, sl_frl, rv_tup, rv_lst, rv_frl, st_lst, st_frl, st_tup, mset_same, bxs_at, newL, wipeD, isN_non, isN_int, isN_bl, isN_str, isN_tup, isN_lst, isN_obj, rng_irg, isTy, List.map_cons, List.map_nil, Nat.reduceSub, List.replicate_succ, List.replicate_zero, List.set_cons_zero, List.set_cons_succ, List.cons_append, List.nil_append, List.length_cons, List.length_nil, List.any_cons, List.any_nil, decide_eq_true_eq, Bool.not_eq_true', decide_eq_false_iff_not, if_true, if_false, reduceIte, Bool.false_eq_true, Bool.true_eq_false, Bool.not_true, Bool.not_false, true_and, and_true, Bool.or_false, Bool.or_true, Bool.true_or, Bool.false_or, beq_self_eq_true, List.getD_cons_zero, List.getD_cons_succ, not_true_eq_false, not_false_eq_true, ne_eq, Nat.zero_add, Nat.reduceAdd, Nat.reduceLeDiff, Int.reduceNeg, eq_self]
  refine atD_map (d := []) h0 (by unfold HallV.n at hi; omega) ?_
  refine middle_of o ms h0 hi ?_
  simp only [startD, s_nil, s_cons, s_asg, s_par2, s_par3, s_aug, s_augS, s_expr, s_ret, s_retN, s_ite, s_for, s_brk, s_cnt, s_pass, s_never, for_step, lc_step, e_var, e_cst, e_bin, e_neg, e_not, e_and, e_or, e_cmp, e_chain, e_ife, e_tup, e_lst, e_ix, e_slc, e_rev, e_fld, e_call, e_meth, e_make, e_bi, e_bm, e_isi, e_lc, e_frz, e_sp, cont_nil, wEs, wG, wGs, wI, wIf, wO, ge0, geS, wIx, wCmp, wBin, wAug, wBi, wBm, arrD, sq_lst, sq_frl, sq_tup, lq_lst, isi_int, isi_bl, isi_str, isi_non, isi_lst, isi_frl, isi_tup, sl_tup, sl_lst, sl_frl, rv_tup, rv_lst, rv_frl, st_lst, st_frl, st_tup, mset_same, bxs_at, newL, wipeD, isN_non, isN_int, isN_bl, isN_str, isN_tup, isN_lst, isN_obj, rng_irg, isTy, List.map_cons, List.map_nil, Nat.reduceSub, List.replicate_succ, List.replicate_zero, List.set_cons_zero, List.set_cons_succ, List.cons_append, List.nil_append, List.length_cons, List.length_nil, List.any_cons, List.any_nil, decide_eq_true_eq, Bool.not_eq_true', decide_eq_false_iff_not, if_true, if_false, reduceIte, Bool.false_eq_true, Bool.true_eq_false, Bool.not_true, Bool.not_false, true_and, and_true, Bool.or_false, Bool.or_true, Bool.true_or, Bool.false_or, beq_self_eq_true, List.getD_cons_zero, List.getD_cons_succ, not_true_eq_false, not_false_eq_true, ne_eq, Nat.zero_add, Nat.reduceAdd, Nat.reduceLeDiff, Int.reduceNeg, eq_self]
  refine ⟨small_le (by decide), ?_⟩
  refine cont_step ?_
  simp only [startD, s_nil, s_cons, s_asg, s_par2, s_par3, s_aug, s_augS, s_expr, s_ret, s_retN, s_ite, s_for, s_brk, s_cnt, s_pass, s_never, for_step, lc_step, e_var, e_cst, e_bin, e_neg, e_not, e_and, e_or, e_cmp, e_chain, e_ife, e_tup, e_lst, e_ix, e_slc, e_rev, e_fld, e_call, e_meth, e_make, e_bi, e_bm, e_isi, e_lc, e_frz, e_sp, cont_nil, wEs, wG, wGs, wI, wIf, wO, ge0, geS, wIx, wCmp, wBin, wAug, wBi, wBm, arrD, sq_lst, sq_frl, sq_tup, lq_lst, isi_int, isi_bl, isi_str, isi_non, isi_lst, isi_frl, isi_tup, sl_tup, sl_lst, sl_frl, rv_tup, rv_lst, rv_frl, st_lst, st_frl, st_tup, mset_same, bxs_at, newL, wipeD, isN_non, isN_int, isN_bl, isN_str, isN_tup, isN_lst, isN_obj, rng_irg, isTy, List.map_cons, List.map_nil, Nat.reduceSub, List.replicate_succ, List.replicate_zero, List.set_cons_zero, List.set_cons_succ, List.cons_append, List.nil_append, List.length_cons, List.length_nil, List.any_cons, List.any_nil, decide_eq_true_eq, Bool.not_eq_true', decide_eq_false_iff_not, if_true, if_false, reduceIte, Bool.false_eq_true, Bool.true_eq_false, Bool.not_true, Bool.not_false, true_and, and_true, Bool.or_false, Bool.or_true, Bool.true_or, Bool.false_or, beq_self_eq_true, List.getD_cons_zero, List.getD_cons_succ, not_true_eq_false, not_false_eq_true, ne_eq, Nat.zero_add, Nat.reduceAdd, Nat.reduceLeDiff, Int.reduceNeg, eq_self, ← List.map_reverse, pairs_map, List.length_map, List.length_zip, List.length_reverse]
  refine ⟨fun _ => trivial, small_size (by omega), ?_⟩
  refine lc_map (fun p => .bl (decide (p.1 + p.2 = V.mid i.toNat + 1))) trivial (fun p hp kk hk => ?_) ?_
  · simp only [startD, s_nil, s_cons, s_asg, s_par2, s_par3, s_aug, s_augS, s_expr, s_ret, s_retN, s_ite, s_for, s_brk, s_cnt, s_pass, s_never, for_step, lc_step, e_var, e_cst, e_bin, e_neg, e_not, e_and, e_or, e_cmp, e_chain, e_ife, e_tup, e_lst, e_ix, e_slc, e_rev, e_fld, e_call, e_meth, e_make, e_bi, e_bm, e_isi, e_lc, e_frz, e_sp, cont_nil, wEs, wG, wGs, wI, wIf, wO, ge0, geS, wIx, wCmp, wBin, wAug, wBi, wBm, arrD, sq_lst, sq_frl, sq_tup, lq_lst, isi_int, isi_bl, isi_str, isi_non, isi_lst, isi_frl, isi_tup, sl_tup, sl_lst, sl_frl, rv_tup, rv_lst, rv_frl, st_lst, st_frl, st_tup, mset_same, bxs_at, newL, wipeD, isN_non, isN_int, isN_bl, isN_str, isN_tup, isN_lst, isN_obj, rng_irg, isTy, List.map_cons, List.map_nil, Nat.reduceSub, List.replicate_succ, List.replicate_zero, List.set_cons_zero, List.set_cons_succ, List.cons_append, List.nil_append, List.length_cons, List.length_nil, List.any_cons, List.any_nil, decide_eq_true_eq, Bool.not_eq_true', decide_eq_false_iff_not, if_true, if_false, reduceIte, Bool.false_eq_true, Bool.true_eq_false, Bool.not_true, Bool.not_false, true_and, and_true, Bool.or_false, Bool.or_true, Bool.true_or, Bool.false_or, beq_self_eq_true, List.getD_cons_zero, List.getD_cons_succ, not_true_eq_false, not_false_eq_true, ne_eq, Nat.zero_add, Nat.reduceAdd, Nat.reduceLeDiff, Int.reduceNeg, eq_self]
    exact hk
  · simp only [startD, s_nil, s_cons, s_asg, s_par2, s_par3, s_aug, s_augS, s_expr, s_ret, s_retN, s_ite, s_for, s_brk, s_cnt, s_pass, s_never, for_step, lc_step, e_var, e_cst, e_bin, e_neg, e_not, e_and, e_or, e_cmp, e_chain, e_ife, e_tup, e_lst, e_ix, e_slc, e_rev, e_fld, e_call, e_meth, e_make, e_bi, e_bm, e_isi, e_lc, e_frz, e_sp, cont_nil, wEs, wG, wGs, wI, wIf, wO, ge0, geS, wIx, wCmp, wBin, wAug, wBi, wBm, arrD, sq_lst, sq_frl, sq_tup, lq_lst, isi_int, isi_bl, isi_str, isi_non, isi_lst, isi_frl, isi_tup, sl_tup, sl_lst, sl_frl, rv_tup, rv_lst, rv_frl, st_lst, st_frl, st_tup, mset_same, bxs_at, newL, wipeD, isN_non, isN_int, isN_bl, isN_str, isN_tup, isN_lst, isN_obj, rng_irg, isTy, List.map_cons, List.map_nil, Nat.reduceSub, List.replicate_succ, List.replicate_zero, List.set_cons_zero, List.set_cons_succ, List.cons_append, List.nil_append, List.length_cons, List.length_nil, List.any_cons, List.any_nil, decide_eq_true_eq, Bool.not_eq_true', decide_eq_false_iff_not, if_true, if_false, reduceIte, Bool.false_eq_true, Bool.true_eq_false, Bool.not_true, Bool.not_false, true_and, and_true, Bool.or_false, Bool.or_true, Bool.true_or, Bool.false_or, beq_self_eq_true, List.getD_cons_zero, List.getD_cons_succ, not_true_eq_false, not_false_eq_true, ne_eq, Nat.zero_add, Nat.reduceAdd, Nat.reduceLeDiff, Int.reduceNeg, eq_self, bls_map, List.length_map, List.length_zip, List.length_reverse]
    exact ⟨small_le (by omega), rtn_self h⟩
theorem mirror_ok [Row T "Hall.tops" ⟨"Hall.tops", 1, 2, b_tops⟩] [Row T "mirror" ⟨"mirror", 2, 4, b_mirror⟩] (o : V.Ok) {s : List Int} (hs : s.length = V.n) (h : Φ (tI ((V.tops.zip s).map fun p => p.1 - p.2)) M) : callAt T (k + 2) "mirror" [hallD V, tI s] M Φ Ψ := by
  have hn := o.small
  have htl := o.tl
  refine call_row rfl ?_
  simp only [startD, s_nil, s_cons, s_asg, s_par2, s_par3, s_aug, s_augS, s_expr, s_ret, s_retN, s_ite, s_for, s_brk, s_cnt, s_pass, s_never, for_step, lc_step, e_var, e_cst, e_bin, e_neg, e_not, e_and, e_or, e_cmp, e_chain, e_ife, e_tup, e_lst, e_ix, e_slc, e_rev, e_fld, e_call, e_meth, e_make, e_bi, e_bm, e_isi, e_lc, e_frz, e_sp, cont_nil, wEs, wG, wGs, wI, wIf, wO, ge0, geS, wIx, wCmp, wBin, wAug, wBi, wBm, arrD, sq_lst, sq_frl, sq_tup, lq_lst, isi_int, isi_bl, isi_str, isi_non, isi_lst, isi_frl, isi_tup, sl_tup, sl_lst, sl_frl, rv_tup, rv_lst, rv_frl, st_lst, st_frl, st_tup, mset_same, bxs_at, newL, wipeD, isN_non, isN_int, isN_bl, isN_str, isN_tup, isN_lst, isN_obj, rng_irg, isTy, List.map_cons, List.map_nil, Nat.reduceSub, List.replicate_succ, List.replicate_zero, List.set_cons_zero, List.set_cons_succ, List.cons_append, List.nil_append, List.length_cons, List.length_nil, List.any_cons, List.any_nil, decide_eq_true_eq, Bool.not_eq_true', decide_eq_false_iff_not, if_true, if_false, reduceIte, Bool.false_eq_true, Bool.true_eq_false, Bool.not_true, Bool.not_false, true_and, and_true, Bool.or_false, Bool.or_true, Bool.true_or, Bool.false_or, beq_self_eq_true, List.getD_cons_zero, List.getD_cons_succ, not_true_eq_false, not_false_eq_true, ne_eq, Nat.zero_add, Nat.reduceAdd, Nat.reduceLeDiff, Int.reduceNeg, eq_self, b_mirror, ap_tops, c_tops]
  refine h_tops o ?_
  simp only [startD, s_nil, s_cons, s_asg, s_par2, s_par3, s_aug, s_augS, s_expr, s_ret, s_retN, s_ite, s_for, s_brk, s_cnt, s_pass, s_never, for_step, lc_step, e_var, e_cst, e_bin, e_neg, e_not, e_and, e_or, e_cmp, e_chain, e_ife, e_tup, e_lst, e_ix, e_slc, e_rev, e_fld, e_call, e_meth, e_make, e_bi, e_bm, e_isi, e_lc, e_frz, e_sp, cont_nil, wEs, wG, wGs, wI, wIf, wO, ge0, geS, wIx, wCmp, wBin, wAug, wBi, wBm, arrD, sq_lst, sq_frl, sq_tup, lq_lst, isi_int, isi_bl, isi_str, isi_non, isi_lst, isi_frl, isi_tup, sl_tup, sl_lst, sl_frl, rv_tup, rv_lst, rv_frl, st_lst, st_frl, st_tup, mset_same, bxs_at, newL, wipeD, isN_non, isN_int, isN_bl, isN_str, isN_tup, isN_lst, isN_obj, rng_irg, isTy, List.map_cons, List.map_nil, Nat.reduceSub, List.replicate_succ, List.replicate_zero, List.set_cons_zero, List.set_cons_succ, List.cons_append, List.nil_append, List.length_cons, List.length_nil, List.any_cons, List.any_nil, decide_eq_true_eq, Bool.not_eq_true', decide_eq_false_iff_not, if_true, if_false, reduceIte, Bool.false_eq_true, Bool.true_eq_false, Bool.not_true, Bool.not_false, true_and, and_true, Bool.or_false, Bool.or_true, Bool.true_or, Bool.false_or, beq_self_eq_true, List.getD_cons_zero, List.getD_cons_succ, not_true_eq_false, not_false_eq_true, ne_eq, Nat.zero_add, Nat.reduceAdd, Nat.reduceLeDiff, Int.reduceNeg, eq_self, pairs_map, List.length_map, List.length_zip, htl, hs]
  refine ⟨fun _ => trivial, small_size (by omega), ?_⟩
  refine lc_map (fun p => .int (p.1 - p.2)) trivial (fun p hp kk hk => ?_) ?_
  · simp only [startD, s_nil, s_cons, s_asg, s_par2, s_par3, s_aug, s_augS, s_expr, s_ret, s_retN, s_ite, s_for, s_brk, s_cnt, s_pass, s_never, for_step, lc_step, e_var, e_cst, e_bin, e_neg, e_not, e_and, e_or, e_cmp, e_chain, e_ife, e_tup, e_lst, e_ix, e_slc, e_rev, e_fld, e_call, e_meth, e_make, e_bi, e_bm, e_isi, e_lc, e_frz, e_sp, cont_nil, wEs, wG, wGs, wI, wIf, wO, ge0, geS, wIx, wCmp, wBin, wAug, wBi, wBm, arrD, sq_lst, sq_frl, sq_tup, lq_lst, isi_int, isi_bl, isi_str, isi_non, isi_lst, isi_frl, isi_tup, sl_tup, sl_lst, sl_frl, rv_tup, rv_lst, rv_frl, st_lst, st_frl, st_tup, mset_same, bxs_at, newL, wipeD, isN_non, isN_int, isN_bl, isN_str, isN_tup, isN_lst, isN_obj, rng_irg, isTy, List.map_cons, List.map_nil, Nat.reduceSub, List.replicate_succ, List.replicate_zero, List.set_cons_zero, List.set_cons_succ, List.cons_append, List.nil_append, List.length_cons, List.length_nil, List.any_cons, List.any_nil, decide_eq_true_eq, Bool.not_eq_true', decide_eq_false_iff_not, if_true, if_false, reduceIte, Bool.false_eq_true, Bool.true_eq_false, Bool.not_true, Bool.not_false, true_and, and_true, Bool.or_false, Bool.or_true, Bool.true_or, Bool.false_or, beq_self_eq_true, List.getD_cons_zero, List.getD_cons_succ, not_true_eq_false, not_false_eq_true, ne_eq, Nat.zero_add, Nat.reduceAdd, Nat.reduceLeDiff, Int.reduceNeg, eq_self]
    exact hk
  · simp only [startD, s_nil, s_cons, s_asg, s_par2, s_par3, s_aug, s_augS, s_expr, s_ret, s_retN, s_ite, s_for, s_brk, s_cnt, s_pass, s_never, for_step, lc_step, e_var, e_cst, e_bin, e_neg, e_not, e_and, e_or, e_cmp, e_chain, e_ife, e_tup, e_lst, e_ix, e_slc, e_rev, e_fld, e_call, e_meth, e_make, e_bi, e_bm, e_isi, e_lc, e_frz, e_sp, cont_nil, wEs, wG, wGs, wI, wIf, wO, ge0, geS, wIx, wCmp, wBin, wAug, wBi, wBm, arrD, sq_lst, sq_frl, sq_tup, lq_lst, isi_int, isi_bl, isi_str, isi_non, isi_lst, isi_frl, isi_tup, sl_tup, sl_lst, sl_frl, rv_tup, rv_lst, rv_frl, st_lst, st_frl, st_tup, mset_same, bxs_at, newL, wipeD, isN_non, isN_int, isN_bl, isN_str, isN_tup, isN_lst, isN_obj, rng_irg, isTy, List.map_cons, List.map_nil, Nat.reduceSub, List.replicate_succ, List.replicate_zero, List.set_cons_zero, List.set_cons_succ, List.cons_append, List.nil_append, List.length_cons, List.length_nil, List.any_cons, List.any_nil, decide_eq_true_eq, Bool.not_eq_true', decide_eq_false_iff_not, if_true, if_false, reduceIte, Bool.false_eq_true, Bool.true_eq_false, Bool.not_true, Bool.not_false, true_and, and_true, Bool.or_false, Bool.or_true, Bool.true_or, Bool.false_or, beq_self_eq_true, List.getD_cons_zero, List.getD_cons_succ, not_true_eq_false, not_false_eq_true, ne_eq, Nat.zero_add, Nat.reduceAdd, Nat.reduceLeDiff, Int.reduceNeg, eq_self, List.length_map, List.length_zip, htl, hs]
    refine ⟨small_le (by omega), rtn_self ?_⟩
    have e : ((V.tops.zip s).map fun p => Sw.D.int (p.1 - p.2)) = ((V.tops.zip s).map fun p => p.1 - p.2).map Sw.D.int := by rw [List.map_map]; rfl
    rw [e]; exact h
end
end Pg
set_option maxRecDepth 100000
set_option maxHeartbeats 1000000
/-! Pi: steps that are balanced about a middle, by draws. -/
namespace Pg
open PySem Sw
theorem intsOf_map : ∀ xs : List Int, intsOf (xs.map D.int) = some xs
  | [] => rfl
  | x :: r => by simp only [List.map_cons, intsOf, intsOf_map r]
theorem wInts_l {M : MM} {xs : List Int} {k : List Int → Prop} (h : k xs) : wInts M (.lst (xs.map .int)) k := by
  simp only [wInts, seqOf, intsOf_map]; exact h
theorem up_ext : ∀ {xs ys : List Int}, xs.Pairwise (· < ·) → ys.Pairwise (· < ·) → (∀ z, z ∈ xs ↔ z ∈ ys) → xs = ys
  | [], [], _, _, _ => rfl
  | [], y :: _, _, _, h => absurd ((h y).mpr List.mem_cons_self) (by simp)
  | x :: _, [], _, _, h => absurd ((h x).mp List.mem_cons_self) (by simp)
  | x :: xs, y :: ys, hx, hy, h => by
    have hx' := List.pairwise_cons.mp hx
    have hy' := List.pairwise_cons.mp hy
    have e : x = y := by
      have h1 := (h x).mp List.mem_cons_self
      have h2 := (h y).mpr List.mem_cons_self
      rcases List.mem_cons.mp h1 with q | q
      · exact q
      · rcases List.mem_cons.mp h2 with q2 | q2
        · exact q2.symm
        · have := hx'.1 y q2
          have := hy'.1 x q
          omega
    subst e
    refine congrArg (x :: ·) (up_ext hx'.2 hy'.2 fun z => ?_)
    constructor
    · intro hz
      have := hx'.1 z hz
      rcases List.mem_cons.mp ((h z).mp (List.mem_cons_of_mem _ hz)) with q | q
      · omega
      · exact q
    · intro hz
      have := hy'.1 z hz
      rcases List.mem_cons.mp ((h z).mpr (List.mem_cons_of_mem _ hz)) with q | q
      · omega
      · exact q
theorem bal_rev {out : List Int} {c : Int} (hs : out.Pairwise (· < ·)) (hc : ∀ x ∈ out, c - x ∈ out) : (out.reverse.map fun x => c - x) = out := by
  refine up_ext ?_ hs fun z => ?_
  · rw [List.pairwise_map, List.pairwise_reverse]
    exact List.Pairwise.imp (fun {a b} h => by omega) hs
  · rw [List.mem_map]
    constructor
    · rintro ⟨x, hx, rfl⟩
      exact hc x (List.mem_reverse.mp hx)
    · intro hz
      exact ⟨c - z, List.mem_reverse.mpr (hc z hz), by omega⟩
theorem balB_of {out : List Int} {c : Int} (hs : out.Pairwise (· < ·)) (hc : ∀ x ∈ out, c - x ∈ out) : balB out c = true := by
  have h := bal_rev hs hc
  unfold balB
  rw [List.all_map, List.all_eq_true]
  intro p hp
  obtain ⟨i, hi, e⟩ := List.mem_iff_getElem.mp hp
  have hl : i < out.length := by simp at hi; omega
  have h2 : out[i] = c - out.reverse[i]'(by simpa using hl) := by
    have := congrArg (fun l => l[i]?) h
    simp only [List.getElem?_map] at this
    rw [List.getElem?_eq_getElem (by simpa using hl), List.getElem?_eq_getElem hl] at this
    simpa using this.symm
  rw [← e, List.getElem_zip]
  simp only [Function.comp_apply, id, decide_eq_true_eq]
  omega
theorem strict_of {out : List Int} (h : out.Pairwise (· ≤ ·)) (hn : out.Nodup) : out.Pairwise (· < ·) := by
  have := List.Pairwise.and h hn
  exact List.Pairwise.imp (fun {a b} q => by have := q.1; have := q.2; omega) this
theorem toPys_intsI : ∀ ns : List Int, toPys (ns.map Sw.D.int) = some (ns.map PyData.int)
  | [] => rfl
  | n :: r => by simp [toPys, toPy, toPys_intsI r]
theorem lay_ints : ∀ ns : List Int, PyData.canLayAll0 (ns.map PyData.int) = true ∧ PyData.depthAll (ns.map PyData.int) = 0
  | [] => ⟨rfl, rfl⟩
  | n :: r => by
    obtain ⟨a, b⟩ := lay_ints r
    exact ⟨by simp [PyData.canLayAll0, PyData.canLay0, a], by simp [PyData.depthAll, PyData.depth, b]⟩
/-- x in a list, a tuple of ints -/
theorem pIn_int {M : MM} {y : Sw.D} {ns : List Int} {x : Int} {kk : Bool → Prop} (hs : IsInts M y ns) (hk : kk (decide (x ∈ ns))) : pIn M (.int x) y kk := by
  unfold IsInts at hs
  unfold pIn
  rw [hs]
  simp only [res, toPy, toPys_intsI]
  obtain ⟨a, b⟩ := lay_ints ns
  refine ⟨by unfold SeqAt.shaped; simp [PyData.canLay0, PyData.depth], by unfold SeqAt.shaped; simp [PyData.canLay0, PyData.depth, a, b], ?_⟩
  have e : ((ns.map PyData.int).any fun z => PyData.eqv z (.int x)) = decide (x ∈ ns) := by
    rw [Bool.eq_iff_iff, decide_eq_true_iff, List.any_map, List.any_eq_true]
    constructor
    · rintro ⟨z, hz, q⟩
      have : z = x := by simpa [PyData.eqv] using q
      rw [← this]; exact hz
    · intro hx
      exact ⟨x, hx, by simp [PyData.eqv]⟩
  rw [e]; exact hk
/-- numbers by pairs that are together c, none its own one -/
structure PInv (found : List Int) (c : Int) : Prop where
  nd : found.Nodup
  cl : ∀ x ∈ found, c - x ∈ found
  ne : ∀ x ∈ found, 2 * x ≠ c
theorem PInv.add {found : List Int} {c s : Int} (I : PInv found c) (h1 : s ∉ found) (h2 : 2 * s ≠ c) : PInv (found ++ [s, c - s]) c where
  nd := by
    refine List.nodup_append.mpr ⟨I.nd, ?_, fun x hx y hy e => ?_⟩
    · simp only [List.nodup_cons, List.mem_cons, List.not_mem_nil, or_false, not_false_eq_true, List.nodup_nil, and_true]
      intro e; omega
    · subst e
      simp only [List.mem_cons, List.not_mem_nil, or_false] at hy
      rcases hy with rfl | rfl
      · exact h1 hx
      · exact h1 (by have := I.cl _ hx; rwa [show c - (c - s) = s by omega] at this)
  cl := fun x hx => by
    rcases List.mem_append.mp hx with q | q
    · exact List.mem_append_left _ (I.cl x q)
    · refine List.mem_append_right _ ?_
      simp only [List.mem_cons, List.not_mem_nil, or_false] at q ⊢
      rcases q with rfl | rfl
      · exact .inr rfl
      · exact .inl (by omega)
  ne := fun x hx => by
    rcases List.mem_append.mp hx with q | q
    · exact I.ne x q
    · simp only [List.mem_cons, List.not_mem_nil, or_false] at q
      rcases q with rfl | rfl
      · exact h2
      · omega
def paired1 : Ss := (.cons (.asg (.name 4) (.lst false .nil)) (.cons (.for_ (.name 5) (.range1 (.cst (.int 40))) (.cons (.asg (.name 7) (.bin false .Add (.bin false .Sub (.call "_law_take" [.at_ 0, .at_ 1] (.cons (.var 0) (.cons (.bin false .Add (.bin false .Mult (.cst (.int 2)) (.var 3)) (.cst (.int 1))) .nil)) .nil) (.var 3)) (.bin false .FloorDiv (.var 1) (.cst (.int 2))))) (.cons (.ite (.and (.cmp .Lt (.bi false .len (.cons (.var 4) .nil)) (.bin false .Mult (.bin false .FloorDiv (.var 2) (.cst (.int 2))) (.cst (.int 2)))) (.and (.cmp .NotIn (.var 7) (.var 4)) (.cmp .NotEq (.bin false .Mult (.cst (.int 2)) (.var 7)) (.bin false .Add (.var 1) (.cst (.int 1)))))) (.cons (.asg (.name 4) (.bin false .Add (.var 4) (.lst false (.cons (.var 7) (.cons (.bin false .Sub (.bin false .Add (.var 1) (.cst (.int 1))) (.var 7)) .nil))))) .nil) .nil) .nil))) (.cons (.for_ (.name 6) (.range2 (.bin false .Add (.var 3) (.cst (.int 2))) (.bin false .Add (.var 3) (.cst (.int 9)))) (.cons (.ite (.cmp .Lt (.bi false .len (.cons (.var 4) .nil)) (.bin false .Mult (.bin false .FloorDiv (.var 2) (.cst (.int 2))) (.cst (.int 2)))) (.cons (.asg (.name 4) (.bin false .Add (.var 4) (.lst false (.cons (.bin false .Add (.bin false .Add (.bin false .FloorDiv (.var 1) (.cst (.int 2))) (.var 6)) (.cst (.int 1))) (.cons (.bin false .Sub (.bin false .Sub (.var 1) (.bin false .FloorDiv (.var 1) (.cst (.int 2)))) (.var 6)) .nil))))) .nil) .nil) .nil)) (.cons (.ret (.bi false .tuple (.cons (.bi false .sorted (.cons (.bin false .Add (.var 4) (.bin false .Mult (.lst false (.cons (.bin false .FloorDiv (.bin false .Add (.var 1) (.cst (.int 1))) (.cst (.int 2))) .nil)) (.bin false .Mod (.var 2) (.cst (.int 2))))) .nil)) .nil))) .nil))))
section
variable {T : Tb} {k : Nat} {M : MM} {b : Addr} {B : Box} {Φ Ψ : CallC}
theorem paired1_ok [CTake T] [Row T "_law_paired" ⟨"_law_paired", 4, 8, paired1⟩] {m top r : Int} (ht : 1 ≤ top ∧ top ≤ 4) (hodd : top % 2 = 1 → m % 2 = 1) (hr : 1 ≤ r ∧ r ≤ 2 ^ 20) (hB : Rdy 40 B)
    (h : ∀ ns B', StepsOk ns → ns.length = top.toNat → balB ns (m + 1) = true → Nx 40 B B' → Φ (tI ns) (bxs M b B')) : callAt T (k + 2) "_law_paired" [.loc b, .int m, .int top, .int r] (bxs M b B) Φ Ψ := by
  refine call_row rfl ?_
  simp only [startD, s_nil, s_cons, s_asg, s_par2, s_par3, s_aug, s_augS, s_expr, s_ret, s_retN, s_ite, s_for, s_brk, s_cnt, s_pass, s_never, for_step, lc_step, e_var, e_cst, e_bin, e_neg, e_not, e_and, e_or, e_cmp, e_chain, e_ife, e_tup, e_lst, e_ix, e_slc, e_rev, e_fld, e_call, e_meth, e_make, e_bi, e_bm, e_isi, e_lc, e_frz, e_sp, cont_nil, wEs, wG, wGs, wI, wIf, wO, ge0, geS, wIx, wCmp, wBin, wAug, wBi, wBm, arrD, sq_lst, sq_frl, sq_tup, lq_lst, isi_int, isi_bl, isi_str, isi_non, isi_lst, isi_frl, isi_tup, sl_tup, sl_lst, sl_frl, rv_tup, rv_lst, rv_frl, st_lst, st_frl, st_tup, mset_same, bxs_at, newL, wipeD, isN_non, isN_int, isN_bl, isN_str, isN_tup, isN_lst, isN_obj, rng_irg, isTy, List.map_cons, List.map_nil, Nat.reduceSub, List.replicate_succ, List.replicate_zero, List.set_cons_zero, List.set_cons_succ, List.cons_append, List.nil_append, List.length_cons, List.length_nil, List.any_cons, List.any_nil, decide_eq_true_eq, Bool.not_eq_true', decide_eq_false_iff_not, if_true, if_false, reduceIte, Bool.false_eq_true, Bool.true_eq_false, Bool.not_true, Bool.not_false, true_and, and_true, Bool.or_false, Bool.or_true, Bool.true_or, Bool.false_or, beq_self_eq_true, List.getD_cons_zero, List.getD_cons_succ, not_true_eq_false, not_false_eq_true, ne_eq, Nat.zero_add, Nat.reduceAdd, Nat.reduceLeDiff, Int.reduceNeg, eq_self, paired1]
  refine ⟨small_le (by decide), ?_⟩
  refine cont_step ?_
  simp only [startD, s_nil, s_cons, s_asg, s_par2, s_par3, s_aug, s_augS, s_expr, s_ret, s_retN, s_ite, s_for, s_brk, s_cnt, s_pass, s_never, for_step, lc_step, e_var, e_cst, e_bin, e_neg, e_not, e_and, e_or, e_cmp, e_chain, e_ife, e_tup, e_lst, e_ix, e_slc, e_rev, e_fld, e_call, e_meth, e_make, e_bi, e_bm, e_isi, e_lc, e_frz, e_sp, cont_nil, wEs, wG, wGs, wI, wIf, wO, ge0, geS, wIx, wCmp, wBin, wAug, wBi, wBm, arrD, sq_lst, sq_frl, sq_tup, lq_lst, isi_int, isi_bl, isi_str, isi_non, isi_lst, isi_frl, isi_tup, sl_tup, sl_lst, sl_frl, rv_tup, rv_lst, rv_frl, st_lst, st_frl, st_tup, mset_same, bxs_at, newL, wipeD, isN_non, isN_int, isN_bl, isN_str, isN_tup, isN_lst, isN_obj, rng_irg, isTy, List.map_cons, List.map_nil, Nat.reduceSub, List.replicate_succ, List.replicate_zero, List.set_cons_zero, List.set_cons_succ, List.cons_append, List.nil_append, List.length_cons, List.length_nil, List.any_cons, List.any_nil, decide_eq_true_eq, Bool.not_eq_true', decide_eq_false_iff_not, if_true, if_false, reduceIte, Bool.false_eq_true, Bool.true_eq_false, Bool.not_true, Bool.not_false, true_and, and_true, Bool.or_false, Bool.or_true, Bool.true_or, Bool.false_or, beq_self_eq_true, List.getD_cons_zero, List.getD_cons_succ, not_true_eq_false, not_false_eq_true, ne_eq, Nat.zero_add, Nat.reduceAdd, Nat.reduceLeDiff, Int.reduceNeg, eq_self]
  refine ⟨by decide, by decide, ?_⟩
  have hcap : (top / 2 * 2) % 2 = 0 ∧ 0 ≤ top / 2 * 2 ∧ top / 2 * 2 ≤ 4 ∧ top = top / 2 * 2 + top % 2 := by omega
  generalize hc : top / 2 * 2 = cap at *
  refine forb (e := Sw.D.int) (fun i Γ M' => M' = M ∧ ∃ (fd : List Int) (y5 y7 : Option Sw.D), Γ = [some (.loc b), some (.int m), some (.int top), some (.int r), some (lI fd), y5, none, y7] ∧ PInv fd (m + 1) ∧ (fd.length : Int) % 2 = 0 ∧ (fd.length : Int) ≤ cap ∧ ∀ x ∈ fd, m / 2 - r ≤ x ∧ x ≤ m / 2 + r + 2) 1 0 (fun _ _ _ _ _ => trivial) (i := 0) (hB.le (by rw [irg_len]; decide))
    ⟨rfl, [], none, none, rfl, ⟨List.nodup_nil, by simp, by simp⟩, by simp, by simp; omega, by simp⟩ (fun j x hx Γ M' B1 kk hP hr1 hk => ?_) (fun Γ' M' B' hP hr1 hn => ?_)
  · obtain ⟨rfl, fd, y5, y7, rfl, I, e1, e2, e3⟩ := hP
    simp only [startD, s_nil, s_cons, s_asg, s_par2, s_par3, s_aug, s_augS, s_expr, s_ret, s_retN, s_ite, s_for, s_brk, s_cnt, s_pass, s_never, for_step, lc_step, e_var, e_cst, e_bin, e_neg, e_not, e_and, e_or, e_cmp, e_chain, e_ife, e_tup, e_lst, e_ix, e_slc, e_rev, e_fld, e_call, e_meth, e_make, e_bi, e_bm, e_isi, e_lc, e_frz, e_sp, cont_nil, wEs, wG, wGs, wI, wIf, wO, ge0, geS, wIx, wCmp, wBin, wAug, wBi, wBm, arrD, sq_lst, sq_frl, sq_tup, lq_lst, isi_int, isi_bl, isi_str, isi_non, isi_lst, isi_frl, isi_tup, sl_tup, sl_lst, sl_frl, rv_tup, rv_lst, rv_frl, st_lst, st_frl, st_tup, mset_same, bxs_at, newL, wipeD, isN_non, isN_int, isN_bl, isN_str, isN_tup, isN_lst, isN_obj, rng_irg, isTy, List.map_cons, List.map_nil, Nat.reduceSub, List.replicate_succ, List.replicate_zero, List.set_cons_zero, List.set_cons_succ, List.cons_append, List.nil_append, List.length_cons, List.length_nil, List.any_cons, List.any_nil, decide_eq_true_eq, Bool.not_eq_true', decide_eq_false_iff_not, if_true, if_false, reduceIte, Bool.false_eq_true, Bool.true_eq_false, Bool.not_true, Bool.not_false, true_and, and_true, Bool.or_false, Bool.or_true, Bool.true_or, Bool.false_or, beq_self_eq_true, List.getD_cons_zero, List.getD_cons_succ, not_true_eq_false, not_false_eq_true, ne_eq, Nat.zero_add, Nat.reduceAdd, Nat.reduceLeDiff, Int.reduceNeg, eq_self]
    refine ⟨mulL (by omega), take_ok (hr1.le (by omega)) (by omega) (by omega) fun n B2 a1 a2 h1 => ?_⟩
    refine ⟨cdw (by decide) (by decide), ?_⟩
    generalize hs : n - r + m / 2 = s at *
    have skip : ∀ y, kk [some (.loc b), some (.int m), some (.int top), some (.int r), some (lI fd), some (.int x), none, y] (bxs M' b B2) := fun y => hk _ _ _ ⟨rfl, fd, _, _, rfl, I, e1, e2, e3⟩ h1
    refine cont_step ?_
    simp only [startD, s_nil, s_cons, s_asg, s_par2, s_par3, s_aug, s_augS, s_expr, s_ret, s_retN, s_ite, s_for, s_brk, s_cnt, s_pass, s_never, for_step, lc_step, e_var, e_cst, e_bin, e_neg, e_not, e_and, e_or, e_cmp, e_chain, e_ife, e_tup, e_lst, e_ix, e_slc, e_rev, e_fld, e_call, e_meth, e_make, e_bi, e_bm, e_isi, e_lc, e_frz, e_sp, cont_nil, wEs, wG, wGs, wI, wIf, wO, ge0, geS, wIx, wCmp, wBin, wAug, wBi, wBm, arrD, sq_lst, sq_frl, sq_tup, lq_lst, isi_int, isi_bl, isi_str, isi_non, isi_lst, isi_frl, isi_tup, sl_tup, sl_lst, sl_frl, rv_tup, rv_lst, rv_frl, st_lst, st_frl, st_tup, mset_same, bxs_at, newL, wipeD, isN_non, isN_int, isN_bl, isN_str, isN_tup, isN_lst, isN_obj, rng_irg, isTy, List.map_cons, List.map_nil, Nat.reduceSub, List.replicate_succ, List.replicate_zero, List.set_cons_zero, List.set_cons_succ, List.cons_append, List.nil_append, List.length_cons, List.length_nil, List.any_cons, List.any_nil, decide_eq_true_eq, Bool.not_eq_true', decide_eq_false_iff_not, if_true, if_false, reduceIte, Bool.false_eq_true, Bool.true_eq_false, Bool.not_true, Bool.not_false, true_and, and_true, Bool.or_false, Bool.or_true, Bool.true_or, Bool.false_or, beq_self_eq_true, List.getD_cons_zero, List.getD_cons_succ, not_true_eq_false, not_false_eq_true, ne_eq, Nat.zero_add, Nat.reduceAdd, Nat.reduceLeDiff, Int.reduceNeg, eq_self, List.length_map]
    refine ⟨cdw (by decide) (by decide), mulR (by decide), ?_⟩
    rw [hc]
    by_cases c1 : (fd.length : Int) < cap
    · simp only [startD, s_nil, s_cons, s_asg, s_par2, s_par3, s_aug, s_augS, s_expr, s_ret, s_retN, s_ite, s_for, s_brk, s_cnt, s_pass, s_never, for_step, lc_step, e_var, e_cst, e_bin, e_neg, e_not, e_and, e_or, e_cmp, e_chain, e_ife, e_tup, e_lst, e_ix, e_slc, e_rev, e_fld, e_call, e_meth, e_make, e_bi, e_bm, e_isi, e_lc, e_frz, e_sp, cont_nil, wEs, wG, wGs, wI, wIf, wO, ge0, geS, wIx, wCmp, wBin, wAug, wBi, wBm, arrD, sq_lst, sq_frl, sq_tup, lq_lst, isi_int, isi_bl, isi_str, isi_non, isi_lst, isi_frl, isi_tup, sl_tup, sl_lst, sl_frl, rv_tup, rv_lst, rv_frl, st_lst, st_frl, st_tup, mset_same, bxs_at, newL, wipeD, isN_non, isN_int, isN_bl, isN_str, isN_tup, isN_lst, isN_obj, rng_irg, isTy, List.map_cons, List.map_nil, Nat.reduceSub, List.replicate_succ, List.replicate_zero, List.set_cons_zero, List.set_cons_succ, List.cons_append, List.nil_append, List.length_cons, List.length_nil, List.any_cons, List.any_nil, decide_eq_true_eq, Bool.not_eq_true', decide_eq_false_iff_not, if_true, if_false, reduceIte, Bool.false_eq_true, Bool.true_eq_false, Bool.not_true, Bool.not_false, true_and, and_true, Bool.or_false, Bool.or_true, Bool.true_or, Bool.false_or, beq_self_eq_true, List.getD_cons_zero, List.getD_cons_succ, not_true_eq_false, not_false_eq_true, ne_eq, Nat.zero_add, Nat.reduceAdd, Nat.reduceLeDiff, Int.reduceNeg, eq_self, c1]
      refine pIn_int rfl ?_
      by_cases c2 : s ∈ fd
      · simp only [startD, s_nil, s_cons, s_asg, s_par2, s_par3, s_aug, s_augS, s_expr, s_ret, s_retN, s_ite, s_for, s_brk, s_cnt, s_pass, s_never, for_step, lc_step, e_var, e_cst, e_bin, e_neg, e_not, e_and, e_or, e_cmp, e_chain, e_ife, e_tup, e_lst, e_ix, e_slc, e_rev, e_fld, e_call, e_meth, e_make, e_bi, e_bm, e_isi, e_lc, e_frz, e_sp, cont_nil, wEs, wG, wGs, wI, wIf, wO, ge0, geS, wIx, wCmp, wBin, wAug, wBi, wBm, arrD, sq_lst, sq_frl, sq_tup, lq_lst, isi_int, isi_bl, isi_str, isi_non, isi_lst, isi_frl, isi_tup, sl_tup, sl_lst, sl_frl, rv_tup, rv_lst, rv_frl, st_lst, st_frl, st_tup, mset_same, bxs_at, newL, wipeD, isN_non, isN_int, isN_bl, isN_str, isN_tup, isN_lst, isN_obj, rng_irg, isTy, List.map_cons, List.map_nil, Nat.reduceSub, List.replicate_succ, List.replicate_zero, List.set_cons_zero, List.set_cons_succ, List.cons_append, List.nil_append, List.length_cons, List.length_nil, List.any_cons, List.any_nil, decide_eq_true_eq, Bool.not_eq_true', decide_eq_false_iff_not, if_true, if_false, reduceIte, Bool.false_eq_true, Bool.true_eq_false, Bool.not_true, Bool.not_false, true_and, and_true, Bool.or_false, Bool.or_true, Bool.true_or, Bool.false_or, beq_self_eq_true, List.getD_cons_zero, List.getD_cons_succ, not_true_eq_false, not_false_eq_true, ne_eq, Nat.zero_add, Nat.reduceAdd, Nat.reduceLeDiff, Int.reduceNeg, eq_self, c2]
        exact skip _
      · simp only [startD, s_nil, s_cons, s_asg, s_par2, s_par3, s_aug, s_augS, s_expr, s_ret, s_retN, s_ite, s_for, s_brk, s_cnt, s_pass, s_never, for_step, lc_step, e_var, e_cst, e_bin, e_neg, e_not, e_and, e_or, e_cmp, e_chain, e_ife, e_tup, e_lst, e_ix, e_slc, e_rev, e_fld, e_call, e_meth, e_make, e_bi, e_bm, e_isi, e_lc, e_frz, e_sp, cont_nil, wEs, wG, wGs, wI, wIf, wO, ge0, geS, wIx, wCmp, wBin, wAug, wBi, wBm, arrD, sq_lst, sq_frl, sq_tup, lq_lst, isi_int, isi_bl, isi_str, isi_non, isi_lst, isi_frl, isi_tup, sl_tup, sl_lst, sl_frl, rv_tup, rv_lst, rv_frl, st_lst, st_frl, st_tup, mset_same, bxs_at, newL, wipeD, isN_non, isN_int, isN_bl, isN_str, isN_tup, isN_lst, isN_obj, rng_irg, isTy, List.map_cons, List.map_nil, Nat.reduceSub, List.replicate_succ, List.replicate_zero, List.set_cons_zero, List.set_cons_succ, List.cons_append, List.nil_append, List.length_cons, List.length_nil, List.any_cons, List.any_nil, decide_eq_true_eq, Bool.not_eq_true', decide_eq_false_iff_not, if_true, if_false, reduceIte, Bool.false_eq_true, Bool.true_eq_false, Bool.not_true, Bool.not_false, true_and, and_true, Bool.or_false, Bool.or_true, Bool.true_or, Bool.false_or, beq_self_eq_true, List.getD_cons_zero, List.getD_cons_succ, not_true_eq_false, not_false_eq_true, ne_eq, Nat.zero_add, Nat.reduceAdd, Nat.reduceLeDiff, Int.reduceNeg, eq_self, c2]
        refine ⟨mulL (by decide), ?_⟩
        by_cases c3 : 2 * s = m + 1
        · simp only [startD, s_nil, s_cons, s_asg, s_par2, s_par3, s_aug, s_augS, s_expr, s_ret, s_retN, s_ite, s_for, s_brk, s_cnt, s_pass, s_never, for_step, lc_step, e_var, e_cst, e_bin, e_neg, e_not, e_and, e_or, e_cmp, e_chain, e_ife, e_tup, e_lst, e_ix, e_slc, e_rev, e_fld, e_call, e_meth, e_make, e_bi, e_bm, e_isi, e_lc, e_frz, e_sp, cont_nil, wEs, wG, wGs, wI, wIf, wO, ge0, geS, wIx, wCmp, wBin, wAug, wBi, wBm, arrD, sq_lst, sq_frl, sq_tup, lq_lst, isi_int, isi_bl, isi_str, isi_non, isi_lst, isi_frl, isi_tup, sl_tup, sl_lst, sl_frl, rv_tup, rv_lst, rv_frl, st_lst, st_frl, st_tup, mset_same, bxs_at, newL, wipeD, isN_non, isN_int, isN_bl, isN_str, isN_tup, isN_lst, isN_obj, rng_irg, isTy, List.map_cons, List.map_nil, Nat.reduceSub, List.replicate_succ, List.replicate_zero, List.set_cons_zero, List.set_cons_succ, List.cons_append, List.nil_append, List.length_cons, List.length_nil, List.any_cons, List.any_nil, decide_eq_true_eq, Bool.not_eq_true', decide_eq_false_iff_not, if_true, if_false, reduceIte, Bool.false_eq_true, Bool.true_eq_false, Bool.not_true, Bool.not_false, true_and, and_true, Bool.or_false, Bool.or_true, Bool.true_or, Bool.false_or, beq_self_eq_true, List.getD_cons_zero, List.getD_cons_succ, not_true_eq_false, not_false_eq_true, ne_eq, Nat.zero_add, Nat.reduceAdd, Nat.reduceLeDiff, Int.reduceNeg, eq_self, c3]
          exact skip _
        · simp only [startD, s_nil, s_cons, s_asg, s_par2, s_par3, s_aug, s_augS, s_expr, s_ret, s_retN, s_ite, s_for, s_brk, s_cnt, s_pass, s_never, for_step, lc_step, e_var, e_cst, e_bin, e_neg, e_not, e_and, e_or, e_cmp, e_chain, e_ife, e_tup, e_lst, e_ix, e_slc, e_rev, e_fld, e_call, e_meth, e_make, e_bi, e_bm, e_isi, e_lc, e_frz, e_sp, cont_nil, wEs, wG, wGs, wI, wIf, wO, ge0, geS, wIx, wCmp, wBin, wAug, wBi, wBm, arrD, sq_lst, sq_frl, sq_tup, lq_lst, isi_int, isi_bl, isi_str, isi_non, isi_lst, isi_frl, isi_tup, sl_tup, sl_lst, sl_frl, rv_tup, rv_lst, rv_frl, st_lst, st_frl, st_tup, mset_same, bxs_at, newL, wipeD, isN_non, isN_int, isN_bl, isN_str, isN_tup, isN_lst, isN_obj, rng_irg, isTy, List.map_cons, List.map_nil, Nat.reduceSub, List.replicate_succ, List.replicate_zero, List.set_cons_zero, List.set_cons_succ, List.cons_append, List.nil_append, List.length_cons, List.length_nil, List.any_cons, List.any_nil, decide_eq_true_eq, Bool.not_eq_true', decide_eq_false_iff_not, if_true, if_false, reduceIte, Bool.false_eq_true, Bool.true_eq_false, Bool.not_true, Bool.not_false, true_and, and_true, Bool.or_false, Bool.or_true, Bool.true_or, Bool.false_or, beq_self_eq_true, List.getD_cons_zero, List.getD_cons_succ, not_true_eq_false, not_false_eq_true, ne_eq, Nat.zero_add, Nat.reduceAdd, Nat.reduceLeDiff, Int.reduceNeg, eq_self, c3, List.length_map]
          refine ⟨small_le (by decide), small_le (by omega), ?_, ?_⟩
          · rw [List.length_append, List.length_map]; exact small_le (by simp; omega)
          have I2 := I.add c2 (by omega)
          have e : fd.map Sw.D.int ++ [.int s, .int (m + 1 - s)] = (fd ++ [s, m + 1 - s]).map Sw.D.int := by simp
          rw [e]
          refine hk _ _ _ ⟨rfl, _, _, _, rfl, I2, by simp; omega, by simp; omega, fun z hz => ?_⟩ h1
          rcases List.mem_append.mp hz with q | q
          · exact e3 z q
          · simp only [List.mem_cons, List.not_mem_nil, or_false] at q
            rcases q with rfl | rfl <;> omega
    · simp only [startD, s_nil, s_cons, s_asg, s_par2, s_par3, s_aug, s_augS, s_expr, s_ret, s_retN, s_ite, s_for, s_brk, s_cnt, s_pass, s_never, for_step, lc_step, e_var, e_cst, e_bin, e_neg, e_not, e_and, e_or, e_cmp, e_chain, e_ife, e_tup, e_lst, e_ix, e_slc, e_rev, e_fld, e_call, e_meth, e_make, e_bi, e_bm, e_isi, e_lc, e_frz, e_sp, cont_nil, wEs, wG, wGs, wI, wIf, wO, ge0, geS, wIx, wCmp, wBin, wAug, wBi, wBm, arrD, sq_lst, sq_frl, sq_tup, lq_lst, isi_int, isi_bl, isi_str, isi_non, isi_lst, isi_frl, isi_tup, sl_tup, sl_lst, sl_frl, rv_tup, rv_lst, rv_frl, st_lst, st_frl, st_tup, mset_same, bxs_at, newL, wipeD, isN_non, isN_int, isN_bl, isN_str, isN_tup, isN_lst, isN_obj, rng_irg, isTy, List.map_cons, List.map_nil, Nat.reduceSub, List.replicate_succ, List.replicate_zero, List.set_cons_zero, List.set_cons_succ, List.cons_append, List.nil_append, List.length_cons, List.length_nil, List.any_cons, List.any_nil, decide_eq_true_eq, Bool.not_eq_true', decide_eq_false_iff_not, if_true, if_false, reduceIte, Bool.false_eq_true, Bool.true_eq_false, Bool.not_true, Bool.not_false, true_and, and_true, Bool.or_false, Bool.or_true, Bool.true_or, Bool.false_or, beq_self_eq_true, List.getD_cons_zero, List.getD_cons_succ, not_true_eq_false, not_false_eq_true, ne_eq, Nat.zero_add, Nat.reduceAdd, Nat.reduceLeDiff, Int.reduceNeg, eq_self, c1]
      exact skip _
  · obtain ⟨rfl, fd, y5, y7, rfl, I, e1, e2, e3⟩ := hP
    refine cont_step ?_
    simp only [startD, s_nil, s_cons, s_asg, s_par2, s_par3, s_aug, s_augS, s_expr, s_ret, s_retN, s_ite, s_for, s_brk, s_cnt, s_pass, s_never, for_step, lc_step, e_var, e_cst, e_bin, e_neg, e_not, e_and, e_or, e_cmp, e_chain, e_ife, e_tup, e_lst, e_ix, e_slc, e_rev, e_fld, e_call, e_meth, e_make, e_bi, e_bm, e_isi, e_lc, e_frz, e_sp, cont_nil, wEs, wG, wGs, wI, wIf, wO, ge0, geS, wIx, wCmp, wBin, wAug, wBi, wBm, arrD, sq_lst, sq_frl, sq_tup, lq_lst, isi_int, isi_bl, isi_str, isi_non, isi_lst, isi_frl, isi_tup, sl_tup, sl_lst, sl_frl, rv_tup, rv_lst, rv_frl, st_lst, st_frl, st_tup, mset_same, bxs_at, newL, wipeD, isN_non, isN_int, isN_bl, isN_str, isN_tup, isN_lst, isN_obj, rng_irg, isTy, List.map_cons, List.map_nil, Nat.reduceSub, List.replicate_succ, List.replicate_zero, List.set_cons_zero, List.set_cons_succ, List.cons_append, List.nil_append, List.length_cons, List.length_nil, List.any_cons, List.any_nil, decide_eq_true_eq, Bool.not_eq_true', decide_eq_false_iff_not, if_true, if_false, reduceIte, Bool.false_eq_true, Bool.true_eq_false, Bool.not_true, Bool.not_false, true_and, and_true, Bool.or_false, Bool.or_true, Bool.true_or, Bool.false_or, beq_self_eq_true, List.getD_cons_zero, List.getD_cons_succ, not_true_eq_false, not_false_eq_true, ne_eq, Nat.zero_add, Nat.reduceAdd, Nat.reduceLeDiff, Int.reduceNeg, eq_self]
    refine ⟨by omega, by omega, by omega, by omega, ?_⟩
    have hl7 : (r + 9 - (r + 2)).toNat = 7 := by omega
    refine for_inv (e := Sw.D.int) (fun i Γ M2 => M2 = bxs M' b B' ∧ ∃ (fd : List Int) (y6 : Option Sw.D), Γ = [some (.loc b), some (.int m), some (.int top), some (.int r), some (lI fd), y5, y6, y7] ∧ PInv fd (m + 1) ∧ (fd.length : Int) % 2 = 0 ∧ (fd.length : Int) ≤ cap ∧ ((fd.length : Int) = cap ∨ 2 * (i : Int) ≤ fd.length) ∧ ∀ x ∈ fd, m - m / 2 - (r + 2 + i) + 1 ≤ x ∧ x ≤ m / 2 + (r + 2 + i)) (fun _ _ _ _ => trivial) (i := 0)
      ⟨rfl, fd, none, rfl, I, e1, e2, .inr (by omega), fun x hx => by have := e3 x hx; omega⟩ (fun j x hx Γ M2 kk hP hk => ?_) (fun Γ' M2 hP => ?_)
    · obtain ⟨rfl, fd, y6, rfl, I, e1, e2, e4, e3⟩ := hP
      obtain ⟨ex, hj⟩ := irg_get hx
      rw [Nat.zero_add] at e4 e3
      simp only [startD, s_nil, s_cons, s_asg, s_par2, s_par3, s_aug, s_augS, s_expr, s_ret, s_retN, s_ite, s_for, s_brk, s_cnt, s_pass, s_never, for_step, lc_step, e_var, e_cst, e_bin, e_neg, e_not, e_and, e_or, e_cmp, e_chain, e_ife, e_tup, e_lst, e_ix, e_slc, e_rev, e_fld, e_call, e_meth, e_make, e_bi, e_bm, e_isi, e_lc, e_frz, e_sp, cont_nil, wEs, wG, wGs, wI, wIf, wO, ge0, geS, wIx, wCmp, wBin, wAug, wBi, wBm, arrD, sq_lst, sq_frl, sq_tup, lq_lst, isi_int, isi_bl, isi_str, isi_non, isi_lst, isi_frl, isi_tup, sl_tup, sl_lst, sl_frl, rv_tup, rv_lst, rv_frl, st_lst, st_frl, st_tup, mset_same, bxs_at, newL, wipeD, isN_non, isN_int, isN_bl, isN_str, isN_tup, isN_lst, isN_obj, rng_irg, isTy, List.map_cons, List.map_nil, Nat.reduceSub, List.replicate_succ, List.replicate_zero, List.set_cons_zero, List.set_cons_succ, List.cons_append, List.nil_append, List.length_cons, List.length_nil, List.any_cons, List.any_nil, decide_eq_true_eq, Bool.not_eq_true', decide_eq_false_iff_not, if_true, if_false, reduceIte, Bool.false_eq_true, Bool.true_eq_false, Bool.not_true, Bool.not_false, true_and, and_true, Bool.or_false, Bool.or_true, Bool.true_or, Bool.false_or, beq_self_eq_true, List.getD_cons_zero, List.getD_cons_succ, not_true_eq_false, not_false_eq_true, ne_eq, Nat.zero_add, Nat.reduceAdd, Nat.reduceLeDiff, Int.reduceNeg, eq_self, List.length_map]
      refine ⟨cdw (by decide) (by decide), mulR (by decide), ?_⟩
      rw [hc]
      by_cases c1 : (fd.length : Int) < cap
      · simp only [startD, s_nil, s_cons, s_asg, s_par2, s_par3, s_aug, s_augS, s_expr, s_ret, s_retN, s_ite, s_for, s_brk, s_cnt, s_pass, s_never, for_step, lc_step, e_var, e_cst, e_bin, e_neg, e_not, e_and, e_or, e_cmp, e_chain, e_ife, e_tup, e_lst, e_ix, e_slc, e_rev, e_fld, e_call, e_meth, e_make, e_bi, e_bm, e_isi, e_lc, e_frz, e_sp, cont_nil, wEs, wG, wGs, wI, wIf, wO, ge0, geS, wIx, wCmp, wBin, wAug, wBi, wBm, arrD, sq_lst, sq_frl, sq_tup, lq_lst, isi_int, isi_bl, isi_str, isi_non, isi_lst, isi_frl, isi_tup, sl_tup, sl_lst, sl_frl, rv_tup, rv_lst, rv_frl, st_lst, st_frl, st_tup, mset_same, bxs_at, newL, wipeD, isN_non, isN_int, isN_bl, isN_str, isN_tup, isN_lst, isN_obj, rng_irg, isTy, List.map_cons, List.map_nil, Nat.reduceSub, List.replicate_succ, List.replicate_zero, List.set_cons_zero, List.set_cons_succ, List.cons_append, List.nil_append, List.length_cons, List.length_nil, List.any_cons, List.any_nil, decide_eq_true_eq, Bool.not_eq_true', decide_eq_false_iff_not, if_true, if_false, reduceIte, Bool.false_eq_true, Bool.true_eq_false, Bool.not_true, Bool.not_false, true_and, and_true, Bool.or_false, Bool.or_true, Bool.true_or, Bool.false_or, beq_self_eq_true, List.getD_cons_zero, List.getD_cons_succ, not_true_eq_false, not_false_eq_true, ne_eq, Nat.zero_add, Nat.reduceAdd, Nat.reduceLeDiff, Int.reduceNeg, eq_self, c1]
        refine ⟨cdw (by decide) (by decide), cdw (by decide) (by decide), ?_⟩
        refine ⟨small_le (by decide), small_le (by omega), ?_, ?_⟩
        · rw [List.length_append, List.length_map]; exact small_le (by simp; omega)
        have hs : m / 2 + x + 1 ∉ fd := fun q => by have := e3 _ q; omega
        have I2 := I.add (s := m / 2 + x + 1) hs (by omega)
        have e : fd.map Sw.D.int ++ [.int (m / 2 + x + 1), .int (m - m / 2 - x)] = (fd ++ [m / 2 + x + 1, m + 1 - (m / 2 + x + 1)]).map Sw.D.int := by
          rw [show m + 1 - (m / 2 + x + 1) = m - m / 2 - x by omega]; simp
        rw [e]
        refine hk _ _ ⟨rfl, _, _, rfl, I2, by simp; omega, by simp; omega, .inr (by simp; omega), fun z hz => ?_⟩
        rcases List.mem_append.mp hz with q | q
        · have := e3 z q; omega
        · simp only [List.mem_cons, List.not_mem_nil, or_false] at q
          rcases q with rfl | rfl <;> omega
      · simp only [startD, s_nil, s_cons, s_asg, s_par2, s_par3, s_aug, s_augS, s_expr, s_ret, s_retN, s_ite, s_for, s_brk, s_cnt, s_pass, s_never, for_step, lc_step, e_var, e_cst, e_bin, e_neg, e_not, e_and, e_or, e_cmp, e_chain, e_ife, e_tup, e_lst, e_ix, e_slc, e_rev, e_fld, e_call, e_meth, e_make, e_bi, e_bm, e_isi, e_lc, e_frz, e_sp, cont_nil, wEs, wG, wGs, wI, wIf, wO, ge0, geS, wIx, wCmp, wBin, wAug, wBi, wBm, arrD, sq_lst, sq_frl, sq_tup, lq_lst, isi_int, isi_bl, isi_str, isi_non, isi_lst, isi_frl, isi_tup, sl_tup, sl_lst, sl_frl, rv_tup, rv_lst, rv_frl, st_lst, st_frl, st_tup, mset_same, bxs_at, newL, wipeD, isN_non, isN_int, isN_bl, isN_str, isN_tup, isN_lst, isN_obj, rng_irg, isTy, List.map_cons, List.map_nil, Nat.reduceSub, List.replicate_succ, List.replicate_zero, List.set_cons_zero, List.set_cons_succ, List.cons_append, List.nil_append, List.length_cons, List.length_nil, List.any_cons, List.any_nil, decide_eq_true_eq, Bool.not_eq_true', decide_eq_false_iff_not, if_true, if_false, reduceIte, Bool.false_eq_true, Bool.true_eq_false, Bool.not_true, Bool.not_false, true_and, and_true, Bool.or_false, Bool.or_true, Bool.true_or, Bool.false_or, beq_self_eq_true, List.getD_cons_zero, List.getD_cons_succ, not_true_eq_false, not_false_eq_true, ne_eq, Nat.zero_add, Nat.reduceAdd, Nat.reduceLeDiff, Int.reduceNeg, eq_self, c1]
        refine hk _ _ ⟨rfl, fd, _, rfl, I, e1, e2, .inl (by omega), fun z hz => ?_⟩
        have := e3 z hz; omega
    · obtain ⟨rfl, fd, y6, rfl, I, e1, e2, e4, e3⟩ := hP
      rw [Nat.zero_add, irg_len, hl7] at e4
      have el : (fd.length : Int) = cap := by omega
      have fin : ∀ is : List Int, is.Nodup → (∀ x ∈ is, m + 1 - x ∈ is) → (is.length : Int) = top → ∀ out : List Int, out.Perm is → out.Pairwise (· ≤ ·) → rtn Φ (tI out) (bxs M' b B') := fun is n1 n2 n3 out hp ho => by
        have hs := strict_of ho (hp.nodup_iff.mpr n1)
        refine rtn_self (h out B' ⟨by have := hp.length_eq; omega, by have := hp.length_eq; omega, ups_of hs⟩ (by have := hp.length_eq; omega) (balB_of hs fun x hx => ?_) (hn.le (by rw [irg_len]; decide)))
        exact hp.mem_iff.mpr (n2 x (hp.mem_iff.mp hx))
      refine cont_step ?_
      simp only [startD, s_nil, s_cons, s_asg, s_par2, s_par3, s_aug, s_augS, s_expr, s_ret, s_retN, s_ite, s_for, s_brk, s_cnt, s_pass, s_never, for_step, lc_step, e_var, e_cst, e_bin, e_neg, e_not, e_and, e_or, e_cmp, e_chain, e_ife, e_tup, e_lst, e_ix, e_slc, e_rev, e_fld, e_call, e_meth, e_make, e_bi, e_bm, e_isi, e_lc, e_frz, e_sp, cont_nil, wEs, wG, wGs, wI, wIf, wO, ge0, geS, wIx, wCmp, wBin, wAug, wBi, wBm, arrD, sq_lst, sq_frl, sq_tup, lq_lst, isi_int, isi_bl, isi_str, isi_non, isi_lst, isi_frl, isi_tup, sl_tup, sl_lst, sl_frl, rv_tup, rv_lst, rv_frl, st_lst, st_frl, st_tup, mset_same, bxs_at, newL, wipeD, isN_non, isN_int, isN_bl, isN_str, isN_tup, isN_lst, isN_obj, rng_irg, isTy, List.map_cons, List.map_nil, Nat.reduceSub, List.replicate_succ, List.replicate_zero, List.set_cons_zero, List.set_cons_succ, List.cons_append, List.nil_append, List.length_cons, List.length_nil, List.any_cons, List.any_nil, decide_eq_true_eq, Bool.not_eq_true', decide_eq_false_iff_not, if_true, if_false, reduceIte, Bool.false_eq_true, Bool.true_eq_false, Bool.not_true, Bool.not_false, true_and, and_true, Bool.or_false, Bool.or_true, Bool.true_or, Bool.false_or, beq_self_eq_true, List.getD_cons_zero, List.getD_cons_succ, not_true_eq_false, not_false_eq_true, ne_eq, Nat.zero_add, Nat.reduceAdd, Nat.reduceLeDiff, Int.reduceNeg, eq_self, List.length_map]
      rcases Int.emod_two_eq top with q | q
      · rw [q]
        refine ⟨cdw (by decide) (by decide), small_le (by decide), by decide, by decide, by decide, small_le (by decide), small_le (by simp), small_le (by simp; omega), small_le (by simp; omega), ?_⟩
        simp only [show (0:Int).toNat = 0 from rfl, List.replicate_zero, List.flatten_nil, List.append_nil]
        refine wInts_l fun out hp ho => ⟨small_le (by have := hp.length_eq; omega), fin fd I.1 I.2 (by omega) out hp ho⟩
      · rw [q]
        have hm := hodd q
        have e : fd.map Sw.D.int ++ [.int ((m + 1) / 2)] = (fd ++ [(m + 1) / 2]).map Sw.D.int := by simp
        refine ⟨cdw (by decide) (by decide), small_le (by decide), by decide, by decide, by decide, small_le (by decide), small_le (by simp), small_le (by simp; omega), small_le (by simp; omega), ?_⟩
        simp only [show (1:Int).toNat = 1 from rfl, List.replicate_succ, List.replicate_zero, List.flatten_cons, List.flatten_nil, List.append_nil]
        rw [e]
        refine wInts_l fun out hp ho => ⟨small_le (by have := hp.length_eq; simp at this; omega), fin (fd ++ [(m + 1) / 2]) ?_ ?_ (by simp; omega) out hp ho⟩
        · refine List.nodup_append.mpr ⟨I.1, by simp, fun a ha b hb => ?_⟩
          rw [List.mem_singleton] at hb
          subst hb
          intro e; have := I.3 _ ha; omega
        · intro x hx
          rcases List.mem_append.mp hx with r | r
          · exact List.mem_append_left _ (I.2 x r)
          · rw [List.mem_singleton] at r
            subst r
            exact List.mem_append_right _ (by rw [List.mem_singleton]; omega)
end
end Pg
set_option maxRecDepth 100000
set_option maxHeartbeats 1000000
/-! Pj: middles told by tops; steps that balance at every place. -/
namespace Pg
open PySem Sw
def middle1 : Ss := (.cons (.ret (.bin false .Mult (.bi false .sum (.cons (.var 1) .nil)) (.bi false .sum (.cons (.lc false (.bin false .Mult (.var 4) (.var 5)) (.tup (.cons (.name 4) (.cons (.name 5) .nil))) (.zip false (.ix (.var 0) (.var 3)) (.var 2)) .no [4, 5]) .nil)))) .nil)
def isbal1 : Ss := (.cons (.ret (.bi false .all (.cons (.lc false (.cmp .Eq (.bin false .Add (.var 2) (.var 3)) (.bin false .Add (.var 1) (.cst (.int 1)))) (.tup (.cons (.name 2) (.cons (.name 3) .nil))) (.zip false (.var 0) (.rev false (.var 0))) .no [2, 3]) .nil))) .nil)
def balanced1 : Ss := (.cons (.asg (.name 4) (.bi false .len (.cons (.var 1) .nil))) (.cons (.asg (.name 5) (.lc false (.call "_law_pick" [.at_ 0, .at_ 1] (.cons (.var 0) (.cons (.lst false (.cons (.cst (.int 1)) (.cons (.cst (.int 2)) (.cons (.cst (.int 2)) (.cons (.cst (.int 3)) (.cons (.cst (.int 4)) .nil)))))) .nil)) .nil) (.name 10) (.range1 (.var 4)) .no [10])) (.cons (.for_ (.name 6) (.range1 (.var 4)) (.cons (.asg (.name 8) (.call "_law_middle" [.at_ 0, .at_ 1, .at_ 2, .at_ 3] (.cons (.var 1) (.cons (.var 2) (.cons (.var 5) (.cons (.var 6) .nil)))) .nil)) (.cons (.ite (.and (.cmp .Eq (.bin false .Mod (.ix (.var 5) (.var 6)) (.cst (.int 2))) (.cst (.int 1))) (.cmp .Eq (.bin false .Mod (.var 8) (.cst (.int 2))) (.cst (.int 0)))) (.cons (.asg (.name 5) (.lc false (.bin false .Add (.cst (.int 2)) (.bin false .Mult (.cst (.int 2)) (.bin false .FloorDiv (.var 9) (.cst (.int 3))))) (.name 9) (.seq (.var 5)) .no [9])) .nil) .nil) .nil))) (.cons (.asg (.name 7) (.lst true .nil)) (.cons (.for_ (.tup (.cons (.name 6) (.cons (.name 9) .nil))) (.enum (.var 5)) (.cons (.expr (.bm false .append (.var 7) (.cons (.call "_law_paired" [.at_ 0, .at_ 1, .at_ 2, .at_ 3] (.cons (.var 0) (.cons (.call "_law_middle" [.at_ 0, .at_ 1, .at_ 2, .at_ 3] (.cons (.var 1) (.cons (.var 2) (.cons (.var 5) (.cons (.var 6) .nil)))) .nil) (.cons (.var 9) (.cons (.var 3) .nil)))) .nil) .nil))) .nil)) (.cons (.ret (.frz (.var 7))) .nil))))))
section
variable {T : Tb} {k : Nat} {b : Addr} {B : Box} {Φ Ψ : CallC}
theorem middle_ok [Row T "_law_middle" ⟨"_law_middle", 4, 6, middle1⟩] {M : MM} {R : List (List Int)} {mm tops : List Int} {n : Nat} {i : Int} (hR : Sized n n R) (hn : n ≤ 1000) (htl : tops.length = n) (ht : ∀ t ∈ tops, 1 ≤ t ∧ t ≤ 4) (hm : -(2 ^ 64) < mm.sum ∧ mm.sum < 2 ^ 64) (h0 : 0 ≤ i) (hi : i < n)
    (h : Φ (.int (mm.sum * dot (R.getD i.toNat []) tops)) M) : callAt T (k + 1) "_law_middle" [.lst (R.map tI), tI mm, lI tops, .int i] M Φ Ψ := by
  have hr := hR.2 i.toNat (by omega)
  refine call_row rfl ?_
  simp only [startD, s_nil, s_cons, s_asg, s_par2, s_par3, s_aug, s_augS, s_expr, s_ret, s_retN, s_ite, s_for, s_brk, s_cnt, s_pass, s_never, for_step, lc_step, e_var, e_cst, e_bin, e_neg, e_not, e_and, e_or, e_cmp, e_chain, e_ife, e_tup, e_lst, e_ix, e_slc, e_rev, e_fld, e_call, e_meth, e_make, e_bi, e_bm, e_isi, e_lc, e_frz, e_sp, cont_nil, wEs, wG, wGs, wI, wIf, wO, ge0, geS, wIx, wCmp, wBin, wAug, wBi, wBm, arrD, sq_lst, sq_frl, sq_tup, lq_lst, isi_int, isi_bl, isi_str, isi_non, isi_lst, isi_frl, isi_tup, sl_tup, sl_lst, sl_frl, rv_tup, rv_lst, rv_frl, st_lst, st_frl, st_tup, mset_same, bxs_at, newL, wipeD, isN_non, isN_int, isN_bl, isN_str, isN_tup, isN_lst, isN_obj, rng_irg, isTy, List.map_cons, List.map_nil, Nat.reduceSub, List.replicate_succ, List.replicate_zero, List.set_cons_zero, List.set_cons_succ, List.cons_append, List.nil_append, List.length_cons, List.length_nil, List.any_cons, List.any_nil, decide_eq_true_eq, Bool.not_eq_true', decide_eq_false_iff_not, if_true, if_false, reduceIte, Bool.false_eq_true, Bool.true_eq_false, Bool.not_true, Bool.not_false, true_and, and_true, Bool.or_false, Bool.or_true, Bool.true_or, Bool.false_or, beq_self_eq_true, List.getD_cons_zero, List.getD_cons_succ, not_true_eq_false, not_false_eq_true, ne_eq, Nat.zero_add, Nat.reduceAdd, Nat.reduceLeDiff, Int.reduceNeg, eq_self, middle1, ints_id]
  refine atD_map (d := []) h0 (by rw [hR.1]; exact hi) ?_
  simp only [startD, s_nil, s_cons, s_asg, s_par2, s_par3, s_aug, s_augS, s_expr, s_ret, s_retN, s_ite, s_for, s_brk, s_cnt, s_pass, s_never, for_step, lc_step, e_var, e_cst, e_bin, e_neg, e_not, e_and, e_or, e_cmp, e_chain, e_ife, e_tup, e_lst, e_ix, e_slc, e_rev, e_fld, e_call, e_meth, e_make, e_bi, e_bm, e_isi, e_lc, e_frz, e_sp, cont_nil, wEs, wG, wGs, wI, wIf, wO, ge0, geS, wIx, wCmp, wBin, wAug, wBi, wBm, arrD, sq_lst, sq_frl, sq_tup, lq_lst, isi_int, isi_bl, isi_str, isi_non, isi_lst, isi_frl, isi_tup, sl_tup, sl_lst, sl_frl, rv_tup, rv_lst, rv_frl, st_lst, st_frl, st_tup, mset_same, bxs_at, newL, wipeD, isN_non, isN_int, isN_bl, isN_str, isN_tup, isN_lst, isN_obj, rng_irg, isTy, List.map_cons, List.map_nil, Nat.reduceSub, List.replicate_succ, List.replicate_zero, List.set_cons_zero, List.set_cons_succ, List.cons_append, List.nil_append, List.length_cons, List.length_nil, List.any_cons, List.any_nil, decide_eq_true_eq, Bool.not_eq_true', decide_eq_false_iff_not, if_true, if_false, reduceIte, Bool.false_eq_true, Bool.true_eq_false, Bool.not_true, Bool.not_false, true_and, and_true, Bool.or_false, Bool.or_true, Bool.true_or, Bool.false_or, beq_self_eq_true, List.getD_cons_zero, List.getD_cons_succ, not_true_eq_false, not_false_eq_true, ne_eq, Nat.zero_add, Nat.reduceAdd, Nat.reduceLeDiff, Int.reduceNeg, eq_self, pairs_map, List.length_map, List.length_zip, hr, htl]
  refine ⟨fun _ => trivial, small_size (by omega), ?_⟩
  refine lc_map (fun p => .int (p.1 * p.2)) trivial (fun p hp kk hk => ?_) ?_
  · have := ht p.2 (List.of_mem_zip hp).2
    simp only [startD, s_nil, s_cons, s_asg, s_par2, s_par3, s_aug, s_augS, s_expr, s_ret, s_retN, s_ite, s_for, s_brk, s_cnt, s_pass, s_never, for_step, lc_step, e_var, e_cst, e_bin, e_neg, e_not, e_and, e_or, e_cmp, e_chain, e_ife, e_tup, e_lst, e_ix, e_slc, e_rev, e_fld, e_call, e_meth, e_make, e_bi, e_bm, e_isi, e_lc, e_frz, e_sp, cont_nil, wEs, wG, wGs, wI, wIf, wO, ge0, geS, wIx, wCmp, wBin, wAug, wBi, wBm, arrD, sq_lst, sq_frl, sq_tup, lq_lst, isi_int, isi_bl, isi_str, isi_non, isi_lst, isi_frl, isi_tup, sl_tup, sl_lst, sl_frl, rv_tup, rv_lst, rv_frl, st_lst, st_frl, st_tup, mset_same, bxs_at, newL, wipeD, isN_non, isN_int, isN_bl, isN_str, isN_tup, isN_lst, isN_obj, rng_irg, isTy, List.map_cons, List.map_nil, Nat.reduceSub, List.replicate_succ, List.replicate_zero, List.set_cons_zero, List.set_cons_succ, List.cons_append, List.nil_append, List.length_cons, List.length_nil, List.any_cons, List.any_nil, decide_eq_true_eq, Bool.not_eq_true', decide_eq_false_iff_not, if_true, if_false, reduceIte, Bool.false_eq_true, Bool.true_eq_false, Bool.not_true, Bool.not_false, true_and, and_true, Bool.or_false, Bool.or_true, Bool.true_or, Bool.false_or, beq_self_eq_true, List.getD_cons_zero, List.getD_cons_succ, not_true_eq_false, not_false_eq_true, ne_eq, Nat.zero_add, Nat.reduceAdd, Nat.reduceLeDiff, Int.reduceNeg, eq_self]
    exact ⟨mulR (by omega), hk⟩
  · simp only [startD, s_nil, s_cons, s_asg, s_par2, s_par3, s_aug, s_augS, s_expr, s_ret, s_retN, s_ite, s_for, s_brk, s_cnt, s_pass, s_never, for_step, lc_step, e_var, e_cst, e_bin, e_neg, e_not, e_and, e_or, e_cmp, e_chain, e_ife, e_tup, e_lst, e_ix, e_slc, e_rev, e_fld, e_call, e_meth, e_make, e_bi, e_bm, e_isi, e_lc, e_frz, e_sp, cont_nil, wEs, wG, wGs, wI, wIf, wO, ge0, geS, wIx, wCmp, wBin, wAug, wBi, wBm, arrD, sq_lst, sq_frl, sq_tup, lq_lst, isi_int, isi_bl, isi_str, isi_non, isi_lst, isi_frl, isi_tup, sl_tup, sl_lst, sl_frl, rv_tup, rv_lst, rv_frl, st_lst, st_frl, st_tup, mset_same, bxs_at, newL, wipeD, isN_non, isN_int, isN_bl, isN_str, isN_tup, isN_lst, isN_obj, rng_irg, isTy, List.map_cons, List.map_nil, Nat.reduceSub, List.replicate_succ, List.replicate_zero, List.set_cons_zero, List.set_cons_succ, List.cons_append, List.nil_append, List.length_cons, List.length_nil, List.any_cons, List.any_nil, decide_eq_true_eq, Bool.not_eq_true', decide_eq_false_iff_not, if_true, if_false, reduceIte, Bool.false_eq_true, Bool.true_eq_false, Bool.not_true, Bool.not_false, true_and, and_true, Bool.or_false, Bool.or_true, Bool.true_or, Bool.false_or, beq_self_eq_true, List.getD_cons_zero, List.getD_cons_succ, not_true_eq_false, not_false_eq_true, ne_eq, Nat.zero_add, Nat.reduceAdd, Nat.reduceLeDiff, Int.reduceNeg, eq_self, List.length_map, List.length_zip, hr, htl, ints_map]
    exact ⟨small_le (by omega), mulL hm, rtn_self h⟩
theorem isbal_ok [Row T "_law_is_balanced" ⟨"_law_is_balanced", 2, 4, isbal1⟩] {M : MM} {ns : List Int} {m : Int} (hl : ns.length ≤ 1000) (h : Φ (.bl (balB ns (m + 1))) M) : callAt T (k + 1) "_law_is_balanced" [tI ns, .int m] M Φ Ψ := by
  refine call_row rfl ?_
  simp only [startD, s_nil, s_cons, s_asg, s_par2, s_par3, s_aug, s_augS, s_expr, s_ret, s_retN, s_ite, s_for, s_brk, s_cnt, s_pass, s_never, for_step, lc_step, e_var, e_cst, e_bin, e_neg, e_not, e_and, e_or, e_cmp, e_chain, e_ife, e_tup, e_lst, e_ix, e_slc, e_rev, e_fld, e_call, e_meth, e_make, e_bi, e_bm, e_isi, e_lc, e_frz, e_sp, cont_nil, wEs, wG, wGs, wI, wIf, wO, ge0, geS, wIx, wCmp, wBin, wAug, wBi, wBm, arrD, sq_lst, sq_frl, sq_tup, lq_lst, isi_int, isi_bl, isi_str, isi_non, isi_lst, isi_frl, isi_tup, sl_tup, sl_lst, sl_frl, rv_tup, rv_lst, rv_frl, st_lst, st_frl, st_tup, mset_same, bxs_at, newL, wipeD, isN_non, isN_int, isN_bl, isN_str, isN_tup, isN_lst, isN_obj, rng_irg, isTy, List.map_cons, List.map_nil, Nat.reduceSub, List.replicate_succ, List.replicate_zero, List.set_cons_zero, List.set_cons_succ, List.cons_append, List.nil_append, List.length_cons, List.length_nil, List.any_cons, List.any_nil, decide_eq_true_eq, Bool.not_eq_true', decide_eq_false_iff_not, if_true, if_false, reduceIte, Bool.false_eq_true, Bool.true_eq_false, Bool.not_true, Bool.not_false, true_and, and_true, Bool.or_false, Bool.or_true, Bool.true_or, Bool.false_or, beq_self_eq_true, List.getD_cons_zero, List.getD_cons_succ, not_true_eq_false, not_false_eq_true, ne_eq, Nat.zero_add, Nat.reduceAdd, Nat.reduceLeDiff, Int.reduceNeg, eq_self, isbal1, ← List.map_reverse, pairs_map, List.length_map, List.length_zip, List.length_reverse]
  refine ⟨fun _ => trivial, small_size (by omega), ?_⟩
  refine lc_map (fun p => .bl (decide (p.1 + p.2 = m + 1))) trivial (fun p hp kk hk => ?_) ?_
  · simp only [startD, s_nil, s_cons, s_asg, s_par2, s_par3, s_aug, s_augS, s_expr, s_ret, s_retN, s_ite, s_for, s_brk, s_cnt, s_pass, s_never, for_step, lc_step, e_var, e_cst, e_bin, e_neg, e_not, e_and, e_or, e_cmp, e_chain, e_ife, e_tup, e_lst, e_ix, e_slc, e_rev, e_fld, e_call, e_meth, e_make, e_bi, e_bm, e_isi, e_lc, e_frz, e_sp, cont_nil, wEs, wG, wGs, wI, wIf, wO, ge0, geS, wIx, wCmp, wBin, wAug, wBi, wBm, arrD, sq_lst, sq_frl, sq_tup, lq_lst, isi_int, isi_bl, isi_str, isi_non, isi_lst, isi_frl, isi_tup, sl_tup, sl_lst, sl_frl, rv_tup, rv_lst, rv_frl, st_lst, st_frl, st_tup, mset_same, bxs_at, newL, wipeD, isN_non, isN_int, isN_bl, isN_str, isN_tup, isN_lst, isN_obj, rng_irg, isTy, List.map_cons, List.map_nil, Nat.reduceSub, List.replicate_succ, List.replicate_zero, List.set_cons_zero, List.set_cons_succ, List.cons_append, List.nil_append, List.length_cons, List.length_nil, List.any_cons, List.any_nil, decide_eq_true_eq, Bool.not_eq_true', decide_eq_false_iff_not, if_true, if_false, reduceIte, Bool.false_eq_true, Bool.true_eq_false, Bool.not_true, Bool.not_false, true_and, and_true, Bool.or_false, Bool.or_true, Bool.true_or, Bool.false_or, beq_self_eq_true, List.getD_cons_zero, List.getD_cons_succ, not_true_eq_false, not_false_eq_true, ne_eq, Nat.zero_add, Nat.reduceAdd, Nat.reduceLeDiff, Int.reduceNeg, eq_self]
    exact hk
  · simp only [startD, s_nil, s_cons, s_asg, s_par2, s_par3, s_aug, s_augS, s_expr, s_ret, s_retN, s_ite, s_for, s_brk, s_cnt, s_pass, s_never, for_step, lc_step, e_var, e_cst, e_bin, e_neg, e_not, e_and, e_or, e_cmp, e_chain, e_ife, e_tup, e_lst, e_ix, e_slc, e_rev, e_fld, e_call, e_meth, e_make, e_bi, e_bm, e_isi, e_lc, e_frz, e_sp, cont_nil, wEs, wG, wGs, wI, wIf, wO, ge0, geS, wIx, wCmp, wBin, wAug, wBi, wBm, arrD, sq_lst, sq_frl, sq_tup, lq_lst, isi_int, isi_bl, isi_str, isi_non, isi_lst, isi_frl, isi_tup, sl_tup, sl_lst, sl_frl, rv_tup, rv_lst, rv_frl, st_lst, st_frl, st_tup, mset_same, bxs_at, newL, wipeD, isN_non, isN_int, isN_bl, isN_str, isN_tup, isN_lst, isN_obj, rng_irg, isTy, List.map_cons, List.map_nil, Nat.reduceSub, List.replicate_succ, List.replicate_zero, List.set_cons_zero, List.set_cons_succ, List.cons_append, List.nil_append, List.length_cons, List.length_nil, List.any_cons, List.any_nil, decide_eq_true_eq, Bool.not_eq_true', decide_eq_false_iff_not, if_true, if_false, reduceIte, Bool.false_eq_true, Bool.true_eq_false, Bool.not_true, Bool.not_false, true_and, and_true, Bool.or_false, Bool.or_true, Bool.true_or, Bool.false_or, beq_self_eq_true, List.getD_cons_zero, List.getD_cons_succ, not_true_eq_false, not_false_eq_true, ne_eq, Nat.zero_add, Nat.reduceAdd, Nat.reduceLeDiff, Int.reduceNeg, eq_self, bls_map, List.length_map, List.length_zip, List.length_reverse]
    exact ⟨small_le (by omega), rtn_self h⟩
/-- the middle of place i, by the tops -/
def mid (R : List (List Int)) (mm tops : List Int) (i : Nat) : Int := mm.sum * dot (R.getD i []) tops
theorem balanced_ok [CTake T] [Row T "_law_pick" ⟨"_law_pick", 2, 2, pick1⟩] [Row T "_law_middle" ⟨"_law_middle", 4, 6, middle1⟩] [Row T "_law_paired" ⟨"_law_paired", 4, 8, paired1⟩] [Row T "_law_balanced" ⟨"_law_balanced", 4, 11, balanced1⟩]
    {M : MM} {R : List (List Int)} {mm : List Int} {n : Nat} {r : Int} (hR : Sized n n R) (hn : n ≤ 1000) (hm : -(2 ^ 64) < mm.sum ∧ mm.sum < 2 ^ 64) (hr : 1 ≤ r ∧ r ≤ 2 ^ 20) (hB : Rdy (41 * n) B)
    (h : ∀ (nss : List (List Int)) B', nss.length = n → (∀ i, i < n → StepsOk (nss.getD i []) ∧ 1 ≤ (nss.getD i []).length ∧ (nss.getD i []).length ≤ 4 ∧ balB (nss.getD i []) (mid R mm (nss.map fun ns => (ns.length : Int)) i + 1) = true) → Nx (41 * n) B B' → Φ (.lst (nss.map tI)) (bxs M b B')) :
    callAt T (k + 3) "_law_balanced" [.loc b, .lst (R.map tI), tI mm, .int r] (bxs M b B) Φ Ψ := by
  refine call_row rfl ?_
  simp only [startD, s_nil, s_cons, s_asg, s_par2, s_par3, s_aug, s_augS, s_expr, s_ret, s_retN, s_ite, s_for, s_brk, s_cnt, s_pass, s_never, for_step, lc_step, e_var, e_cst, e_bin, e_neg, e_not, e_and, e_or, e_cmp, e_chain, e_ife, e_tup, e_lst, e_ix, e_slc, e_rev, e_fld, e_call, e_meth, e_make, e_bi, e_bm, e_isi, e_lc, e_frz, e_sp, cont_nil, wEs, wG, wGs, wI, wIf, wO, ge0, geS, wIx, wCmp, wBin, wAug, wBi, wBm, arrD, sq_lst, sq_frl, sq_tup, lq_lst, isi_int, isi_bl, isi_str, isi_non, isi_lst, isi_frl, isi_tup, sl_tup, sl_lst, sl_frl, rv_tup, rv_lst, rv_frl, st_lst, st_frl, st_tup, mset_same, bxs_at, newL, wipeD, isN_non, isN_int, isN_bl, isN_str, isN_tup, isN_lst, isN_obj, rng_irg, isTy, List.map_cons, List.map_nil, Nat.reduceSub, List.replicate_succ, List.replicate_zero, List.set_cons_zero, List.set_cons_succ, List.cons_append, List.nil_append, List.length_cons, List.length_nil, List.any_cons, List.any_nil, decide_eq_true_eq, Bool.not_eq_true', decide_eq_false_iff_not, if_true, if_false, reduceIte, Bool.false_eq_true, Bool.true_eq_false, Bool.not_true, Bool.not_false, true_and, and_true, Bool.or_false, Bool.or_true, Bool.true_or, Bool.false_or, beq_self_eq_true, List.getD_cons_zero, List.getD_cons_succ, not_true_eq_false, not_false_eq_true, ne_eq, Nat.zero_add, Nat.reduceAdd, Nat.reduceLeDiff, Int.reduceNeg, eq_self, balanced1, List.length_map]
  rw [hR.1]
  refine cont_step ?_
  simp only [startD, s_nil, s_cons, s_asg, s_par2, s_par3, s_aug, s_augS, s_expr, s_ret, s_retN, s_ite, s_for, s_brk, s_cnt, s_pass, s_never, for_step, lc_step, e_var, e_cst, e_bin, e_neg, e_not, e_and, e_or, e_cmp, e_chain, e_ife, e_tup, e_lst, e_ix, e_slc, e_rev, e_fld, e_call, e_meth, e_make, e_bi, e_bm, e_isi, e_lc, e_frz, e_sp, cont_nil, wEs, wG, wGs, wI, wIf, wO, ge0, geS, wIx, wCmp, wBin, wAug, wBi, wBm, arrD, sq_lst, sq_frl, sq_tup, lq_lst, isi_int, isi_bl, isi_str, isi_non, isi_lst, isi_frl, isi_tup, sl_tup, sl_lst, sl_frl, rv_tup, rv_lst, rv_frl, st_lst, st_frl, st_tup, mset_same, bxs_at, newL, wipeD, isN_non, isN_int, isN_bl, isN_str, isN_tup, isN_lst, isN_obj, rng_irg, isTy, List.map_cons, List.map_nil, Nat.reduceSub, List.replicate_succ, List.replicate_zero, List.set_cons_zero, List.set_cons_succ, List.cons_append, List.nil_append, List.length_cons, List.length_nil, List.any_cons, List.any_nil, decide_eq_true_eq, Bool.not_eq_true', decide_eq_false_iff_not, if_true, if_false, reduceIte, Bool.false_eq_true, Bool.true_eq_false, Bool.not_true, Bool.not_false, true_and, and_true, Bool.or_false, Bool.or_true, Bool.true_or, Bool.false_or, beq_self_eq_true, List.getD_cons_zero, List.getD_cons_succ, not_true_eq_false, not_false_eq_true, ne_eq, Nat.zero_add, Nat.reduceAdd, Nat.reduceLeDiff, Int.reduceNeg, eq_self, List.length_map]
  refine ⟨by omega, by omega, small_size (by rw [irg_len]; omega), ?_⟩
  refine lcb Sw.D.int (fun _ y => 1 ≤ y ∧ y ≤ 4) 1 (40 * n) (fun _ => trivial) (hB.le (by rw [irg_len]; omega)) (fun x hx B' kk hr hk => ?_) fun ys B1 ha hr1 hn1 => ?_
  · simp only [startD, s_nil, s_cons, s_asg, s_par2, s_par3, s_aug, s_augS, s_expr, s_ret, s_retN, s_ite, s_for, s_brk, s_cnt, s_pass, s_never, for_step, lc_step, e_var, e_cst, e_bin, e_neg, e_not, e_and, e_or, e_cmp, e_chain, e_ife, e_tup, e_lst, e_ix, e_slc, e_rev, e_fld, e_call, e_meth, e_make, e_bi, e_bm, e_isi, e_lc, e_frz, e_sp, cont_nil, wEs, wG, wGs, wI, wIf, wO, ge0, geS, wIx, wCmp, wBin, wAug, wBi, wBm, arrD, sq_lst, sq_frl, sq_tup, lq_lst, isi_int, isi_bl, isi_str, isi_non, isi_lst, isi_frl, isi_tup, sl_tup, sl_lst, sl_frl, rv_tup, rv_lst, rv_frl, st_lst, st_frl, st_tup, mset_same, bxs_at, newL, wipeD, isN_non, isN_int, isN_bl, isN_str, isN_tup, isN_lst, isN_obj, rng_irg, isTy, List.map_cons, List.map_nil, Nat.reduceSub, List.replicate_succ, List.replicate_zero, List.set_cons_zero, List.set_cons_succ, List.cons_append, List.nil_append, List.length_cons, List.length_nil, List.any_cons, List.any_nil, decide_eq_true_eq, Bool.not_eq_true', decide_eq_false_iff_not, if_true, if_false, reduceIte, Bool.false_eq_true, Bool.true_eq_false, Bool.not_true, Bool.not_false, true_and, and_true, Bool.or_false, Bool.or_true, Bool.true_or, Bool.false_or, beq_self_eq_true, List.getD_cons_zero, List.getD_cons_succ, not_true_eq_false, not_false_eq_true, ne_eq, Nat.zero_add, Nat.reduceAdd, Nat.reduceLeDiff, Int.reduceNeg, eq_self]
    refine ⟨small_le (by decide), ?_⟩
    refine pick_ok (hr.le (by omega)) (xs := [.int 1, .int 2, .int 2, .int 3, .int 4]) (fun _ => rfl) (by simp) (by decide) fun x B4 hx h4 => ?_
    simp only [List.mem_cons, List.not_mem_nil, or_false] at hx
    rcases hx with rfl | rfl | rfl | rfl | rfl
    · exact hk 1 B4 (by omega) h4
    · exact hk 2 B4 (by omega) h4
    · exact hk 2 B4 (by omega) h4
    · exact hk 3 B4 (by omega) h4
    · exact hk 4 B4 (by omega) h4
  have hyl := ha.len
  rw [irg_len] at hyl
  simp only [startD, s_nil, s_cons, s_asg, s_par2, s_par3, s_aug, s_augS, s_expr, s_ret, s_retN, s_ite, s_for, s_brk, s_cnt, s_pass, s_never, for_step, lc_step, e_var, e_cst, e_bin, e_neg, e_not, e_and, e_or, e_cmp, e_chain, e_ife, e_tup, e_lst, e_ix, e_slc, e_rev, e_fld, e_call, e_meth, e_make, e_bi, e_bm, e_isi, e_lc, e_frz, e_sp, cont_nil, wEs, wG, wGs, wI, wIf, wO, ge0, geS, wIx, wCmp, wBin, wAug, wBi, wBm, arrD, sq_lst, sq_frl, sq_tup, lq_lst, isi_int, isi_bl, isi_str, isi_non, isi_lst, isi_frl, isi_tup, sl_tup, sl_lst, sl_frl, rv_tup, rv_lst, rv_frl, st_lst, st_frl, st_tup, mset_same, bxs_at, newL, wipeD, isN_non, isN_int, isN_bl, isN_str, isN_tup, isN_lst, isN_obj, rng_irg, isTy, List.map_cons, List.map_nil, Nat.reduceSub, List.replicate_succ, List.replicate_zero, List.set_cons_zero, List.set_cons_succ, List.cons_append, List.nil_append, List.length_cons, List.length_nil, List.any_cons, List.any_nil, decide_eq_true_eq, Bool.not_eq_true', decide_eq_false_iff_not, if_true, if_false, reduceIte, Bool.false_eq_true, Bool.true_eq_false, Bool.not_true, Bool.not_false, true_and, and_true, Bool.or_false, Bool.or_true, Bool.true_or, Bool.false_or, beq_self_eq_true, List.getD_cons_zero, List.getD_cons_succ, not_true_eq_false, not_false_eq_true, ne_eq, Nat.zero_add, Nat.reduceAdd, Nat.reduceLeDiff, Int.reduceNeg, eq_self, List.length_map]
  refine ⟨small_le (by omega), ?_⟩
  refine cont_step ?_
  simp only [startD, s_nil, s_cons, s_asg, s_par2, s_par3, s_aug, s_augS, s_expr, s_ret, s_retN, s_ite, s_for, s_brk, s_cnt, s_pass, s_never, for_step, lc_step, e_var, e_cst, e_bin, e_neg, e_not, e_and, e_or, e_cmp, e_chain, e_ife, e_tup, e_lst, e_ix, e_slc, e_rev, e_fld, e_call, e_meth, e_make, e_bi, e_bm, e_isi, e_lc, e_frz, e_sp, cont_nil, wEs, wG, wGs, wI, wIf, wO, ge0, geS, wIx, wCmp, wBin, wAug, wBi, wBm, arrD, sq_lst, sq_frl, sq_tup, lq_lst, isi_int, isi_bl, isi_str, isi_non, isi_lst, isi_frl, isi_tup, sl_tup, sl_lst, sl_frl, rv_tup, rv_lst, rv_frl, st_lst, st_frl, st_tup, mset_same, bxs_at, newL, wipeD, isN_non, isN_int, isN_bl, isN_str, isN_tup, isN_lst, isN_obj, rng_irg, isTy, List.map_cons, List.map_nil, Nat.reduceSub, List.replicate_succ, List.replicate_zero, List.set_cons_zero, List.set_cons_succ, List.cons_append, List.nil_append, List.length_cons, List.length_nil, List.any_cons, List.any_nil, decide_eq_true_eq, Bool.not_eq_true', decide_eq_false_iff_not, if_true, if_false, reduceIte, Bool.false_eq_true, Bool.true_eq_false, Bool.not_true, Bool.not_false, true_and, and_true, Bool.or_false, Bool.or_true, Bool.true_or, Bool.false_or, beq_self_eq_true, List.getD_cons_zero, List.getD_cons_succ, not_true_eq_false, not_false_eq_true, ne_eq, Nat.zero_add, Nat.reduceAdd, Nat.reduceLeDiff, Int.reduceNeg, eq_self]
  refine ⟨by omega, by omega, ?_⟩
  refine for_inv (e := Sw.D.int) (fun i Γ M' => M' = bxs M b B1 ∧ ∃ (tops : List Int) (y6 y8 y9 y10 : Option Sw.D), Γ = [some (.loc b), some (.lst (R.map tI)), some (tI mm), some (.int r), some (.int n), some (lI tops), y6, none, y8, y9, y10] ∧ tops.length = n ∧ (∀ t ∈ tops, 1 ≤ t ∧ t ≤ 4) ∧ ∀ j, j < i → tops.getD j 0 % 2 = 1 → mid R mm tops j % 2 = 1) (fun _ _ _ _ => trivial) (i := 0)
    ⟨rfl, ys, none, none, none, none, rfl, by omega, fun y hy => (ha.mem hy).elim fun _ q => q.2, fun _ q => absurd q (by omega)⟩ (fun j x hx Γ M' kk hP hk => ?_) (fun Γ' M' hP => ?_)
  · obtain ⟨rfl, tops, y6, y8, y9, y10, rfl, tl, tb, I⟩ := hP
    obtain ⟨ex, hj⟩ := irg_get hx
    have ex2 : x.toNat = j := by omega
    simp only [startD, s_nil, s_cons, s_asg, s_par2, s_par3, s_aug, s_augS, s_expr, s_ret, s_retN, s_ite, s_for, s_brk, s_cnt, s_pass, s_never, for_step, lc_step, e_var, e_cst, e_bin, e_neg, e_not, e_and, e_or, e_cmp, e_chain, e_ife, e_tup, e_lst, e_ix, e_slc, e_rev, e_fld, e_call, e_meth, e_make, e_bi, e_bm, e_isi, e_lc, e_frz, e_sp, cont_nil, wEs, wG, wGs, wI, wIf, wO, ge0, geS, wIx, wCmp, wBin, wAug, wBi, wBm, arrD, sq_lst, sq_frl, sq_tup, lq_lst, isi_int, isi_bl, isi_str, isi_non, isi_lst, isi_frl, isi_tup, sl_tup, sl_lst, sl_frl, rv_tup, rv_lst, rv_frl, st_lst, st_frl, st_tup, mset_same, bxs_at, newL, wipeD, isN_non, isN_int, isN_bl, isN_str, isN_tup, isN_lst, isN_obj, rng_irg, isTy, List.map_cons, List.map_nil, Nat.reduceSub, List.replicate_succ, List.replicate_zero, List.set_cons_zero, List.set_cons_succ, List.cons_append, List.nil_append, List.length_cons, List.length_nil, List.any_cons, List.any_nil, decide_eq_true_eq, Bool.not_eq_true', decide_eq_false_iff_not, if_true, if_false, reduceIte, Bool.false_eq_true, Bool.true_eq_false, Bool.not_true, Bool.not_false, true_and, and_true, Bool.or_false, Bool.or_true, Bool.true_or, Bool.false_or, beq_self_eq_true, List.getD_cons_zero, List.getD_cons_succ, not_true_eq_false, not_false_eq_true, ne_eq, Nat.zero_add, Nat.reduceAdd, Nat.reduceLeDiff, Int.reduceNeg, eq_self]
    refine middle_ok hR hn tl tb hm (by omega) (by omega) ?_
    refine cont_step ?_
    simp only [startD, s_nil, s_cons, s_asg, s_par2, s_par3, s_aug, s_augS, s_expr, s_ret, s_retN, s_ite, s_for, s_brk, s_cnt, s_pass, s_never, for_step, lc_step, e_var, e_cst, e_bin, e_neg, e_not, e_and, e_or, e_cmp, e_chain, e_ife, e_tup, e_lst, e_ix, e_slc, e_rev, e_fld, e_call, e_meth, e_make, e_bi, e_bm, e_isi, e_lc, e_frz, e_sp, cont_nil, wEs, wG, wGs, wI, wIf, wO, ge0, geS, wIx, wCmp, wBin, wAug, wBi, wBm, arrD, sq_lst, sq_frl, sq_tup, lq_lst, isi_int, isi_bl, isi_str, isi_non, isi_lst, isi_frl, isi_tup, sl_tup, sl_lst, sl_frl, rv_tup, rv_lst, rv_frl, st_lst, st_frl, st_tup, mset_same, bxs_at, newL, wipeD, isN_non, isN_int, isN_bl, isN_str, isN_tup, isN_lst, isN_obj, rng_irg, isTy, List.map_cons, List.map_nil, Nat.reduceSub, List.replicate_succ, List.replicate_zero, List.set_cons_zero, List.set_cons_succ, List.cons_append, List.nil_append, List.length_cons, List.length_nil, List.any_cons, List.any_nil, decide_eq_true_eq, Bool.not_eq_true', decide_eq_false_iff_not, if_true, if_false, reduceIte, Bool.false_eq_true, Bool.true_eq_false, Bool.not_true, Bool.not_false, true_and, and_true, Bool.or_false, Bool.or_true, Bool.true_or, Bool.false_or, beq_self_eq_true, List.getD_cons_zero, List.getD_cons_succ, not_true_eq_false, not_false_eq_true, ne_eq, Nat.zero_add, Nat.reduceAdd, Nat.reduceLeDiff, Int.reduceNeg, eq_self]
    refine atD_int (by omega) (by omega) ?_
    simp only [startD, s_nil, s_cons, s_asg, s_par2, s_par3, s_aug, s_augS, s_expr, s_ret, s_retN, s_ite, s_for, s_brk, s_cnt, s_pass, s_never, for_step, lc_step, e_var, e_cst, e_bin, e_neg, e_not, e_and, e_or, e_cmp, e_chain, e_ife, e_tup, e_lst, e_ix, e_slc, e_rev, e_fld, e_call, e_meth, e_make, e_bi, e_bm, e_isi, e_lc, e_frz, e_sp, cont_nil, wEs, wG, wGs, wI, wIf, wO, ge0, geS, wIx, wCmp, wBin, wAug, wBi, wBm, arrD, sq_lst, sq_frl, sq_tup, lq_lst, isi_int, isi_bl, isi_str, isi_non, isi_lst, isi_frl, isi_tup, sl_tup, sl_lst, sl_frl, rv_tup, rv_lst, rv_frl, st_lst, st_frl, st_tup, mset_same, bxs_at, newL, wipeD, isN_non, isN_int, isN_bl, isN_str, isN_tup, isN_lst, isN_obj, rng_irg, isTy, List.map_cons, List.map_nil, Nat.reduceSub, List.replicate_succ, List.replicate_zero, List.set_cons_zero, List.set_cons_succ, List.cons_append, List.nil_append, List.length_cons, List.length_nil, List.any_cons, List.any_nil, decide_eq_true_eq, Bool.not_eq_true', decide_eq_false_iff_not, if_true, if_false, reduceIte, Bool.false_eq_true, Bool.true_eq_false, Bool.not_true, Bool.not_false, true_and, and_true, Bool.or_false, Bool.or_true, Bool.true_or, Bool.false_or, beq_self_eq_true, List.getD_cons_zero, List.getD_cons_succ, not_true_eq_false, not_false_eq_true, ne_eq, Nat.zero_add, Nat.reduceAdd, Nat.reduceLeDiff, Int.reduceNeg, eq_self]
    refine ⟨by decide, ?_⟩
    rw [ex2]
    have even : ∀ t : Int, 1 ≤ t → t ≤ 4 → (2 + 2 * (t / 3)) % 2 = 0 ∧ 1 ≤ 2 + 2 * (t / 3) ∧ 2 + 2 * (t / 3) ≤ 4 := fun t _ _ => by omega
    by_cases c1 : tops.getD j 0 % 2 = 1
    · simp only [startD, s_nil, s_cons, s_asg, s_par2, s_par3, s_aug, s_augS, s_expr, s_ret, s_retN, s_ite, s_for, s_brk, s_cnt, s_pass, s_never, for_step, lc_step, e_var, e_cst, e_bin, e_neg, e_not, e_and, e_or, e_cmp, e_chain, e_ife, e_tup, e_lst, e_ix, e_slc, e_rev, e_fld, e_call, e_meth, e_make, e_bi, e_bm, e_isi, e_lc, e_frz, e_sp, cont_nil, wEs, wG, wGs, wI, wIf, wO, ge0, geS, wIx, wCmp, wBin, wAug, wBi, wBm, arrD, sq_lst, sq_frl, sq_tup, lq_lst, isi_int, isi_bl, isi_str, isi_non, isi_lst, isi_frl, isi_tup, sl_tup, sl_lst, sl_frl, rv_tup, rv_lst, rv_frl, st_lst, st_frl, st_tup, mset_same, bxs_at, newL, wipeD, isN_non, isN_int, isN_bl, isN_str, isN_tup, isN_lst, isN_obj, rng_irg, isTy, List.map_cons, List.map_nil, Nat.reduceSub, List.replicate_succ, List.replicate_zero, List.set_cons_zero, List.set_cons_succ, List.cons_append, List.nil_append, List.length_cons, List.length_nil, List.any_cons, List.any_nil, decide_eq_true_eq, Bool.not_eq_true', decide_eq_false_iff_not, if_true, if_false, reduceIte, Bool.false_eq_true, Bool.true_eq_false, Bool.not_true, Bool.not_false, true_and, and_true, Bool.or_false, Bool.or_true, Bool.true_or, Bool.false_or, beq_self_eq_true, List.getD_cons_zero, List.getD_cons_succ, not_true_eq_false, not_false_eq_true, ne_eq, Nat.zero_add, Nat.reduceAdd, Nat.reduceLeDiff, Int.reduceNeg, eq_self, c1]
      refine ⟨by decide, ?_⟩
      by_cases c2 : mm.sum * dot (R.getD j []) tops % 2 = 0
      · simp only [startD, s_nil, s_cons, s_asg, s_par2, s_par3, s_aug, s_augS, s_expr, s_ret, s_retN, s_ite, s_for, s_brk, s_cnt, s_pass, s_never, for_step, lc_step, e_var, e_cst, e_bin, e_neg, e_not, e_and, e_or, e_cmp, e_chain, e_ife, e_tup, e_lst, e_ix, e_slc, e_rev, e_fld, e_call, e_meth, e_make, e_bi, e_bm, e_isi, e_lc, e_frz, e_sp, cont_nil, wEs, wG, wGs, wI, wIf, wO, ge0, geS, wIx, wCmp, wBin, wAug, wBi, wBm, arrD, sq_lst, sq_frl, sq_tup, lq_lst, isi_int, isi_bl, isi_str, isi_non, isi_lst, isi_frl, isi_tup, sl_tup, sl_lst, sl_frl, rv_tup, rv_lst, rv_frl, st_lst, st_frl, st_tup, mset_same, bxs_at, newL, wipeD, isN_non, isN_int, isN_bl, isN_str, isN_tup, isN_lst, isN_obj, rng_irg, isTy, List.map_cons, List.map_nil, Nat.reduceSub, List.replicate_succ, List.replicate_zero, List.set_cons_zero, List.set_cons_succ, List.cons_append, List.nil_append, List.length_cons, List.length_nil, List.any_cons, List.any_nil, decide_eq_true_eq, Bool.not_eq_true', decide_eq_false_iff_not, if_true, if_false, reduceIte, Bool.false_eq_true, Bool.true_eq_false, Bool.not_true, Bool.not_false, true_and, and_true, Bool.or_false, Bool.or_true, Bool.true_or, Bool.false_or, beq_self_eq_true, List.getD_cons_zero, List.getD_cons_succ, not_true_eq_false, not_false_eq_true, ne_eq, Nat.zero_add, Nat.reduceAdd, Nat.reduceLeDiff, Int.reduceNeg, eq_self, c2, List.length_map]
        refine ⟨small_size (by omega), ?_⟩
        refine lc_map (fun t => .int (2 + 2 * (t / 3))) trivial (fun t ht k2 hk2 => ?_) ?_
        · have := tb t ht
          simp only [startD, s_nil, s_cons, s_asg, s_par2, s_par3, s_aug, s_augS, s_expr, s_ret, s_retN, s_ite, s_for, s_brk, s_cnt, s_pass, s_never, for_step, lc_step, e_var, e_cst, e_bin, e_neg, e_not, e_and, e_or, e_cmp, e_chain, e_ife, e_tup, e_lst, e_ix, e_slc, e_rev, e_fld, e_call, e_meth, e_make, e_bi, e_bm, e_isi, e_lc, e_frz, e_sp, cont_nil, wEs, wG, wGs, wI, wIf, wO, ge0, geS, wIx, wCmp, wBin, wAug, wBi, wBm, arrD, sq_lst, sq_frl, sq_tup, lq_lst, isi_int, isi_bl, isi_str, isi_non, isi_lst, isi_frl, isi_tup, sl_tup, sl_lst, sl_frl, rv_tup, rv_lst, rv_frl, st_lst, st_frl, st_tup, mset_same, bxs_at, newL, wipeD, isN_non, isN_int, isN_bl, isN_str, isN_tup, isN_lst, isN_obj, rng_irg, isTy, List.map_cons, List.map_nil, Nat.reduceSub, List.replicate_succ, List.replicate_zero, List.set_cons_zero, List.set_cons_succ, List.cons_append, List.nil_append, List.length_cons, List.length_nil, List.any_cons, List.any_nil, decide_eq_true_eq, Bool.not_eq_true', decide_eq_false_iff_not, if_true, if_false, reduceIte, Bool.false_eq_true, Bool.true_eq_false, Bool.not_true, Bool.not_false, true_and, and_true, Bool.or_false, Bool.or_true, Bool.true_or, Bool.false_or, beq_self_eq_true, List.getD_cons_zero, List.getD_cons_succ, not_true_eq_false, not_false_eq_true, ne_eq, Nat.zero_add, Nat.reduceAdd, Nat.reduceLeDiff, Int.reduceNeg, eq_self]
          refine ⟨cdw (by decide) (by decide), mulR (by omega), ?_⟩
          exact hk2
        · rw [List.nil_append, show tops.map (fun t => Sw.D.int (2 + 2 * (t / 3))) = (tops.map fun t => 2 + 2 * (t / 3)).map Sw.D.int by rw [List.map_map]; rfl]
          refine ⟨small_le (by simp; omega), ?_⟩
          refine hk _ _ ⟨rfl, _, _, _, _, _, rfl, by rw [List.length_map]; exact tl, fun t ht => ?_, fun i hi ho => ?_⟩
          · obtain ⟨u, hu, rfl⟩ := List.mem_map.mp ht
            have := tb u hu
            exact (even u this.1 this.2).2
          · exfalso
            rcases Nat.lt_or_ge i tops.length with q | q
            · rw [List.getD_eq_getElem?_getD, List.getElem?_map, List.getElem?_eq_getElem q] at ho
              have := tb _ (List.getElem_mem q)
              have := (even _ this.1 this.2).1
              simp at ho
            · rw [List.getD_eq_getElem?_getD, List.getElem?_eq_none (by simp; omega)] at ho
              simp at ho
      · simp only [startD, s_nil, s_cons, s_asg, s_par2, s_par3, s_aug, s_augS, s_expr, s_ret, s_retN, s_ite, s_for, s_brk, s_cnt, s_pass, s_never, for_step, lc_step, e_var, e_cst, e_bin, e_neg, e_not, e_and, e_or, e_cmp, e_chain, e_ife, e_tup, e_lst, e_ix, e_slc, e_rev, e_fld, e_call, e_meth, e_make, e_bi, e_bm, e_isi, e_lc, e_frz, e_sp, cont_nil, wEs, wG, wGs, wI, wIf, wO, ge0, geS, wIx, wCmp, wBin, wAug, wBi, wBm, arrD, sq_lst, sq_frl, sq_tup, lq_lst, isi_int, isi_bl, isi_str, isi_non, isi_lst, isi_frl, isi_tup, sl_tup, sl_lst, sl_frl, rv_tup, rv_lst, rv_frl, st_lst, st_frl, st_tup, mset_same, bxs_at, newL, wipeD, isN_non, isN_int, isN_bl, isN_str, isN_tup, isN_lst, isN_obj, rng_irg, isTy, List.map_cons, List.map_nil, Nat.reduceSub, List.replicate_succ, List.replicate_zero, List.set_cons_zero, List.set_cons_succ, List.cons_append, List.nil_append, List.length_cons, List.length_nil, List.any_cons, List.any_nil, decide_eq_true_eq, Bool.not_eq_true', decide_eq_false_iff_not, if_true, if_false, reduceIte, Bool.false_eq_true, Bool.true_eq_false, Bool.not_true, Bool.not_false, true_and, and_true, Bool.or_false, Bool.or_true, Bool.true_or, Bool.false_or, beq_self_eq_true, List.getD_cons_zero, List.getD_cons_succ, not_true_eq_false, not_false_eq_true, ne_eq, Nat.zero_add, Nat.reduceAdd, Nat.reduceLeDiff, Int.reduceNeg, eq_self, c2]
        refine hk _ _ ⟨rfl, tops, _, _, _, _, rfl, tl, tb, fun i hi ho => ?_⟩
        rcases Nat.lt_or_ge i j with q | q
        · exact I i (by omega) ho
        · have : i = j := by omega
          subst this
          unfold mid
          omega
    · simp only [startD, s_nil, s_cons, s_asg, s_par2, s_par3, s_aug, s_augS, s_expr, s_ret, s_retN, s_ite, s_for, s_brk, s_cnt, s_pass, s_never, for_step, lc_step, e_var, e_cst, e_bin, e_neg, e_not, e_and, e_or, e_cmp, e_chain, e_ife, e_tup, e_lst, e_ix, e_slc, e_rev, e_fld, e_call, e_meth, e_make, e_bi, e_bm, e_isi, e_lc, e_frz, e_sp, cont_nil, wEs, wG, wGs, wI, wIf, wO, ge0, geS, wIx, wCmp, wBin, wAug, wBi, wBm, arrD, sq_lst, sq_frl, sq_tup, lq_lst, isi_int, isi_bl, isi_str, isi_non, isi_lst, isi_frl, isi_tup, sl_tup, sl_lst, sl_frl, rv_tup, rv_lst, rv_frl, st_lst, st_frl, st_tup, mset_same, bxs_at, newL, wipeD, isN_non, isN_int, isN_bl, isN_str, isN_tup, isN_lst, isN_obj, rng_irg, isTy, List.map_cons, List.map_nil, Nat.reduceSub, List.replicate_succ, List.replicate_zero, List.set_cons_zero, List.set_cons_succ, List.cons_append, List.nil_append, List.length_cons, List.length_nil, List.any_cons, List.any_nil, decide_eq_true_eq, Bool.not_eq_true', decide_eq_false_iff_not, if_true, if_false, reduceIte, Bool.false_eq_true, Bool.true_eq_false, Bool.not_true, Bool.not_false, true_and, and_true, Bool.or_false, Bool.or_true, Bool.true_or, Bool.false_or, beq_self_eq_true, List.getD_cons_zero, List.getD_cons_succ, not_true_eq_false, not_false_eq_true, ne_eq, Nat.zero_add, Nat.reduceAdd, Nat.reduceLeDiff, Int.reduceNeg, eq_self, c1]
      refine hk _ _ ⟨rfl, tops, _, _, _, _, rfl, tl, tb, fun i hi ho => ?_⟩
      rcases Nat.lt_or_ge i j with q | q
      · exact I i (by omega) ho
      · have : i = j := by omega
        subst this
        exact absurd ho c1
  · obtain ⟨rfl, tops, y6, y8, y9, y10, rfl, tl, tb, I⟩ := hP
    refine cont_step ?_
    simp only [startD, s_nil, s_cons, s_asg, s_par2, s_par3, s_aug, s_augS, s_expr, s_ret, s_retN, s_ite, s_for, s_brk, s_cnt, s_pass, s_never, for_step, lc_step, e_var, e_cst, e_bin, e_neg, e_not, e_and, e_or, e_cmp, e_chain, e_ife, e_tup, e_lst, e_ix, e_slc, e_rev, e_fld, e_call, e_meth, e_make, e_bi, e_bm, e_isi, e_lc, e_frz, e_sp, cont_nil, wEs, wG, wGs, wI, wIf, wO, ge0, geS, wIx, wCmp, wBin, wAug, wBi, wBm, arrD, sq_lst, sq_frl, sq_tup, lq_lst, isi_int, isi_bl, isi_str, isi_non, isi_lst, isi_frl, isi_tup, sl_tup, sl_lst, sl_frl, rv_tup, rv_lst, rv_frl, st_lst, st_frl, st_tup, mset_same, bxs_at, newL, wipeD, isN_non, isN_int, isN_bl, isN_str, isN_tup, isN_lst, isN_obj, rng_irg, isTy, List.map_cons, List.map_nil, Nat.reduceSub, List.replicate_succ, List.replicate_zero, List.set_cons_zero, List.set_cons_succ, List.cons_append, List.nil_append, List.length_cons, List.length_nil, List.any_cons, List.any_nil, decide_eq_true_eq, Bool.not_eq_true', decide_eq_false_iff_not, if_true, if_false, reduceIte, Bool.false_eq_true, Bool.true_eq_false, Bool.not_true, Bool.not_false, true_and, and_true, Bool.or_false, Bool.or_true, Bool.true_or, Bool.false_or, beq_self_eq_true, List.getD_cons_zero, List.getD_cons_succ, not_true_eq_false, not_false_eq_true, ne_eq, Nat.zero_add, Nat.reduceAdd, Nat.reduceLeDiff, Int.reduceNeg, eq_self]
    refine ⟨by decide, fun a hfr => ?_⟩
    obtain ⟨hab, hMa⟩ := bxs_fresh hfr
    rw [bxs_mset hab]
    refine cont_step ?_
    simp only [startD, s_nil, s_cons, s_asg, s_par2, s_par3, s_aug, s_augS, s_expr, s_ret, s_retN, s_ite, s_for, s_brk, s_cnt, s_pass, s_never, for_step, lc_step, e_var, e_cst, e_bin, e_neg, e_not, e_and, e_or, e_cmp, e_chain, e_ife, e_tup, e_lst, e_ix, e_slc, e_rev, e_fld, e_call, e_meth, e_make, e_bi, e_bm, e_isi, e_lc, e_frz, e_sp, cont_nil, wEs, wG, wGs, wI, wIf, wO, ge0, geS, wIx, wCmp, wBin, wAug, wBi, wBm, arrD, sq_lst, sq_frl, sq_tup, lq_lst, isi_int, isi_bl, isi_str, isi_non, isi_lst, isi_frl, isi_tup, sl_tup, sl_lst, sl_frl, rv_tup, rv_lst, rv_frl, st_lst, st_frl, st_tup, mset_same, bxs_at, newL, wipeD, isN_non, isN_int, isN_bl, isN_str, isN_tup, isN_lst, isN_obj, rng_irg, isTy, List.map_cons, List.map_nil, Nat.reduceSub, List.replicate_succ, List.replicate_zero, List.set_cons_zero, List.set_cons_succ, List.cons_append, List.nil_append, List.length_cons, List.length_nil, List.any_cons, List.any_nil, decide_eq_true_eq, Bool.not_eq_true', decide_eq_false_iff_not, if_true, if_false, reduceIte, Bool.false_eq_true, Bool.true_eq_false, Bool.not_true, Bool.not_false, true_and, and_true, Bool.or_false, Bool.or_true, Bool.true_or, Bool.false_or, beq_self_eq_true, List.getD_cons_zero, List.getD_cons_succ, not_true_eq_false, not_false_eq_true, ne_eq, Nat.zero_add, Nat.reduceAdd, Nat.reduceLeDiff, Int.reduceNeg, eq_self]
    rw [show Sw.numbered 0 (tops.map Sw.D.int) = _ from numbered_map Sw.D.int tops 0]
    refine forb (fun i Γ M' => ∃ (nss : List (List Int)) (y6 y8 y9 y10 : Option Sw.D), M' = mset M a (.lst (nss.map tI)) ∧ Γ = [some (.loc b), some (.lst (R.map tI)), some (tI mm), some (.int r), some (.int n), some (lI tops), y6, some (.loc a), y8, y9, y10] ∧ nss.length = i ∧ ∀ j, j < i → StepsOk (nss.getD j []) ∧ ((nss.getD j []).length : Int) = tops.getD j 0 ∧ balB (nss.getD j []) (mid R mm tops j + 1) = true) 40 0 (fun _ _ _ _ _ => trivial) (i := 0) (hr1.le (by rw [List.length_zipIdx]; omega))
      ⟨[], _, _, _, _, rfl, rfl, rfl, fun _ q => absurd q (by omega)⟩ (fun j x hx Γ M' B2 kk hP hr2 hk => ?_) (fun Γ' M' B2 hP hr2 hn2 => ?_)
    · obtain ⟨nss, y6, y8, y9, y10, rfl, rfl, nl, I2⟩ := hP
      have e1 := (List.mem_zipIdx' (List.mem_of_getElem? hx))
      have e2 : x.2 = j ∧ tops[j]? = some x.1 := by
        rw [List.getElem?_zipIdx] at hx
        rcases h3 : tops[j]? with _ | t
        · rw [h3] at hx; cases hx
        · rw [h3] at hx; cases hx; exact ⟨by simp, rfl⟩
      obtain ⟨xt, xi⟩ := x
      obtain ⟨rfl, e3⟩ := e2
      dsimp only at e1 e3 ⊢
      have e4 : tops.getD xi 0 = xt := by rw [List.getD_eq_getElem?_getD, e3]; rfl
      have e5 := tb xt (List.mem_of_getElem? e3)
      have e6 := (List.getElem?_eq_some_iff.mp e3).1
      simp only [startD, s_nil, s_cons, s_asg, s_par2, s_par3, s_aug, s_augS, s_expr, s_ret, s_retN, s_ite, s_for, s_brk, s_cnt, s_pass, s_never, for_step, lc_step, e_var, e_cst, e_bin, e_neg, e_not, e_and, e_or, e_cmp, e_chain, e_ife, e_tup, e_lst, e_ix, e_slc, e_rev, e_fld, e_call, e_meth, e_make, e_bi, e_bm, e_isi, e_lc, e_frz, e_sp, cont_nil, wEs, wG, wGs, wI, wIf, wO, ge0, geS, wIx, wCmp, wBin, wAug, wBi, wBm, arrD, sq_lst, sq_frl, sq_tup, lq_lst, isi_int, isi_bl, isi_str, isi_non, isi_lst, isi_frl, isi_tup, sl_tup, sl_lst, sl_frl, rv_tup, rv_lst, rv_frl, st_lst, st_frl, st_tup, mset_same, bxs_at, newL, wipeD, isN_non, isN_int, isN_bl, isN_str, isN_tup, isN_lst, isN_obj, rng_irg, isTy, List.map_cons, List.map_nil, Nat.reduceSub, List.replicate_succ, List.replicate_zero, List.set_cons_zero, List.set_cons_succ, List.cons_append, List.nil_append, List.length_cons, List.length_nil, List.any_cons, List.any_nil, decide_eq_true_eq, Bool.not_eq_true', decide_eq_false_iff_not, if_true, if_false, reduceIte, Bool.false_eq_true, Bool.true_eq_false, Bool.not_true, Bool.not_false, true_and, and_true, Bool.or_false, Bool.or_true, Bool.true_or, Bool.false_or, beq_self_eq_true, List.getD_cons_zero, List.getD_cons_succ, not_true_eq_false, not_false_eq_true, ne_eq, Nat.zero_add, Nat.reduceAdd, Nat.reduceLeDiff, Int.reduceNeg, eq_self]
      refine ⟨ty_loc (bxs_cell hab), ?_⟩
      refine middle_ok hR hn tl tb hm (i := (xi : Int)) (by omega) (by omega) ?_
      have o := I xi (by rw [irg_len]; omega)
      rw [e4] at o
      refine paired1_ok e5 (by unfold mid at o; simpa using o) hr (hr2.le (by omega)) fun ns B3 p1 p2 p3 p4 => ?_
      rw [bxs_cell hab]
      dsimp only
      rw [Nat.zero_add] at nl
      refine ⟨by rw [List.length_map]; exact small_size (by omega), ?_⟩
      rw [bxs_up hab]
      refine hk _ _ _ ⟨nss ++ [ns], _, _, _, _, by rw [List.map_append]; rfl, rfl, by rw [List.length_append, nl, Nat.zero_add]; rfl, fun i hi => ?_⟩ p4
      rw [Nat.zero_add] at hi
      rcases Nat.lt_or_ge i xi with q | q
      · rw [show (nss ++ [ns]).getD i [] = nss.getD i [] by rw [List.getD_eq_getElem?_getD, List.getD_eq_getElem?_getD, List.getElem?_append_left (by omega)]]
        exact I2 i (by omega)
      · have : i = xi := by omega
        subst this
        rw [show (nss ++ [ns]).getD i [] = ns by rw [List.getD_eq_getElem?_getD, List.getElem?_append_right (by omega), nl, Nat.sub_self]; rfl, e4]
        exact ⟨p1, by omega, p3⟩
    · obtain ⟨nss, y6, y8, y9, y10, rfl, rfl, nl, I2⟩ := hP
      refine cont_step ?_
      simp only [startD, s_nil, s_cons, s_asg, s_par2, s_par3, s_aug, s_augS, s_expr, s_ret, s_retN, s_ite, s_for, s_brk, s_cnt, s_pass, s_never, for_step, lc_step, e_var, e_cst, e_bin, e_neg, e_not, e_and, e_or, e_cmp, e_chain, e_ife, e_tup, e_lst, e_ix, e_slc, e_rev, e_fld, e_call, e_meth, e_make, e_bi, e_bm, e_isi, e_lc, e_frz, e_sp, cont_nil, wEs, wG, wGs, wI, wIf, wO, ge0, geS, wIx, wCmp, wBin, wAug, wBi, wBm, arrD, sq_lst, sq_frl, sq_tup, lq_lst, isi_int, isi_bl, isi_str, isi_non, isi_lst, isi_frl, isi_tup, sl_tup, sl_lst, sl_frl, rv_tup, rv_lst, rv_frl, st_lst, st_frl, st_tup, mset_same, bxs_at, newL, wipeD, isN_non, isN_int, isN_bl, isN_str, isN_tup, isN_lst, isN_obj, rng_irg, isTy, List.map_cons, List.map_nil, Nat.reduceSub, List.replicate_succ, List.replicate_zero, List.set_cons_zero, List.set_cons_succ, List.cons_append, List.nil_append, List.length_cons, List.length_nil, List.any_cons, List.any_nil, decide_eq_true_eq, Bool.not_eq_true', decide_eq_false_iff_not, if_true, if_false, reduceIte, Bool.false_eq_true, Bool.true_eq_false, Bool.not_true, Bool.not_false, true_and, and_true, Bool.or_false, Bool.or_true, Bool.true_or, Bool.false_or, beq_self_eq_true, List.getD_cons_zero, List.getD_cons_succ, not_true_eq_false, not_false_eq_true, ne_eq, Nat.zero_add, Nat.reduceAdd, Nat.reduceLeDiff, Int.reduceNeg, eq_self]
      rw [List.length_zipIdx, Nat.zero_add, tl] at nl
      have fz : ∀ (xs : List (List Int)) (acc : List Sw.D) (M1 : MM) (Ψ' : List Sw.D → MM → Prop), Ψ' (acc ++ xs.map tI) M1 → frzL (frzD 3) (xs.map tI) acc M1 Ψ' := fun xs => by
        induction xs with
        | nil => intro acc M1 Ψ' h; simpa [frzL] using h
        | cons x xs ih => intro acc M1 Ψ' h; exact ih _ _ _ (by simpa using h)
      unfold frzD
      dsimp only
      rw [bxs_cell hab]
      dsimp only
      refine fz _ _ _ _ ⟨bxs_cell hab, ?_⟩
      rw [mset_bxs_drop hab hMa, List.nil_append]
      have et : nss.map (fun ns => (ns.length : Int)) = tops := by
        refine List.ext_getElem (by rw [List.length_map, nl, tl]) fun i h1 h2 => ?_
        have := (I2 i (by rw [List.length_zipIdx]; omega)).2.1
        rw [List.getElem_map]
        rw [List.getD_eq_getElem?_getD, List.getD_eq_getElem?_getD, List.getElem?_eq_getElem h2, List.getElem?_eq_getElem (by omega)] at this
        exact this
      refine rtn_self (h nss B2 nl (fun i hi => ?_) ?_)
      · obtain ⟨q1, q2, q3⟩ := I2 i (by rw [List.length_zipIdx]; omega)
        have := tb (tops.getD i 0) (by rw [List.getD_eq_getElem?_getD, List.getElem?_eq_getElem (by omega)]; exact List.getElem_mem _)
        rw [et]
        exact ⟨q1, by omega, by omega, q3⟩
      · have := hn1.trans hn2
        refine this.le ?_
        rw [irg_len, List.length_zipIdx]
        omega
end
end Pg
set_option maxRecDepth 100000
set_option maxHeartbeats 1000000
/-! Pk: steps bent at a place. -/
namespace Pg
open PySem Sw
theorem cut_to {xs : List Sw.D} {i : Nat} (h : i ≤ xs.length) : cutD xs none (some (i : Int)) = xs.take i := by
  have e1 : HT.sIx xs.length xs.length (some (i : Int)) = min i xs.length := HT.sIx_nat _ _ i
  have e2 : HT.sIx xs.length 0 none = 0 := rfl
  unfold cutD
  rw [e1, e2, Nat.min_eq_left h, Nat.sub_zero, List.drop_zero]
theorem cut_from {xs : List Sw.D} {i : Nat} (h : i ≤ xs.length) : cutD xs (some (i : Int)) none = xs.drop i := by
  have e1 : HT.sIx xs.length 0 (some (i : Int)) = min i xs.length := HT.sIx_nat _ _ i
  have e2 : HT.sIx xs.length xs.length none = xs.length := rfl
  unfold cutD
  rw [e1, e2, Nat.min_eq_left h]
  exact List.take_of_length_le (by rw [List.length_drop]; omega)
theorem nd_len : ∀ {xs ys : List Int}, xs.Nodup → (∀ x ∈ xs, x ∈ ys) → xs.length ≤ ys.length
  | [], _, _, _ => Nat.zero_le _
  | x :: r, ys, hn, h => by
    have hn' := List.nodup_cons.mp hn
    have := nd_len (xs := r) (ys := ys.erase x) hn'.2 fun y hy => (List.mem_erase_of_ne (fun e : y = x => hn'.1 (by rw [← e]; exact hy))).mpr (h y (List.mem_cons_of_mem _ hy))
    have hx := h x List.mem_cons_self
    rw [List.length_erase_of_mem hx] at this
    have := List.length_pos_of_mem hx
    rw [List.length_cons]; omega
def bent1 : Ss := (.cons (.asg (.name 2) (.call "_law_take" [.at_ 0, .at_ 1] (.cons (.var 0) (.cons (.bi false .len (.cons (.var 1) .nil)) .nil)) .nil)) (.cons (.asg (.name 3) (.bi false .list (.cons (.ix (.var 1) (.var 2)) .nil))) (.cons (.par2 4 5 (.call "_law_take" [.at_ 0, .at_ 1] (.cons (.var 0) (.cons (.bi false .len (.cons (.var 3) .nil)) .nil)) .nil) (.call "_law_pick" [.at_ 0, .at_ 1] (.cons (.var 0) (.cons (.lst false (.cons (.cst (.int 1)) (.cons (.neg (.cst (.int 1))) (.cons (.cst (.int 3)) (.cons (.neg (.cst (.int 4))) .nil))))) .nil)) .nil)) (.cons (.asg (.name 3) (.sp false .sset (.cons (.bin false .Add (.bin false .Add (.slc false (.var 3) .no (.so (.var 4))) (.lst false (.cons (.bin false .Add (.ix (.var 3) (.var 4)) (.var 5)) .nil))) (.slc false (.var 3) (.so (.bin false .Add (.var 4) (.cst (.int 1)))) .no)) .nil))) (.cons (.ret (.bin false .Add (.bin false .Add (.slc false (.var 1) .no (.so (.var 2))) (.lst false (.cons (.bi false .tuple (.cons (.var 3) .nil)) .nil))) (.slc false (.var 1) (.so (.bin false .Add (.var 2) (.cst (.int 1)))) .no))) .nil)))))
section
variable {T : Tb} {k : Nat} {b : Addr} {B : Box} {Φ Ψ : CallC}
theorem bent_ok [CTake T] [Row T "_law_pick" ⟨"_law_pick", 2, 2, pick1⟩] [Row T "_law_bent" ⟨"_law_bent", 2, 6, bent1⟩] {M : MM} {nss : List (List Int)} {n : Nat} (hn : nss.length = n) (h0 : 1 ≤ n) (hn2 : n ≤ 1000) (hs : ∀ ns ∈ nss, StepsOk ns) (hB : Rdy 3 B)
    (h : ∀ (us : List (List Int)) B', us.length = n → (∀ ns ∈ us, StepsOk ns) → Nx 3 B B' → Φ (.lst (us.map tI)) (bxs M b B')) : callAt T (k + 3) "_law_bent" [.loc b, .lst (nss.map tI)] (bxs M b B) Φ Ψ := by
  refine call_row rfl ?_
  simp only [startD, s_nil, s_cons, s_asg, s_par2, s_par3, s_aug, s_augS, s_expr, s_ret, s_retN, s_ite, s_for, s_brk, s_cnt, s_pass, s_never, for_step, lc_step, e_var, e_cst, e_bin, e_neg, e_not, e_and, e_or, e_cmp, e_chain, e_ife, e_tup, e_lst, e_ix, e_slc, e_rev, e_fld, e_call, e_meth, e_make, e_bi, e_bm, e_isi, e_lc, e_frz, e_sp, cont_nil, wEs, wG, wGs, wI, wIf, wO, ge0, geS, wIx, wCmp, wBin, wAug, wBi, wBm, arrD, sq_lst, sq_frl, sq_tup, lq_lst, isi_int, isi_bl, isi_str, isi_non, isi_lst, isi_frl, isi_tup, sl_tup, sl_lst, sl_frl, rv_tup, rv_lst, rv_frl, st_lst, st_frl, st_tup, mset_same, bxs_at, newL, wipeD, isN_non, isN_int, isN_bl, isN_str, isN_tup, isN_lst, isN_obj, rng_irg, isTy, List.map_cons, List.map_nil, Nat.reduceSub, List.replicate_succ, List.replicate_zero, List.set_cons_zero, List.set_cons_succ, List.cons_append, List.nil_append, List.length_cons, List.length_nil, List.any_cons, List.any_nil, decide_eq_true_eq, Bool.not_eq_true', decide_eq_false_iff_not, if_true, if_false, reduceIte, Bool.false_eq_true, Bool.true_eq_false, Bool.not_true, Bool.not_false, true_and, and_true, Bool.or_false, Bool.or_true, Bool.true_or, Bool.false_or, beq_self_eq_true, List.getD_cons_zero, List.getD_cons_succ, not_true_eq_false, not_false_eq_true, ne_eq, Nat.zero_add, Nat.reduceAdd, Nat.reduceLeDiff, Int.reduceNeg, eq_self, bent1, List.length_map]
  refine take_ok (hB.le (by omega)) (by omega) (by omega) fun at_ B1 e1 e2 e3 => ?_
  refine cont_step ?_
  simp only [startD, s_nil, s_cons, s_asg, s_par2, s_par3, s_aug, s_augS, s_expr, s_ret, s_retN, s_ite, s_for, s_brk, s_cnt, s_pass, s_never, for_step, lc_step, e_var, e_cst, e_bin, e_neg, e_not, e_and, e_or, e_cmp, e_chain, e_ife, e_tup, e_lst, e_ix, e_slc, e_rev, e_fld, e_call, e_meth, e_make, e_bi, e_bm, e_isi, e_lc, e_frz, e_sp, cont_nil, wEs, wG, wGs, wI, wIf, wO, ge0, geS, wIx, wCmp, wBin, wAug, wBi, wBm, arrD, sq_lst, sq_frl, sq_tup, lq_lst, isi_int, isi_bl, isi_str, isi_non, isi_lst, isi_frl, isi_tup, sl_tup, sl_lst, sl_frl, rv_tup, rv_lst, rv_frl, st_lst, st_frl, st_tup, mset_same, bxs_at, newL, wipeD, isN_non, isN_int, isN_bl, isN_str, isN_tup, isN_lst, isN_obj, rng_irg, isTy, List.map_cons, List.map_nil, Nat.reduceSub, List.replicate_succ, List.replicate_zero, List.set_cons_zero, List.set_cons_succ, List.cons_append, List.nil_append, List.length_cons, List.length_nil, List.any_cons, List.any_nil, decide_eq_true_eq, Bool.not_eq_true', decide_eq_false_iff_not, if_true, if_false, reduceIte, Bool.false_eq_true, Bool.true_eq_false, Bool.not_true, Bool.not_false, true_and, and_true, Bool.or_false, Bool.or_true, Bool.true_or, Bool.false_or, beq_self_eq_true, List.getD_cons_zero, List.getD_cons_succ, not_true_eq_false, not_false_eq_true, ne_eq, Nat.zero_add, Nat.reduceAdd, Nat.reduceLeDiff, Int.reduceNeg, eq_self]
  refine atD_map (d := []) (by omega) (by omega) ?_
  have hsz := hs (nss.getD at_.toNat []) (by rw [List.getD_eq_getElem?_getD, List.getElem?_eq_getElem (by omega)]; exact List.getElem_mem _)
  generalize hw : nss.getD at_.toNat [] = own at *
  obtain ⟨s1, s2, s3⟩ := hsz
  simp only [startD, s_nil, s_cons, s_asg, s_par2, s_par3, s_aug, s_augS, s_expr, s_ret, s_retN, s_ite, s_for, s_brk, s_cnt, s_pass, s_never, for_step, lc_step, e_var, e_cst, e_bin, e_neg, e_not, e_and, e_or, e_cmp, e_chain, e_ife, e_tup, e_lst, e_ix, e_slc, e_rev, e_fld, e_call, e_meth, e_make, e_bi, e_bm, e_isi, e_lc, e_frz, e_sp, cont_nil, wEs, wG, wGs, wI, wIf, wO, ge0, geS, wIx, wCmp, wBin, wAug, wBi, wBm, arrD, sq_lst, sq_frl, sq_tup, lq_lst, isi_int, isi_bl, isi_str, isi_non, isi_lst, isi_frl, isi_tup, sl_tup, sl_lst, sl_frl, rv_tup, rv_lst, rv_frl, st_lst, st_frl, st_tup, mset_same, bxs_at, newL, wipeD, isN_non, isN_int, isN_bl, isN_str, isN_tup, isN_lst, isN_obj, rng_irg, isTy, List.map_cons, List.map_nil, Nat.reduceSub, List.replicate_succ, List.replicate_zero, List.set_cons_zero, List.set_cons_succ, List.cons_append, List.nil_append, List.length_cons, List.length_nil, List.any_cons, List.any_nil, decide_eq_true_eq, Bool.not_eq_true', decide_eq_false_iff_not, if_true, if_false, reduceIte, Bool.false_eq_true, Bool.true_eq_false, Bool.not_true, Bool.not_false, true_and, and_true, Bool.or_false, Bool.or_true, Bool.true_or, Bool.false_or, beq_self_eq_true, List.getD_cons_zero, List.getD_cons_succ, not_true_eq_false, not_false_eq_true, ne_eq, Nat.zero_add, Nat.reduceAdd, Nat.reduceLeDiff, Int.reduceNeg, eq_self, List.length_map]
  refine ⟨small_le (by omega), ?_⟩
  refine cont_step ?_
  simp only [startD, s_nil, s_cons, s_asg, s_par2, s_par3, s_aug, s_augS, s_expr, s_ret, s_retN, s_ite, s_for, s_brk, s_cnt, s_pass, s_never, for_step, lc_step, e_var, e_cst, e_bin, e_neg, e_not, e_and, e_or, e_cmp, e_chain, e_ife, e_tup, e_lst, e_ix, e_slc, e_rev, e_fld, e_call, e_meth, e_make, e_bi, e_bm, e_isi, e_lc, e_frz, e_sp, cont_nil, wEs, wG, wGs, wI, wIf, wO, ge0, geS, wIx, wCmp, wBin, wAug, wBi, wBm, arrD, sq_lst, sq_frl, sq_tup, lq_lst, isi_int, isi_bl, isi_str, isi_non, isi_lst, isi_frl, isi_tup, sl_tup, sl_lst, sl_frl, rv_tup, rv_lst, rv_frl, st_lst, st_frl, st_tup, mset_same, bxs_at, newL, wipeD, isN_non, isN_int, isN_bl, isN_str, isN_tup, isN_lst, isN_obj, rng_irg, isTy, List.map_cons, List.map_nil, Nat.reduceSub, List.replicate_succ, List.replicate_zero, List.set_cons_zero, List.set_cons_succ, List.cons_append, List.nil_append, List.length_cons, List.length_nil, List.any_cons, List.any_nil, decide_eq_true_eq, Bool.not_eq_true', decide_eq_false_iff_not, if_true, if_false, reduceIte, Bool.false_eq_true, Bool.true_eq_false, Bool.not_true, Bool.not_false, true_and, and_true, Bool.or_false, Bool.or_true, Bool.true_or, Bool.false_or, beq_self_eq_true, List.getD_cons_zero, List.getD_cons_succ, not_true_eq_false, not_false_eq_true, ne_eq, Nat.zero_add, Nat.reduceAdd, Nat.reduceLeDiff, Int.reduceNeg, eq_self, List.length_map]
  refine take_ok ((hB.nx e3 (by omega) : Rdy 2 B1).le (by omega)) (by omega) (by omega) fun pl B2 f1 f2 f3 => ?_
  refine ⟨small_le (by decide), ?_⟩
  refine pick_ok ((hB.nx e3 (by omega) : Rdy 2 B1).nx f3 (by omega)) (xs := [.int 1, .int (-1), .int 3, .int (-4)]) (fun _ => rfl) (by simp) (by decide) fun x B3 hx g3 => ?_
  obtain ⟨by_, rfl⟩ : ∃ z : Int, x = .int z := by
    simp only [List.mem_cons, List.not_mem_nil, or_false] at hx
    rcases hx with rfl | rfl | rfl | rfl <;> exact ⟨_, rfl⟩
  refine cont_step ?_
  simp only [startD, s_nil, s_cons, s_asg, s_par2, s_par3, s_aug, s_augS, s_expr, s_ret, s_retN, s_ite, s_for, s_brk, s_cnt, s_pass, s_never, for_step, lc_step, e_var, e_cst, e_bin, e_neg, e_not, e_and, e_or, e_cmp, e_chain, e_ife, e_tup, e_lst, e_ix, e_slc, e_rev, e_fld, e_call, e_meth, e_make, e_bi, e_bm, e_isi, e_lc, e_frz, e_sp, cont_nil, wEs, wG, wGs, wI, wIf, wO, ge0, geS, wIx, wCmp, wBin, wAug, wBi, wBm, arrD, sq_lst, sq_frl, sq_tup, lq_lst, isi_int, isi_bl, isi_str, isi_non, isi_lst, isi_frl, isi_tup, sl_tup, sl_lst, sl_frl, rv_tup, rv_lst, rv_frl, st_lst, st_frl, st_tup, mset_same, bxs_at, newL, wipeD, isN_non, isN_int, isN_bl, isN_str, isN_tup, isN_lst, isN_obj, rng_irg, isTy, List.map_cons, List.map_nil, Nat.reduceSub, List.replicate_succ, List.replicate_zero, List.set_cons_zero, List.set_cons_succ, List.cons_append, List.nil_append, List.length_cons, List.length_nil, List.any_cons, List.any_nil, decide_eq_true_eq, Bool.not_eq_true', decide_eq_false_iff_not, if_true, if_false, reduceIte, Bool.false_eq_true, Bool.true_eq_false, Bool.not_true, Bool.not_false, true_and, and_true, Bool.or_false, Bool.or_true, Bool.true_or, Bool.false_or, beq_self_eq_true, List.getD_cons_zero, List.getD_cons_succ, not_true_eq_false, not_false_eq_true, ne_eq, Nat.zero_add, Nat.reduceAdd, Nat.reduceLeDiff, Int.reduceNeg, eq_self]
  obtain ⟨p, rfl⟩ : ∃ p : Nat, pl = p := ⟨pl.toNat, by omega⟩
  have hp : p < own.length := by omega
  have c1 : cutD (own.map Sw.D.int) none (some (p : Int)) = (own.take p).map Sw.D.int := by
    rw [cut_to (by rw [List.length_map]; omega), List.map_take]
  have c2 : cutD (own.map Sw.D.int) (some ((p : Int) + 1)) none = (own.drop (p + 1)).map Sw.D.int := by
    rw [show (p : Int) + 1 = ((p + 1 : Nat) : Int) by omega, cut_from (by rw [List.length_map]; omega), List.map_drop]
  rw [c1, c2]
  have l1 : (own.take p).length ≤ 4 := by rw [List.length_take]; omega
  have l2 : (own.drop (p + 1)).length ≤ 4 := by rw [List.length_drop]; omega
  refine ⟨by omega, by omega, small_le (by simp; omega), ?_⟩
  refine atD_int (by omega) (by omega) ?_
  simp only [startD, s_nil, s_cons, s_asg, s_par2, s_par3, s_aug, s_augS, s_expr, s_ret, s_retN, s_ite, s_for, s_brk, s_cnt, s_pass, s_never, for_step, lc_step, e_var, e_cst, e_bin, e_neg, e_not, e_and, e_or, e_cmp, e_chain, e_ife, e_tup, e_lst, e_ix, e_slc, e_rev, e_fld, e_call, e_meth, e_make, e_bi, e_bm, e_isi, e_lc, e_frz, e_sp, cont_nil, wEs, wG, wGs, wI, wIf, wO, ge0, geS, wIx, wCmp, wBin, wAug, wBi, wBm, arrD, sq_lst, sq_frl, sq_tup, lq_lst, isi_int, isi_bl, isi_str, isi_non, isi_lst, isi_frl, isi_tup, sl_tup, sl_lst, sl_frl, rv_tup, rv_lst, rv_frl, st_lst, st_frl, st_tup, mset_same, bxs_at, newL, wipeD, isN_non, isN_int, isN_bl, isN_str, isN_tup, isN_lst, isN_obj, rng_irg, isTy, List.map_cons, List.map_nil, Nat.reduceSub, List.replicate_succ, List.replicate_zero, List.set_cons_zero, List.set_cons_succ, List.cons_append, List.nil_append, List.length_cons, List.length_nil, List.any_cons, List.any_nil, decide_eq_true_eq, Bool.not_eq_true', decide_eq_false_iff_not, if_true, if_false, reduceIte, Bool.false_eq_true, Bool.true_eq_false, Bool.not_true, Bool.not_false, true_and, and_true, Bool.or_false, Bool.or_true, Bool.true_or, Bool.false_or, beq_self_eq_true, List.getD_cons_zero, List.getD_cons_succ, not_true_eq_false, not_false_eq_true, ne_eq, Nat.zero_add, Nat.reduceAdd, Nat.reduceLeDiff, Int.reduceNeg, eq_self, List.length_map]
  refine ⟨small_le (by decide), small_le (by omega), small_le (by simp; omega), by omega, by omega, small_le (by omega), small_le (by simp; omega), small_le (by simp; omega), ?_⟩
  have eL : ∀ v : Int, (own.take p).map Sw.D.int ++ [.int v] ++ (own.drop (p + 1)).map Sw.D.int = (own.take p ++ [v] ++ own.drop (p + 1)).map Sw.D.int := fun v => by simp
  rw [eL]
  unfold wSp
  dsimp only
  refine wInts_l ⟨by simp; omega, fun out ho hm => ?_⟩
  have ol : out.length ≤ 4 := by
    have := nd_len (ho.imp fun h => by omega) fun x hx => (hm x).mp hx
    refine Nat.le_trans this ?_
    simp; omega
  have o0 : 1 ≤ out.length := by
    rcases out with _ | ⟨z, zs⟩
    · have := (hm (own.getD (p : Int).toNat 0 + by_)).mpr (by simp)
      cases this
    · simp
  refine ⟨small_le (by rw [List.length_map]; omega), ?_⟩
  refine cont_step ?_
  simp only [startD, s_nil, s_cons, s_asg, s_par2, s_par3, s_aug, s_augS, s_expr, s_ret, s_retN, s_ite, s_for, s_brk, s_cnt, s_pass, s_never, for_step, lc_step, e_var, e_cst, e_bin, e_neg, e_not, e_and, e_or, e_cmp, e_chain, e_ife, e_tup, e_lst, e_ix, e_slc, e_rev, e_fld, e_call, e_meth, e_make, e_bi, e_bm, e_isi, e_lc, e_frz, e_sp, cont_nil, wEs, wG, wGs, wI, wIf, wO, ge0, geS, wIx, wCmp, wBin, wAug, wBi, wBm, arrD, sq_lst, sq_frl, sq_tup, lq_lst, isi_int, isi_bl, isi_str, isi_non, isi_lst, isi_frl, isi_tup, sl_tup, sl_lst, sl_frl, rv_tup, rv_lst, rv_frl, st_lst, st_frl, st_tup, mset_same, bxs_at, newL, wipeD, isN_non, isN_int, isN_bl, isN_str, isN_tup, isN_lst, isN_obj, rng_irg, isTy, List.map_cons, List.map_nil, Nat.reduceSub, List.replicate_succ, List.replicate_zero, List.set_cons_zero, List.set_cons_succ, List.cons_append, List.nil_append, List.length_cons, List.length_nil, List.any_cons, List.any_nil, decide_eq_true_eq, Bool.not_eq_true', decide_eq_false_iff_not, if_true, if_false, reduceIte, Bool.false_eq_true, Bool.true_eq_false, Bool.not_true, Bool.not_false, true_and, and_true, Bool.or_false, Bool.or_true, Bool.true_or, Bool.false_or, beq_self_eq_true, List.getD_cons_zero, List.getD_cons_succ, not_true_eq_false, not_false_eq_true, ne_eq, Nat.zero_add, Nat.reduceAdd, Nat.reduceLeDiff, Int.reduceNeg, eq_self, List.length_map]
  obtain ⟨q, rfl⟩ : ∃ q : Nat, at_ = q := ⟨at_.toNat, by omega⟩
  have hq : q < nss.length := by omega
  have c3 : cutD (nss.map tI) none (some (q : Int)) = (nss.take q).map tI := by
    rw [cut_to (by rw [List.length_map]; omega), List.map_take]
  have c4 : cutD (nss.map tI) (some ((q : Int) + 1)) none = (nss.drop (q + 1)).map tI := by
    rw [show (q : Int) + 1 = ((q + 1 : Nat) : Int) by omega, cut_from (by rw [List.length_map]; omega), List.map_drop]
  rw [c3, c4]
  have l3 : (nss.take q).length = q := by rw [List.length_take]; omega
  have l4 : (nss.drop (q + 1)).length = nss.length - (q + 1) := List.length_drop
  refine ⟨by omega, by omega, small_le (by simp; omega), small_le (by decide), small_le (by simp; omega), small_le (by simp; omega), by omega, by omega, small_le (by simp; omega), small_le (by simp; omega), small_le (by simp; omega), ?_⟩
  have e := h (nss.take q ++ [out] ++ nss.drop (q + 1)) B3 (by simp; omega) (fun z hz => ?_) (((e3.trans f3).trans g3).le (by omega))
  · simp only [List.map_append, List.map_cons, List.map_nil] at e
    exact rtn_self e
  · rcases List.mem_append.mp hz with w | w
    · rcases List.mem_append.mp w with w | w
      · exact hs z (List.mem_of_mem_take w)
      · rw [List.mem_singleton.mp w]
        exact ⟨o0, ol, ups_of ho⟩
    · exact hs z (List.mem_of_mem_drop w)
end
end Pg
set_option maxRecDepth 100000
set_option maxHeartbeats 4000000
namespace K21
open PySem L2 Sw
def top (i : Nat) : Stmt := PySem.Challenge.pw_swayhalls_k21_middles_balance_mirrors.main.body.getD i (.Pass ⟨0, 0, 0, 0⟩)
abbrev s_law : Stmt := top 32
abbrev s__law_right : Stmt := top 31
abbrev s__law_box : Stmt := top 19
abbrev s__law_memory : Stmt := top 23
abbrev s__law_take : Stmt := top 20
abbrev s__law_strings : Stmt := top 24
abbrev s__law_balanced : Stmt := top 27
abbrev s__law_hall_right : Stmt := top 30
abbrev s_Hall_d___init__ : Stmt := inClass (top 17) 0
abbrev s_is_balanced : Stmt := top 3
abbrev s__law_bent : Stmt := top 29
abbrev s__law_pick : Stmt := top 21
abbrev s__law_middle : Stmt := top 25
abbrev s__law_paired : Stmt := top 26
abbrev s__law_same : Stmt := top 22
abbrev s_middles : Stmt := top 2
abbrev s__law_is_balanced : Stmt := top 28
abbrev s_mirror : Stmt := top 4
abbrev s_are_strings : Stmt := top 13
abbrev s_are_steps : Stmt := top 15
abbrev s_is_memory : Stmt := top 16
abbrev s_Hall_d_steps : Stmt := inClass (top 17) 2
abbrev s_middle_of : Stmt := top 1
abbrev s_Hall_d___len__ : Stmt := inClass (top 17) 6
abbrev s_Hall_d_tops : Stmt := inClass (top 17) 4
abbrev s_are_numbers : Stmt := top 11
abbrev s_are_steps_of_one : Stmt := top 14
abbrev s_Hall_d_strings : Stmt := inClass (top 17) 1
abbrev s_Hall_d_memory : Stmt := inClass (top 17) 3
abbrev s_is_number : Stmt := top 10
abbrev s_rises : Stmt := top 12
def g_law : Sig := ⟨["_law_script"], 1, []⟩
def g__law_right : Sig := ⟨["_law_box_here"], 1, []⟩
def g__law_box : Sig := ⟨["_law_script", "_law_k"], 2, []⟩
def g__law_memory : Sig := ⟨["_law_box_here", "_law_sign"], 2, []⟩
def g__law_take : Sig := ⟨["_law_box_here", "_law_many"], 2, []⟩
def g__law_strings : Sig := ⟨["_law_box_here", "_law_many", "_law_sign"], 3, []⟩
def g__law_balanced : Sig := ⟨["_law_box_here", "_law_strings_here", "_law_memory_here", "_law_reach"], 4, []⟩
def g__law_hall_right : Sig := ⟨["_law_box_here", "_law_strings_here", "_law_steps", "_law_weights"], 4, []⟩
def g_Hall_d___init__ : Sig := ⟨["self", "strings", "steps", "memory"], 4, [("memory", 0, (.tup [(.int 1)]))]⟩
def g_is_balanced : Sig := ⟨["hall", "person"], 2, []⟩
def g__law_bent : Sig := ⟨["_law_box_here", "_law_steps"], 2, []⟩
def g__law_pick : Sig := ⟨["_law_box_here", "_law_some"], 2, []⟩
def g__law_middle : Sig := ⟨["_law_strings_here", "_law_memory_here", "_law_tops", "_law_who"], 4, []⟩
def g__law_paired : Sig := ⟨["_law_box_here", "_law_middle_here", "_law_top", "_law_reach"], 4, []⟩
def g__law_same : Sig := ⟨["_law_found", "_law_due"], 2, []⟩
def g_middles : Sig := ⟨["hall"], 1, []⟩
def g__law_is_balanced : Sig := ⟨["_law_steps", "_law_middle_here"], 2, []⟩
def g_mirror : Sig := ⟨["hall", "standing"], 2, []⟩
def g_are_strings : Sig := ⟨["thing"], 1, []⟩
def g_are_steps : Sig := ⟨["thing", "many"], 2, []⟩
def g_is_memory : Sig := ⟨["thing"], 1, []⟩
def g_Hall_d_steps : Sig := ⟨["self"], 1, []⟩
def g_middle_of : Sig := ⟨["hall", "person"], 2, []⟩
def g_Hall_d___len__ : Sig := ⟨["self"], 1, []⟩
def g_Hall_d_tops : Sig := ⟨["self"], 1, []⟩
def g_are_numbers : Sig := ⟨["thing"], 1, []⟩
def g_are_steps_of_one : Sig := ⟨["thing"], 1, []⟩
def g_Hall_d_strings : Sig := ⟨["self"], 1, []⟩
def g_Hall_d_memory : Sig := ⟨["self"], 1, []⟩
def g_is_number : Sig := ⟨["thing"], 1, []⟩
def g_rises : Sig := ⟨["numbers"], 1, []⟩
def gn : Gn where
  fns := [("law", g_law), ("_law_right", g__law_right), ("_law_box", g__law_box), ("_law_memory", g__law_memory), ("_law_take", g__law_take), ("_law_strings", g__law_strings), ("_law_balanced", g__law_balanced), ("_law_hall_right", g__law_hall_right), ("is_balanced", g_is_balanced), ("_law_bent", g__law_bent), ("_law_pick", g__law_pick), ("_law_middle", g__law_middle), ("_law_paired", g__law_paired), ("_law_same", g__law_same), ("middles", g_middles), ("_law_is_balanced", g__law_is_balanced), ("mirror", g_mirror), ("are_strings", g_are_strings), ("are_steps", g_are_steps), ("is_memory", g_is_memory), ("middle_of", g_middle_of), ("are_numbers", g_are_numbers), ("are_steps_of_one", g_are_steps_of_one), ("is_number", g_is_number), ("rises", g_rises)]
  cls := [("Hall", g_Hall_d___init__)]
  mth := [("Hall", "steps", g_Hall_d_steps), ("Hall", "__len__", g_Hall_d___len__), ("Hall", "tops", g_Hall_d_tops), ("Hall", "strings", g_Hall_d_strings), ("Hall", "memory", g_Hall_d_memory)]
  cst := [("MOST_BEATS", (.int 5)), ("MOST_STEPS", (.int 4))]
  flds := ["own_strings", "own_steps", "own_memory"]
  pats := ([("_law_right", 1, []), ("_law_box", 2, []), ("_law_memory", 2, []), ("_law_take", 2, []), ("_law_strings", 3, []), ("_law_balanced", 4, []), ("_law_hall_right", 4, []), ("Hall.__init__", 4, []), ("is_balanced", 2, []), ("_law_bent", 2, []), ("_law_pick", 2, []), ("_law_middle", 4, []), ("_law_paired", 4, []), ("_law_same", 2, []), ("middles", 1, []), ("middles", 0, ["hall"]), ("_law_is_balanced", 2, []), ("is_balanced", 0, ["person", "hall"]), ("mirror", 2, []), ("mirror", 0, ["standing", "hall"]), ("are_strings", 1, []), ("are_steps", 2, []), ("is_memory", 1, []), ("Hall.steps", 1, []), ("middle_of", 2, [])] : List (Str × Nat × List Str)) ++ ([("Hall.__len__", 1, []), ("Hall.tops", 1, []), ("are_numbers", 1, []), ("are_steps_of_one", 1, []), ("Hall.strings", 1, []), ("Hall.memory", 1, []), ("is_number", 1, []), ("rises", 1, [])] : List (Str × Nat × List Str))
def n_law : List Str := ["_law_script", "_law_k"]
def b_law : Ss := (.cons (.ret (.bi false .all (.cons (.lc false (.call "_law_right" [.at_ 0] (.cons (.call "_law_box" [.at_ 0, .at_ 1] (.cons (.var 0) (.cons (.var 1) .nil)) .nil) .nil) .nil) (.name 1) (.range1 (.bin false .Add (.cst (.int 1)) (.bi false .min2 (.cons (.cst (.int 5)) (.cons (.bi false .len (.cons (.var 0) .nil)) .nil))))) .no [1]) .nil))) .nil)
def k_law : Cfg := ⟨gn, n_law, defScope s_law, [], [], []⟩
theorem sc_law : FnScope n_law g_law.ps (defScope s_law) := ⟨rfl, rfl, rfl, by decide +kernel, rfl, by decide +kernel, by decide +kernel⟩
set_option maxRecDepth 100000 in
theorem c_law : cmpSs 60 k_law (defBody s_law) = some b_law := by kernel_rfl
def n__law_right : List Str := ["_law_box_here", "_law_turn", "_law_steps", "_law_chamber", "_law_weights", "_law_many", "_law_strings_here", "_law_own", "_law_who"]
def b__law_right : Ss := (.cons (.for_ (.name 1) (.range1 (.cst (.int 4))) (.cons (.par2 4 5 (.call "_law_memory" [.at_ 0, .at_ 1] (.cons (.var 0) (.cons (.bin false .Sub (.call "_law_take" [.at_ 0, .at_ 1] (.cons (.var 0) (.cons (.cst (.int 3)) .nil)) .nil) (.cst (.int 1))) .nil)) .nil) (.bin false .Add (.cst (.int 1)) (.call "_law_take" [.at_ 0, .at_ 1] (.cons (.var 0) (.cons (.cst (.int 5)) .nil)) .nil))) (.cons (.asg (.tup (.cons (.name 6) (.cons (.name 7) .nil))) (.call "_law_strings" [.at_ 0, .at_ 1, .at_ 2] (.cons (.var 0) (.cons (.var 5) (.cons (.ix (.lst false (.cons (.cst (.int 1)) (.cons (.neg (.cst (.int 1))) .nil))) (.call "_law_take" [.at_ 0, .at_ 1] (.cons (.var 0) (.cons (.cst (.int 2)) .nil)) .nil)) .nil))) .nil)) (.cons (.asg (.name 2) (.call "_law_balanced" [.at_ 0, .at_ 1, .at_ 2, .at_ 3] (.cons (.var 0) (.cons (.var 6) (.cons (.var 4) (.cons (.bin false .Add (.cst (.int 1)) (.call "_law_take" [.at_ 0, .at_ 1] (.cons (.var 0) (.cons (.cst (.int 40)) .nil)) .nil)) .nil)))) .nil)) (.cons (.ite (.not (.call "_law_hall_right" [.at_ 0, .at_ 1, .at_ 2, .at_ 3] (.cons (.var 0) (.cons (.var 6) (.cons (.var 2) (.cons (.var 4) .nil)))) .nil)) (.cons (.ret (.cst (.bl false))) .nil) .nil) (.cons (.asg (.name 3) (.make "Hall" false [.at_ 0, .at_ 1, .at_ 2, .at_ 3] (.cons (.var 6) (.cons (.var 2) (.cons (.var 4) .nil))))) (.cons (.ite (.not (.bi false .all (.cons (.lc false (.call "is_balanced" [.at_ 0, .at_ 1] (.cons (.var 3) (.cons (.var 8) .nil)) .nil) (.name 8) (.range1 (.var 5)) .no [8]) .nil))) (.cons (.ret (.cst (.bl false))) .nil) .nil) (.cons (.ite (.not (.call "_law_hall_right" [.at_ 0, .at_ 1, .at_ 2, .at_ 3] (.cons (.var 0) (.cons (.var 6) (.cons (.call "_law_bent" [.at_ 0, .at_ 1] (.cons (.var 0) (.cons (.var 2) .nil)) .nil) (.cons (.var 4) .nil)))) .nil)) (.cons (.ret (.cst (.bl false))) .nil) .nil) .nil)))))))) (.cons (.ret (.cst (.bl true))) .nil))
def k__law_right : Cfg := ⟨gn, n__law_right, defScope s__law_right, [], [], []⟩
theorem sc__law_right : FnScope n__law_right g__law_right.ps (defScope s__law_right) := ⟨rfl, rfl, rfl, by decide +kernel, rfl, by decide +kernel, by decide +kernel⟩
set_option maxRecDepth 100000 in
theorem c__law_right : cmpSs 60 k__law_right (defBody s__law_right) = some b__law_right := by kernel_rfl
def n__law_box : List Str := ["_law_script", "_law_k", "_law_cell"]
def b__law_box : Ss := (.cons (.asg (.name 2) (.cst (.int 0))) (.cons (.ite (.cmp .Lt (.var 1) (.bi false .len (.cons (.var 0) .nil))) (.cons (.asg (.name 2) (.ix (.var 0) (.var 1))) .nil) .nil) (.cons (.ret (.lst true (.cons (.bin false .Mult (.bi false .abs_ (.cons (.var 2) .nil)) (.bi false .int_ (.cons (.cmp .GtE (.bi false .abs_ (.cons (.var 2) .nil)) (.bin false .Pow (.cst (.int 10)) (.cst (.int 18)))) .nil))) (.cons (.bin false .Add (.bin false .Add (.bin false .Mod (.var 2) (.cst (.int 2147483629))) (.bin false .Mult (.cst (.int 7919)) (.var 1))) (.cst (.int 11))) (.cons (.cst (.int 0)) .nil))))) .nil)))
def k__law_box : Cfg := ⟨gn, n__law_box, defScope s__law_box, [⟨79, 11, 79, 109⟩], [], []⟩
theorem sc__law_box : FnScope n__law_box g__law_box.ps (defScope s__law_box) := ⟨rfl, rfl, rfl, by decide +kernel, rfl, by decide +kernel, by decide +kernel⟩
set_option maxRecDepth 100000 in
theorem c__law_box : cmpSs 60 k__law_box (defBody s__law_box) = some b__law_box := by kernel_rfl
def n__law_memory : List Str := ["_law_box_here", "_law_sign", "_law_many", "_law_found", "_law_place", "_law_turn"]
def b__law_memory : Ss := (.cons (.asg (.name 2) (.ix (.lst false (.cons (.bin false .Add (.cst (.int 2)) (.call "_law_take" [.at_ 0, .at_ 1] (.cons (.var 0) (.cons (.cst (.int 4)) .nil)) .nil)) (.cons (.bin false .Add (.cst (.int 1)) (.call "_law_take" [.at_ 0, .at_ 1] (.cons (.var 0) (.cons (.cst (.int 5)) .nil)) .nil)) (.cons (.bin false .Add (.cst (.int 2)) (.call "_law_take" [.at_ 0, .at_ 1] (.cons (.var 0) (.cons (.cst (.int 4)) .nil)) .nil)) .nil)))) (.bin false .Add (.var 1) (.cst (.int 1))))) (.cons (.asg (.name 3) (.lc true (.bin false .Sub (.call "_law_take" [.at_ 0, .at_ 1] (.cons (.var 0) (.cons (.cst (.int 7)) .nil)) .nil) (.cst (.int 3))) (.name 5) (.range1 (.var 2)) .no [5])) (.cons (.asg (.sub (.var 3) (.neg (.cst (.int 1)))) (.call "_law_pick" [.at_ 0, .at_ 1] (.cons (.var 0) (.cons (.lst false (.cons (.cst (.int 1)) (.cons (.cst (.int 1)) (.cons (.neg (.cst (.int 1))) (.cons (.cst (.int 2)) (.cons (.neg (.cst (.int 3))) .nil)))))) .nil)) .nil)) (.cons (.for_ (.name 4) (.range1 (.bin false .FloorDiv (.var 2) (.cst (.int 2)))) (.cons (.asg (.sub (.var 3) (.var 4)) (.ife (.cmp .NotEq (.var 1) (.cst (.int 0))) (.bin false .Mult (.var 1) (.ix (.var 3) (.bin false .Sub (.bin false .Sub (.var 2) (.cst (.int 1))) (.var 4)))) (.ix (.var 3) (.var 4)))) .nil)) (.cons (.ite (.and (.cmp .Lt (.var 1) (.cst (.int 0))) (.cmp .Eq (.bin false .Mod (.var 2) (.cst (.int 2))) (.cst (.int 1)))) (.cons (.asg (.sub (.var 3) (.bin false .FloorDiv (.var 2) (.cst (.int 2)))) (.cst (.int 0))) .nil) .nil) (.cons (.asg (.sub (.var 3) (.cst (.int 0))) (.ife (.cmp .NotEq (.var 1) (.cst (.int 0))) (.ix (.var 3) (.cst (.int 0))) (.cst (.int 4)))) (.cons (.ret (.bi false .tuple (.cons (.var 3) .nil))) .nil)))))))
def k__law_memory : Cfg := ⟨gn, n__law_memory, defScope s__law_memory, [⟨102, 17, 102, 84⟩], [], []⟩
theorem sc__law_memory : FnScope n__law_memory g__law_memory.ps (defScope s__law_memory) := ⟨rfl, rfl, rfl, by decide +kernel, rfl, by decide +kernel, by decide +kernel⟩
set_option maxRecDepth 100000 in
theorem c__law_memory : cmpSs 60 k__law_memory (defBody s__law_memory) = some b__law_memory := by kernel_rfl
def n__law_take : List Str := ["_law_box_here", "_law_many", "_law_once", "_law_found"]
def b__law_take : Ss := (.cons (.ite (.cmp .Gt (.ix (.var 0) (.cst (.int 0))) (.cst (.int 0))) (.cons (.asg (.name 3) (.bin false .Mod (.ix (.var 0) (.cst (.int 0))) (.var 1))) (.cons (.asg (.sub (.var 0) (.cst (.int 0))) (.bin false .FloorDiv (.ix (.var 0) (.cst (.int 0))) (.var 1))) (.cons (.ret (.var 3)) .nil))) .nil) (.cons (.asg (.sub (.var 0) (.cst (.int 2))) (.bin false .Add (.ix (.var 0) (.cst (.int 2))) (.cst (.int 1)))) (.cons (.asg (.name 2) (.bin false .Mod (.bin false .Pow (.bin false .Add (.ix (.var 0) (.cst (.int 1))) (.bin false .Mult (.cst (.int 39373)) (.ix (.var 0) (.cst (.int 2))))) (.cst (.int 5))) (.cst (.int 2147483647)))) (.cons (.ret (.bin false .Mod (.bin false .FloorDiv (.bin false .Mod (.bin false .Add (.bin false .Mult (.var 2) (.bin false .Add (.bin false .Mod (.var 2) (.cst (.int 40009))) (.cst (.int 7)))) (.bin false .Mult (.ix (.var 0) (.cst (.int 2))) (.cst (.int 7919)))) (.cst (.int 2147483629))) (.cst (.int 64))) (.var 1))) .nil))))
def k__law_take : Cfg := ⟨gn, n__law_take, defScope s__law_take, [], [], []⟩
theorem sc__law_take : FnScope n__law_take g__law_take.ps (defScope s__law_take) := ⟨rfl, rfl, rfl, by decide +kernel, rfl, by decide +kernel, by decide +kernel⟩
set_option maxRecDepth 100000 in
theorem c__law_take : cmpSs 60 k__law_take (defBody s__law_take) = some b__law_take := by kernel_rfl
def n__law_strings : List Str := ["_law_box_here", "_law_many", "_law_sign", "_law_who", "_law_plain", "_law_odds", "_law_own", "_law_rows", "_law_other", "_law_string", "_law_turn", "_law_row"]
def b__law_strings : Ss := (.cons (.asg (.tup (.cons (.name 4) (.cons (.name 5) .nil))) (.tup (.cons (.call "_law_take" [.at_ 0, .at_ 1] (.cons (.var 0) (.cons (.cst (.int 3)) .nil)) .nil) (.cons (.bin false .Add (.cst (.int 1)) (.call "_law_take" [.at_ 0, .at_ 1] (.cons (.var 0) (.cons (.cst (.int 3)) .nil)) .nil)) .nil)))) (.cons (.par2 6 7 (.lc false (.ix (.lst false (.cons (.cst (.int 1)) (.cons (.bin false .Add (.cst (.int 1)) (.call "_law_take" [.at_ 0, .at_ 1] (.cons (.var 0) (.cons (.cst (.int 9)) .nil)) .nil)) .nil))) (.bi false .int_ (.cons (.cmp .Gt (.var 4) (.cst (.int 0))) .nil))) (.name 10) (.range1 (.var 1)) .no [10]) (.lst true .nil)) (.cons (.for_ (.name 3) (.range1 (.var 1)) (.cons (.expr (.bm false .append (.var 7) (.cons (.bin true .Mult (.lst false (.cons (.cst (.int 0)) .nil)) (.var 1)) .nil))) .nil)) (.cons (.for_ (.name 3) (.range1 (.var 1)) (.cons (.for_ (.name 8) (.range2 (.var 3) (.var 1)) (.cons (.asg (.name 9) (.bin false .Mult (.bin false .Sub (.call "_law_take" [.at_ 0, .at_ 1] (.cons (.var 0) (.cons (.cst (.int 11)) .nil)) .nil) (.cst (.int 5))) (.bi false .int_ (.cons (.cmp .Eq (.call "_law_take" [.at_ 0, .at_ 1] (.cons (.var 0) (.cons (.var 5) .nil)) .nil) (.cst (.int 0))) .nil)))) (.cons (.asg (.name 9) (.bin false .Mult (.var 9) (.bi false .int_ (.cons (.or (.cmp .Gt (.var 2) (.cst (.int 0))) (.cmp .Lt (.var 3) (.var 8))) .nil)))) (.cons (.asg (.sub (.ix (.var 7) (.var 3)) (.var 8)) (.bin false .Mult (.var 9) (.ix (.var 6) (.var 8)))) (.cons (.asg (.sub (.ix (.var 7) (.var 8)) (.var 3)) (.ife (.cmp .Gt (.var 8) (.var 3)) (.bin false .Mult (.bin false .Mult (.var 2) (.var 9)) (.ix (.var 6) (.var 3))) (.ix (.ix (.var 7) (.var 3)) (.var 8)))) .nil))))) .nil)) (.cons (.ret (.tup (.cons (.lc false (.bi false .tuple (.cons (.var 11) .nil)) (.name 11) (.seq (.var 7)) .no [11]) (.cons (.var 6) .nil)))) .nil)))))
def k__law_strings : Cfg := ⟨gn, n__law_strings, defScope s__law_strings, [⟨112, 122, 112, 124⟩, ⟨114, 25, 114, 40⟩], [], []⟩
theorem sc__law_strings : FnScope n__law_strings g__law_strings.ps (defScope s__law_strings) := ⟨rfl, rfl, rfl, by decide +kernel, rfl, by decide +kernel, by decide +kernel⟩
set_option maxRecDepth 100000 in
theorem c__law_strings : cmpSs 60 k__law_strings (defBody s__law_strings) = some b__law_strings := by kernel_rfl
def n__law_balanced : List Str := ["_law_box_here", "_law_strings_here", "_law_memory_here", "_law_reach", "_law_many", "_law_tops", "_law_who", "_law_found", "_law_middle_here", "_law_top", "_law_turn"]
def b__law_balanced : Ss := (.cons (.asg (.name 4) (.bi false .len (.cons (.var 1) .nil))) (.cons (.asg (.name 5) (.lc false (.call "_law_pick" [.at_ 0, .at_ 1] (.cons (.var 0) (.cons (.lst false (.cons (.cst (.int 1)) (.cons (.cst (.int 2)) (.cons (.cst (.int 2)) (.cons (.cst (.int 3)) (.cons (.cst (.int 4)) .nil)))))) .nil)) .nil) (.name 10) (.range1 (.var 4)) .no [10])) (.cons (.for_ (.name 6) (.range1 (.var 4)) (.cons (.asg (.name 8) (.call "_law_middle" [.at_ 0, .at_ 1, .at_ 2, .at_ 3] (.cons (.var 1) (.cons (.var 2) (.cons (.var 5) (.cons (.var 6) .nil)))) .nil)) (.cons (.ite (.and (.cmp .Eq (.bin false .Mod (.ix (.var 5) (.var 6)) (.cst (.int 2))) (.cst (.int 1))) (.cmp .Eq (.bin false .Mod (.var 8) (.cst (.int 2))) (.cst (.int 0)))) (.cons (.asg (.name 5) (.lc false (.bin false .Add (.cst (.int 2)) (.bin false .Mult (.cst (.int 2)) (.bin false .FloorDiv (.var 9) (.cst (.int 3))))) (.name 9) (.seq (.var 5)) .no [9])) .nil) .nil) .nil))) (.cons (.asg (.name 7) (.lst true .nil)) (.cons (.for_ (.tup (.cons (.name 6) (.cons (.name 9) .nil))) (.enum (.var 5)) (.cons (.expr (.bm false .append (.var 7) (.cons (.call "_law_paired" [.at_ 0, .at_ 1, .at_ 2, .at_ 3] (.cons (.var 0) (.cons (.call "_law_middle" [.at_ 0, .at_ 1, .at_ 2, .at_ 3] (.cons (.var 1) (.cons (.var 2) (.cons (.var 5) (.cons (.var 6) .nil)))) .nil) (.cons (.var 9) (.cons (.var 3) .nil)))) .nil) .nil))) .nil)) (.cons (.ret (.frz (.var 7))) .nil))))))
def k__law_balanced : Cfg := ⟨gn, n__law_balanced, defScope s__law_balanced, [⟨141, 17, 141, 19⟩], [⟨144, 11, 144, 21⟩], []⟩
theorem sc__law_balanced : FnScope n__law_balanced g__law_balanced.ps (defScope s__law_balanced) := ⟨rfl, rfl, rfl, by decide +kernel, rfl, by decide +kernel, by decide +kernel⟩
set_option maxRecDepth 100000 in
theorem c__law_balanced : cmpSs 60 k__law_balanced (defBody s__law_balanced) = some b__law_balanced := by kernel_rfl
def n__law_hall_right : List Str := ["_law_box_here", "_law_strings_here", "_law_steps", "_law_weights", "_law_due", "_law_stood", "_law_other", "_law_chamber", "_law_tops", "_law_who", "_law_own", "_law_fine", "_law_top", "_law_posture"]
def b__law_hall_right : Ss := (.cons (.asg (.tup (.cons (.name 7) (.cons (.name 8) .nil))) (.tup (.cons (.make "Hall" false [.at_ 0, .at_ 1, .at_ 2, .at_ 3] (.cons (.var 1) (.cons (.var 2) (.cons (.var 3) .nil)))) (.cons (.lc false (.bi false .len (.cons (.var 10) .nil)) (.name 10) (.seq (.var 2)) .no [10]) .nil)))) (.cons (.asg (.name 4) (.bi false .tuple (.cons (.lc false (.call "_law_middle" [.at_ 0, .at_ 1, .at_ 2, .at_ 3] (.cons (.var 1) (.cons (.var 3) (.cons (.var 8) (.cons (.var 9) .nil)))) .nil) (.name 9) (.range1 (.bi false .len (.cons (.var 2) .nil))) .no [9]) .nil))) (.cons (.ite (.not (.call "_law_same" [.at_ 0, .at_ 1] (.cons (.lst false (.cons (.call "middles" [.at_ 0] (.cons (.var 7) .nil) .nil) (.cons (.call "middles" [.at_ 0] .nil (.cons (.var 7) .nil)) .nil))) (.cons (.lst false (.cons (.var 4) (.cons (.var 4) .nil))) .nil)) .nil)) (.cons (.ret (.cst (.bl false))) .nil) .nil) (.cons (.for_ (.tup (.cons (.name 9) (.cons (.name 10) .nil))) (.enum (.var 2)) (.cons (.asg (.name 11) (.call "_law_is_balanced" [.at_ 0, .at_ 1] (.cons (.var 10) (.cons (.ix (.var 4) (.var 9)) .nil)) .nil)) (.cons (.ite (.not (.call "_law_same" [.at_ 0, .at_ 1] (.cons (.lst false (.cons (.call "is_balanced" [.at_ 0, .at_ 1] (.cons (.var 7) (.cons (.var 9) .nil)) .nil) (.cons (.call "is_balanced" [.at_ 1, .at_ 0] .nil (.cons (.var 9) (.cons (.var 7) .nil))) .nil))) (.cons (.lst false (.cons (.var 11) (.cons (.var 11) .nil))) .nil)) .nil)) (.cons (.ret (.cst (.bl false))) .nil) .nil) .nil))) (.cons (.asg (.name 5) (.bi false .tuple (.cons (.lc false (.call "_law_take" [.at_ 0, .at_ 1] (.cons (.var 0) (.cons (.bin false .Add (.var 12) (.cst (.int 1))) .nil)) .nil) (.name 12) (.seq (.var 8)) .no [12]) .nil))) (.cons (.asg (.name 6) (.bi false .tuple (.cons (.lc false (.bin false .Sub (.var 12) (.var 13)) (.tup (.cons (.name 12) (.cons (.name 13) .nil))) (.zip false (.var 8) (.var 5)) .no [12, 13]) .nil))) (.cons (.ret (.call "_law_same" [.at_ 0, .at_ 1] (.cons (.lst false (.cons (.call "mirror" [.at_ 0, .at_ 1] (.cons (.var 7) (.cons (.var 5) .nil)) .nil) (.cons (.call "mirror" [.at_ 1, .at_ 0] .nil (.cons (.var 6) (.cons (.var 7) .nil))) .nil))) (.cons (.lst false (.cons (.var 6) (.cons (.var 5) .nil))) .nil)) .nil)) .nil)))))))
def k__law_hall_right : Cfg := ⟨gn, n__law_hall_right, defScope s__law_hall_right, [], [], []⟩
theorem sc__law_hall_right : FnScope n__law_hall_right g__law_hall_right.ps (defScope s__law_hall_right) := ⟨rfl, rfl, rfl, by decide +kernel, rfl, by decide +kernel, by decide +kernel⟩
set_option maxRecDepth 100000 in
theorem c__law_hall_right : cmpSs 60 k__law_hall_right (defBody s__law_hall_right) = some b__law_hall_right := by kernel_rfl
def n_Hall_d___init__ : List Str := ["self", "strings", "steps", "memory", "row"]
def b_Hall_d___init__ : Ss := (.cons (.ite (.not (.call "are_strings" [.at_ 0] (.cons (.var 1) .nil) .nil)) (.cons .never .nil) .nil) (.cons (.ite (.not (.call "are_steps" [.at_ 0, .at_ 1] (.cons (.var 2) (.cons (.bi false .len (.cons (.var 1) .nil)) .nil)) .nil)) (.cons .never .nil) .nil) (.cons (.ite (.not (.call "is_memory" [.at_ 0] (.cons (.var 3) .nil) .nil)) (.cons .never .nil) .nil) (.cons (.asg (.fld (.var 0) "own_strings") (.bi false .tuple (.cons (.lc false (.bi false .tuple (.cons (.var 4) .nil)) (.name 4) (.seq (.var 1)) .no [4]) .nil))) (.cons (.asg (.fld (.var 0) "own_steps") (.bi false .tuple (.cons (.lc false (.bi false .tuple (.cons (.var 4) .nil)) (.name 4) (.seq (.var 2)) .no [4]) .nil))) (.cons (.asg (.fld (.var 0) "own_memory") (.bi false .tuple (.cons (.var 3) .nil))) .nil))))))
def k_Hall_d___init__ : Cfg := ⟨gn, n_Hall_d___init__, defScope s_Hall_d___init__, [], [], []⟩
theorem sc_Hall_d___init__ : FnScope n_Hall_d___init__ g_Hall_d___init__.ps (defScope s_Hall_d___init__) := ⟨rfl, rfl, rfl, by decide +kernel, rfl, by decide +kernel, by decide +kernel⟩
set_option maxRecDepth 100000 in
theorem c_Hall_d___init__ : cmpSs 60 k_Hall_d___init__ (defBody s_Hall_d___init__) = some b_Hall_d___init__ := by kernel_rfl
def n_is_balanced : List Str := ["hall", "person", "steps", "due", "one", "other"]
def b_is_balanced : Ss := (.cons (.asg (.tup (.cons (.name 2) (.cons (.name 3) .nil))) (.tup (.cons (.ix (.meth "Hall" "steps" [.at_ 0] (.var 0) .nil .nil) (.var 1)) (.cons (.bin false .Add (.call "middle_of" [.at_ 0, .at_ 1] (.cons (.var 0) (.cons (.var 1) .nil)) .nil) (.cst (.int 1))) .nil)))) (.cons (.ret (.bi false .all (.cons (.lc false (.cmp .Eq (.bin false .Add (.var 4) (.var 5)) (.var 3)) (.tup (.cons (.name 4) (.cons (.name 5) .nil))) (.zip true (.var 2) (.rev false (.var 2))) .no [4, 5]) .nil))) .nil))
def k_is_balanced : Cfg := ⟨gn, n_is_balanced, defScope s_is_balanced, [], [], [(⟨8, 18, 8, 30⟩, "Hall")]⟩
theorem sc_is_balanced : FnScope n_is_balanced g_is_balanced.ps (defScope s_is_balanced) := ⟨rfl, rfl, rfl, by decide +kernel, rfl, by decide +kernel, by decide +kernel⟩
set_option maxRecDepth 100000 in
theorem c_is_balanced : cmpSs 60 k_is_balanced (defBody s_is_balanced) = some b_is_balanced := by kernel_rfl
def n__law_bent : List Str := ["_law_box_here", "_law_steps", "_law_at", "_law_own", "_law_place", "_law_by"]
def b__law_bent : Ss := (.cons (.asg (.name 2) (.call "_law_take" [.at_ 0, .at_ 1] (.cons (.var 0) (.cons (.bi false .len (.cons (.var 1) .nil)) .nil)) .nil)) (.cons (.asg (.name 3) (.bi false .list (.cons (.ix (.var 1) (.var 2)) .nil))) (.cons (.par2 4 5 (.call "_law_take" [.at_ 0, .at_ 1] (.cons (.var 0) (.cons (.bi false .len (.cons (.var 3) .nil)) .nil)) .nil) (.call "_law_pick" [.at_ 0, .at_ 1] (.cons (.var 0) (.cons (.lst false (.cons (.cst (.int 1)) (.cons (.neg (.cst (.int 1))) (.cons (.cst (.int 3)) (.cons (.neg (.cst (.int 4))) .nil))))) .nil)) .nil)) (.cons (.asg (.name 3) (.sp false .sset (.cons (.bin false .Add (.bin false .Add (.slc false (.var 3) .no (.so (.var 4))) (.lst false (.cons (.bin false .Add (.ix (.var 3) (.var 4)) (.var 5)) .nil))) (.slc false (.var 3) (.so (.bin false .Add (.var 4) (.cst (.int 1)))) .no)) .nil))) (.cons (.ret (.bin false .Add (.bin false .Add (.slc false (.var 1) .no (.so (.var 2))) (.lst false (.cons (.bi false .tuple (.cons (.var 3) .nil)) .nil))) (.slc false (.var 1) (.so (.bin false .Add (.var 2) (.cst (.int 1)))) .no))) .nil)))))
def k__law_bent : Cfg := ⟨gn, n__law_bent, defScope s__law_bent, [], [], []⟩
theorem sc__law_bent : FnScope n__law_bent g__law_bent.ps (defScope s__law_bent) := ⟨rfl, rfl, rfl, by decide +kernel, rfl, by decide +kernel, by decide +kernel⟩
set_option maxRecDepth 100000 in
theorem c__law_bent : cmpSs 60 k__law_bent (defBody s__law_bent) = some b__law_bent := by kernel_rfl
def n__law_pick : List Str := ["_law_box_here", "_law_some"]
def b__law_pick : Ss := (.cons (.ret (.ix (.var 1) (.call "_law_take" [.at_ 0, .at_ 1] (.cons (.var 0) (.cons (.bi false .len (.cons (.var 1) .nil)) .nil)) .nil))) .nil)
def k__law_pick : Cfg := ⟨gn, n__law_pick, defScope s__law_pick, [], [], []⟩
theorem sc__law_pick : FnScope n__law_pick g__law_pick.ps (defScope s__law_pick) := ⟨rfl, rfl, rfl, by decide +kernel, rfl, by decide +kernel, by decide +kernel⟩
set_option maxRecDepth 100000 in
theorem c__law_pick : cmpSs 60 k__law_pick (defBody s__law_pick) = some b__law_pick := by kernel_rfl
def n__law_middle : List Str := ["_law_strings_here", "_law_memory_here", "_law_tops", "_law_who", "_law_string", "_law_top"]
def b__law_middle : Ss := (.cons (.ret (.bin false .Mult (.bi false .sum (.cons (.var 1) .nil)) (.bi false .sum (.cons (.lc false (.bin false .Mult (.var 4) (.var 5)) (.tup (.cons (.name 4) (.cons (.name 5) .nil))) (.zip false (.ix (.var 0) (.var 3)) (.var 2)) .no [4, 5]) .nil)))) .nil)
def k__law_middle : Cfg := ⟨gn, n__law_middle, defScope s__law_middle, [], [], []⟩
theorem sc__law_middle : FnScope n__law_middle g__law_middle.ps (defScope s__law_middle) := ⟨rfl, rfl, rfl, by decide +kernel, rfl, by decide +kernel, by decide +kernel⟩
set_option maxRecDepth 100000 in
theorem c__law_middle : cmpSs 60 k__law_middle (defBody s__law_middle) = some b__law_middle := by kernel_rfl
def n__law_paired : List Str := ["_law_box_here", "_law_middle_here", "_law_top", "_law_reach", "_law_found", "_law_turn", "_law_more", "_law_step"]
def b__law_paired : Ss := (.cons (.asg (.name 4) (.lst false .nil)) (.cons (.for_ (.name 5) (.range1 (.cst (.int 40))) (.cons (.asg (.name 7) (.bin false .Add (.bin false .Sub (.call "_law_take" [.at_ 0, .at_ 1] (.cons (.var 0) (.cons (.bin false .Add (.bin false .Mult (.cst (.int 2)) (.var 3)) (.cst (.int 1))) .nil)) .nil) (.var 3)) (.bin false .FloorDiv (.var 1) (.cst (.int 2))))) (.cons (.ite (.and (.cmp .Lt (.bi false .len (.cons (.var 4) .nil)) (.bin false .Mult (.bin false .FloorDiv (.var 2) (.cst (.int 2))) (.cst (.int 2)))) (.and (.cmp .NotIn (.var 7) (.var 4)) (.cmp .NotEq (.bin false .Mult (.cst (.int 2)) (.var 7)) (.bin false .Add (.var 1) (.cst (.int 1)))))) (.cons (.asg (.name 4) (.bin false .Add (.var 4) (.lst false (.cons (.var 7) (.cons (.bin false .Sub (.bin false .Add (.var 1) (.cst (.int 1))) (.var 7)) .nil))))) .nil) .nil) .nil))) (.cons (.for_ (.name 6) (.range2 (.bin false .Add (.var 3) (.cst (.int 2))) (.bin false .Add (.var 3) (.cst (.int 9)))) (.cons (.ite (.cmp .Lt (.bi false .len (.cons (.var 4) .nil)) (.bin false .Mult (.bin false .FloorDiv (.var 2) (.cst (.int 2))) (.cst (.int 2)))) (.cons (.asg (.name 4) (.bin false .Add (.var 4) (.lst false (.cons (.bin false .Add (.bin false .Add (.bin false .FloorDiv (.var 1) (.cst (.int 2))) (.var 6)) (.cst (.int 1))) (.cons (.bin false .Sub (.bin false .Sub (.var 1) (.bin false .FloorDiv (.var 1) (.cst (.int 2)))) (.var 6)) .nil))))) .nil) .nil) .nil)) (.cons (.ret (.bi false .tuple (.cons (.bi false .sorted (.cons (.bin false .Add (.var 4) (.bin false .Mult (.lst false (.cons (.bin false .FloorDiv (.bin false .Add (.var 1) (.cst (.int 1))) (.cst (.int 2))) .nil)) (.bin false .Mod (.var 2) (.cst (.int 2))))) .nil)) .nil))) .nil))))
def k__law_paired : Cfg := ⟨gn, n__law_paired, defScope s__law_paired, [], [], []⟩
theorem sc__law_paired : FnScope n__law_paired g__law_paired.ps (defScope s__law_paired) := ⟨rfl, rfl, rfl, by decide +kernel, rfl, by decide +kernel, by decide +kernel⟩
set_option maxRecDepth 100000 in
theorem c__law_paired : cmpSs 60 k__law_paired (defBody s__law_paired) = some b__law_paired := by kernel_rfl
def n__law_same : List Str := ["_law_found", "_law_due", "_law_one", "_law_other"]
def b__law_same : Ss := (.cons (.ite (.isi (.var 1) ["list", "tuple"]) (.cons (.ite (.or (.cmp .NotEq (.isi (.var 0) ["list"]) (.isi (.var 1) ["list"])) (.cmp .NotEq (.isi (.var 0) ["tuple"]) (.isi (.var 1) ["tuple"]))) (.cons (.ret (.cst (.bl false))) .nil) .nil) (.cons (.ret (.and (.cmp .Eq (.bi false .len (.cons (.var 0) .nil)) (.bi false .len (.cons (.var 1) .nil))) (.bi false .all (.cons (.lc false (.call "_law_same" [.at_ 0, .at_ 1] (.cons (.var 2) (.cons (.var 3) .nil)) .nil) (.tup (.cons (.name 2) (.cons (.name 3) .nil))) (.zip false (.var 0) (.var 1)) .no [2, 3]) .nil)))) .nil)) .nil) (.cons (.ite (.or (.cmp .Is (.var 1) (.cst .non)) (.isi (.var 1) ["str"])) (.cons (.ret (.and (.cmp .Eq (.var 0) (.var 1)) (.cmp .Eq (.isi (.var 0) ["str"]) (.isi (.var 1) ["str"])))) .nil) .nil) (.cons (.ite (.isi (.var 1) ["bool"]) (.cons (.ret (.and (.isi (.var 0) ["bool"]) (.cmp .Eq (.var 0) (.var 1)))) .nil) .nil) (.cons (.ret (.and (.isi (.var 0) ["int"]) (.and (.not (.isi (.var 0) ["bool"])) (.cmp .Eq (.var 0) (.var 1))))) .nil))))
def k__law_same : Cfg := ⟨gn, n__law_same, defScope s__law_same, [], [], []⟩
theorem sc__law_same : FnScope n__law_same g__law_same.ps (defScope s__law_same) := ⟨rfl, rfl, rfl, by decide +kernel, rfl, by decide +kernel, by decide +kernel⟩
set_option maxRecDepth 100000 in
theorem c__law_same : cmpSs 60 k__law_same (defBody s__law_same) = some b__law_same := by kernel_rfl
def n_middles : List Str := ["hall", "person"]
def b_middles : Ss := (.cons (.ret (.bi false .tuple (.cons (.lc false (.call "middle_of" [.at_ 0, .at_ 1] (.cons (.var 0) (.cons (.var 1) .nil)) .nil) (.name 1) (.range1 (.olen "Hall" (.var 0))) .no [1]) .nil))) .nil)
def k_middles : Cfg := ⟨gn, n_middles, defScope s_middles, [], [], [(⟨6, 62, 6, 71⟩, "Hall")]⟩
theorem sc_middles : FnScope n_middles g_middles.ps (defScope s_middles) := ⟨rfl, rfl, rfl, by decide +kernel, rfl, by decide +kernel, by decide +kernel⟩
set_option maxRecDepth 100000 in
theorem c_middles : cmpSs 60 k_middles (defBody s_middles) = some b_middles := by kernel_rfl
def n__law_is_balanced : List Str := ["_law_steps", "_law_middle_here", "_law_one", "_law_other"]
def b__law_is_balanced : Ss := (.cons (.ret (.bi false .all (.cons (.lc false (.cmp .Eq (.bin false .Add (.var 2) (.var 3)) (.bin false .Add (.var 1) (.cst (.int 1)))) (.tup (.cons (.name 2) (.cons (.name 3) .nil))) (.zip false (.var 0) (.rev false (.var 0))) .no [2, 3]) .nil))) .nil)
def k__law_is_balanced : Cfg := ⟨gn, n__law_is_balanced, defScope s__law_is_balanced, [], [], []⟩
theorem sc__law_is_balanced : FnScope n__law_is_balanced g__law_is_balanced.ps (defScope s__law_is_balanced) := ⟨rfl, rfl, rfl, by decide +kernel, rfl, by decide +kernel, by decide +kernel⟩
set_option maxRecDepth 100000 in
theorem c__law_is_balanced : cmpSs 60 k__law_is_balanced (defBody s__law_is_balanced) = some b__law_is_balanced := by kernel_rfl
def n_mirror : List Str := ["hall", "standing", "top", "posture"]
def b_mirror : Ss := (.cons (.ret (.bi false .tuple (.cons (.lc false (.bin false .Sub (.var 2) (.var 3)) (.tup (.cons (.name 2) (.cons (.name 3) .nil))) (.zip true (.meth "Hall" "tops" [.at_ 0] (.var 0) .nil .nil) (.var 1)) .no [2, 3]) .nil))) .nil)
def k_mirror : Cfg := ⟨gn, n_mirror, defScope s_mirror, [], [], [(⟨11, 56, 11, 67⟩, "Hall")]⟩
theorem sc_mirror : FnScope n_mirror g_mirror.ps (defScope s_mirror) := ⟨rfl, rfl, rfl, by decide +kernel, rfl, by decide +kernel, by decide +kernel⟩
set_option maxRecDepth 100000 in
theorem c_mirror : cmpSs 60 k_mirror (defBody s_mirror) = some b_mirror := by kernel_rfl
def n_are_strings : List Str := ["thing", "row"]
def b_are_strings : Ss := (.cons (.ite (.or (.not (.isi (.var 0) ["list", "tuple"])) (.cmp .Eq (.bi false .len (.cons (.var 0) .nil)) (.cst (.int 0)))) (.cons (.ret (.cst (.bl false))) .nil) .nil) (.cons (.ret (.bi false .all (.cons (.lc false (.and (.call "are_numbers" [.at_ 0] (.cons (.var 1) .nil) .nil) (.cmp .Eq (.bi false .len (.cons (.var 1) .nil)) (.bi false .len (.cons (.var 0) .nil)))) (.name 1) (.seq (.var 0)) .no [1]) .nil))) .nil))
def k_are_strings : Cfg := ⟨gn, n_are_strings, defScope s_are_strings, [], [], []⟩
theorem sc_are_strings : FnScope n_are_strings g_are_strings.ps (defScope s_are_strings) := ⟨rfl, rfl, rfl, by decide +kernel, rfl, by decide +kernel, by decide +kernel⟩
set_option maxRecDepth 100000 in
theorem c_are_strings : cmpSs 60 k_are_strings (defBody s_are_strings) = some b_are_strings := by kernel_rfl
def n_are_steps : List Str := ["thing", "many", "one"]
def b_are_steps : Ss := (.cons (.ite (.or (.not (.isi (.var 0) ["list", "tuple"])) (.cmp .NotEq (.bi false .len (.cons (.var 0) .nil)) (.var 1))) (.cons (.ret (.cst (.bl false))) .nil) .nil) (.cons (.ret (.bi false .all (.cons (.lc false (.call "are_steps_of_one" [.at_ 0] (.cons (.var 2) .nil) .nil) (.name 2) (.seq (.var 0)) .no [2]) .nil))) .nil))
def k_are_steps : Cfg := ⟨gn, n_are_steps, defScope s_are_steps, [], [], []⟩
theorem sc_are_steps : FnScope n_are_steps g_are_steps.ps (defScope s_are_steps) := ⟨rfl, rfl, rfl, by decide +kernel, rfl, by decide +kernel, by decide +kernel⟩
set_option maxRecDepth 100000 in
theorem c_are_steps : cmpSs 60 k_are_steps (defBody s_are_steps) = some b_are_steps := by kernel_rfl
def n_is_memory : List Str := ["thing"]
def b_is_memory : Ss := (.cons (.ret (.and (.call "are_numbers" [.at_ 0] (.cons (.var 0) .nil) .nil) (.and (.chain .LtE .LtE (.cst (.int 1)) (.bi false .len (.cons (.var 0) .nil)) (.cst (.int 5))) (.cmp .NotEq (.ix (.var 0) (.neg (.cst (.int 1)))) (.cst (.int 0)))))) .nil)
def k_is_memory : Cfg := ⟨gn, n_is_memory, defScope s_is_memory, [], [], []⟩
theorem sc_is_memory : FnScope n_is_memory g_is_memory.ps (defScope s_is_memory) := ⟨rfl, rfl, rfl, by decide +kernel, rfl, by decide +kernel, by decide +kernel⟩
set_option maxRecDepth 100000 in
theorem c_is_memory : cmpSs 60 k_is_memory (defBody s_is_memory) = some b_is_memory := by kernel_rfl
def n_Hall_d_steps : List Str := ["self"]
def b_Hall_d_steps : Ss := (.cons (.ret (.fld (.var 0) "own_steps")) .nil)
def k_Hall_d_steps : Cfg := ⟨gn, n_Hall_d_steps, defScope s_Hall_d_steps, [], [], []⟩
theorem sc_Hall_d_steps : FnScope n_Hall_d_steps g_Hall_d_steps.ps (defScope s_Hall_d_steps) := ⟨rfl, rfl, rfl, by decide +kernel, rfl, by decide +kernel, by decide +kernel⟩
set_option maxRecDepth 100000 in
theorem c_Hall_d_steps : cmpSs 60 k_Hall_d_steps (defBody s_Hall_d_steps) = some b_Hall_d_steps := by kernel_rfl
def n_middle_of : List Str := ["hall", "person", "row", "weight", "top"]
def b_middle_of : Ss := (.cons (.asg (.name 2) (.ix (.meth "Hall" "strings" [.at_ 0] (.var 0) .nil .nil) (.var 1))) (.cons (.ret (.bin false .Mult (.bi false .sum (.cons (.meth "Hall" "memory" [.at_ 0] (.var 0) .nil .nil) .nil)) (.bi false .sum (.cons (.lc false (.bin false .Mult (.var 3) (.var 4)) (.tup (.cons (.name 3) (.cons (.name 4) .nil))) (.zip true (.var 2) (.meth "Hall" "tops" [.at_ 0] (.var 0) .nil .nil)) .no [3, 4]) .nil)))) .nil))
def k_middle_of : Cfg := ⟨gn, n_middle_of, defScope s_middle_of, [], [], [(⟨3, 10, 3, 24⟩, "Hall"), (⟨4, 15, 4, 28⟩, "Hall"), (⟨4, 78, 4, 89⟩, "Hall")]⟩
theorem sc_middle_of : FnScope n_middle_of g_middle_of.ps (defScope s_middle_of) := ⟨rfl, rfl, rfl, by decide +kernel, rfl, by decide +kernel, by decide +kernel⟩
set_option maxRecDepth 100000 in
theorem c_middle_of : cmpSs 60 k_middle_of (defBody s_middle_of) = some b_middle_of := by kernel_rfl
def n_Hall_d___len__ : List Str := ["self"]
def b_Hall_d___len__ : Ss := (.cons (.ret (.bi false .len (.cons (.fld (.var 0) "own_steps") .nil))) .nil)
def k_Hall_d___len__ : Cfg := ⟨gn, n_Hall_d___len__, defScope s_Hall_d___len__, [], [], []⟩
theorem sc_Hall_d___len__ : FnScope n_Hall_d___len__ g_Hall_d___len__.ps (defScope s_Hall_d___len__) := ⟨rfl, rfl, rfl, by decide +kernel, rfl, by decide +kernel, by decide +kernel⟩
set_option maxRecDepth 100000 in
theorem c_Hall_d___len__ : cmpSs 60 k_Hall_d___len__ (defBody s_Hall_d___len__) = some b_Hall_d___len__ := by kernel_rfl
def n_Hall_d_tops : List Str := ["self", "row"]
def b_Hall_d_tops : Ss := (.cons (.ret (.bi false .tuple (.cons (.lc false (.bi false .len (.cons (.var 1) .nil)) (.name 1) (.seq (.fld (.var 0) "own_steps")) .no [1]) .nil))) .nil)
def k_Hall_d_tops : Cfg := ⟨gn, n_Hall_d_tops, defScope s_Hall_d_tops, [], [], []⟩
theorem sc_Hall_d_tops : FnScope n_Hall_d_tops g_Hall_d_tops.ps (defScope s_Hall_d_tops) := ⟨rfl, rfl, rfl, by decide +kernel, rfl, by decide +kernel, by decide +kernel⟩
set_option maxRecDepth 100000 in
theorem c_Hall_d_tops : cmpSs 60 k_Hall_d_tops (defBody s_Hall_d_tops) = some b_Hall_d_tops := by kernel_rfl
def n_are_numbers : List Str := ["thing", "one"]
def b_are_numbers : Ss := (.cons (.ret (.and (.isi (.var 0) ["list", "tuple"]) (.bi false .all (.cons (.lc false (.call "is_number" [.at_ 0] (.cons (.var 1) .nil) .nil) (.name 1) (.seq (.var 0)) .no [1]) .nil)))) .nil)
def k_are_numbers : Cfg := ⟨gn, n_are_numbers, defScope s_are_numbers, [], [], []⟩
theorem sc_are_numbers : FnScope n_are_numbers g_are_numbers.ps (defScope s_are_numbers) := ⟨rfl, rfl, rfl, by decide +kernel, rfl, by decide +kernel, by decide +kernel⟩
set_option maxRecDepth 100000 in
theorem c_are_numbers : cmpSs 60 k_are_numbers (defBody s_are_numbers) = some b_are_numbers := by kernel_rfl
def n_are_steps_of_one : List Str := ["thing"]
def b_are_steps_of_one : Ss := (.cons (.ret (.and (.call "are_numbers" [.at_ 0] (.cons (.var 0) .nil) .nil) (.and (.chain .LtE .LtE (.cst (.int 1)) (.bi false .len (.cons (.var 0) .nil)) (.cst (.int 4))) (.call "rises" [.at_ 0] (.cons (.var 0) .nil) .nil)))) .nil)
def k_are_steps_of_one : Cfg := ⟨gn, n_are_steps_of_one, defScope s_are_steps_of_one, [], [], []⟩
theorem sc_are_steps_of_one : FnScope n_are_steps_of_one g_are_steps_of_one.ps (defScope s_are_steps_of_one) := ⟨rfl, rfl, rfl, by decide +kernel, rfl, by decide +kernel, by decide +kernel⟩
set_option maxRecDepth 100000 in
theorem c_are_steps_of_one : cmpSs 60 k_are_steps_of_one (defBody s_are_steps_of_one) = some b_are_steps_of_one := by kernel_rfl
def n_Hall_d_strings : List Str := ["self"]
def b_Hall_d_strings : Ss := (.cons (.ret (.fld (.var 0) "own_strings")) .nil)
def k_Hall_d_strings : Cfg := ⟨gn, n_Hall_d_strings, defScope s_Hall_d_strings, [], [], []⟩
theorem sc_Hall_d_strings : FnScope n_Hall_d_strings g_Hall_d_strings.ps (defScope s_Hall_d_strings) := ⟨rfl, rfl, rfl, by decide +kernel, rfl, by decide +kernel, by decide +kernel⟩
set_option maxRecDepth 100000 in
theorem c_Hall_d_strings : cmpSs 60 k_Hall_d_strings (defBody s_Hall_d_strings) = some b_Hall_d_strings := by kernel_rfl
def n_Hall_d_memory : List Str := ["self"]
def b_Hall_d_memory : Ss := (.cons (.ret (.fld (.var 0) "own_memory")) .nil)
def k_Hall_d_memory : Cfg := ⟨gn, n_Hall_d_memory, defScope s_Hall_d_memory, [], [], []⟩
theorem sc_Hall_d_memory : FnScope n_Hall_d_memory g_Hall_d_memory.ps (defScope s_Hall_d_memory) := ⟨rfl, rfl, rfl, by decide +kernel, rfl, by decide +kernel, by decide +kernel⟩
set_option maxRecDepth 100000 in
theorem c_Hall_d_memory : cmpSs 60 k_Hall_d_memory (defBody s_Hall_d_memory) = some b_Hall_d_memory := by kernel_rfl
def n_is_number : List Str := ["thing"]
def b_is_number : Ss := (.cons (.ret (.and (.isi (.var 0) ["int"]) (.not (.isi (.var 0) ["bool"])))) .nil)
def k_is_number : Cfg := ⟨gn, n_is_number, defScope s_is_number, [], [], []⟩
theorem sc_is_number : FnScope n_is_number g_is_number.ps (defScope s_is_number) := ⟨rfl, rfl, rfl, by decide +kernel, rfl, by decide +kernel, by decide +kernel⟩
set_option maxRecDepth 100000 in
theorem c_is_number : cmpSs 60 k_is_number (defBody s_is_number) = some b_is_number := by kernel_rfl
def n_rises : List Str := ["numbers", "one", "other"]
def b_rises : Ss := (.cons (.ret (.bi false .all (.cons (.lc false (.cmp .Lt (.var 1) (.var 2)) (.tup (.cons (.name 1) (.cons (.name 2) .nil))) (.zip false (.var 0) (.slc false (.var 0) (.so (.cst (.int 1))) .no)) .no [1, 2]) .nil))) .nil)
def k_rises : Cfg := ⟨gn, n_rises, defScope s_rises, [], [], []⟩
theorem sc_rises : FnScope n_rises g_rises.ps (defScope s_rises) := ⟨rfl, rfl, rfl, by decide +kernel, rfl, by decide +kernel, by decide +kernel⟩
set_option maxRecDepth 100000 in
theorem c_rises : cmpSs 60 k_rises (defBody s_rises) = some b_rises := by kernel_rfl
def T : Tb := ([⟨"law", 1, 2, b_law⟩, ⟨"_law_right", 1, 9, b__law_right⟩, ⟨"_law_box", 2, 3, b__law_box⟩, ⟨"_law_memory", 2, 6, b__law_memory⟩, ⟨"_law_take", 2, 4, b__law_take⟩, ⟨"_law_strings", 3, 12, b__law_strings⟩, ⟨"_law_balanced", 4, 11, b__law_balanced⟩, ⟨"_law_hall_right", 4, 14, b__law_hall_right⟩, ⟨"Hall.__init__", 4, 5, b_Hall_d___init__⟩, ⟨"is_balanced", 2, 6, b_is_balanced⟩, ⟨"_law_bent", 2, 6, b__law_bent⟩, ⟨"_law_pick", 2, 2, b__law_pick⟩, ⟨"_law_middle", 4, 6, b__law_middle⟩, ⟨"_law_paired", 4, 8, b__law_paired⟩, ⟨"_law_same", 2, 4, b__law_same⟩, ⟨"middles", 1, 2, b_middles⟩, ⟨"_law_is_balanced", 2, 4, b__law_is_balanced⟩, ⟨"mirror", 2, 4, b_mirror⟩, ⟨"are_strings", 1, 2, b_are_strings⟩, ⟨"are_steps", 2, 3, b_are_steps⟩, ⟨"is_memory", 1, 1, b_is_memory⟩, ⟨"Hall.steps", 1, 1, b_Hall_d_steps⟩, ⟨"middle_of", 2, 5, b_middle_of⟩, ⟨"Hall.__len__", 1, 1, b_Hall_d___len__⟩, ⟨"Hall.tops", 1, 2, b_Hall_d_tops⟩] : List Fd) ++ ([⟨"are_numbers", 1, 2, b_are_numbers⟩, ⟨"are_steps_of_one", 1, 1, b_are_steps_of_one⟩, ⟨"Hall.strings", 1, 1, b_Hall_d_strings⟩, ⟨"Hall.memory", 1, 1, b_Hall_d_memory⟩, ⟨"is_number", 1, 1, b_is_number⟩, ⟨"rises", 1, 3, b_rises⟩] : List Fd)
set_option maxRecDepth 100000 in
theorem all_mk {P : Program} {w : World} {K : PySem.W.Frag} {h : Heap} {mg : Str → Option Value} {fa : Addr} (X : K.In h) (G : h.Ns mainGlobals mg) (hfa : mg "law" = some (.ref fa))
    {C_Hall f0 f1 f2 f3 f4 f5 f6 f7 f8 T8 A_d8_0 tk_d8_0_0 nn_d8_0 nT8 f9 f10 f11 f12 f13 f14 f15 f16 f17 f18 f19 f20 f21 f22 f23 f24 f25 f26 f27 f28 f29 f30 tk_cv_MOST_BEATS tk_cv_MOST_STEPS : Addr} {kV0 oc0 dc0 pm0 cd0 ct0 kV1 oc1 dc1 pm1 cd1 ct1 kV2 oc2 dc2 pm2 cd2 ct2 kV3 oc3 dc3 pm3 cd3 ct3 kV4 oc4 dc4 pm4 cd4 ct4 kV5 oc5 dc5 pm5 cd5 ct5 kV6 oc6 dc6 pm6 cd6 ct6 kV7 oc7 dc7 pm7 cd7 ct7 kV8 oc8 dc8 pm8 cd8 ct8 oT8 kV9 oc9 dc9 pm9 cd9 ct9 kV10 oc10 dc10 pm10 cd10 ct10 kV11 oc11 dc11 pm11 cd11 ct11 kV12 oc12 dc12 pm12 cd12 ct12 kV13 oc13 dc13 pm13 cd13 ct13 kV14 oc14 dc14 pm14 cd14 ct14 kV15 oc15 dc15 pm15 cd15 ct15 kV16 oc16 dc16 pm16 cd16 ct16 kV17 oc17 dc17 pm17 cd17 ct17 kV18 oc18 dc18 pm18 cd18 ct18 kV19 oc19 dc19 pm19 cd19 ct19 kV20 oc20 dc20 pm20 cd20 ct20 kV21 oc21 dc21 pm21 cd21 ct21 kV22 oc22 dc22 pm22 cd22 ct22 kV23 oc23 dc23 pm23 cd23 ct23 kV24 oc24 dc24 pm24 cd24 ct24 kV25 oc25 dc25 pm25 cd25 ct25 kV26 oc26 dc26 pm26 cd26 ct26 kV27 oc27 dc27 pm27 cd27 ct27 kV28 oc28 dc28 pm28 cd28 ct28 kV29 oc29 dc29 pm29 cd29 ct29 kV30 oc30 dc30 pm30 cd30 ct30 : Value} {od0 an0 od1 an1 od2 an2 od3 an3 od4 an4 od5 an5 od6 an6 od7 an7 od8 an8 dd_d8_0 dT8 od9 an9 od10 an10 od11 an11 od12 an12 od13 an13 od14 an14 od15 an15 od16 an16 od17 an17 od18 an18 od19 an19 od20 an20 od21 an21 od22 an22 od23 an23 od24 an24 od25 an25 od26 an26 od27 an27 od28 an28 od29 an29 od30 an30 : Option Addr} {sl0 sl1 sl2 sl3 sl4 sl5 sl6 sl7 sl8 ss_d8_0 sT8 sl9 sl10 sl11 sl12 sl13 sl14 sl15 sl16 sl17 sl18 sl19 sl20 sl21 sl22 sl23 sl24 sl25 sl26 sl27 sl28 sl29 sl30 : Array (Option Value)}
    (aC_Hall : PySem.W.nsIn K mainGlobals "Hall" = some (some (.ref C_Hall)))
    (a0 : PySem.W.nsIn K mainGlobals "law" = some (some (.ref f0)))
    (l0 : K.lookup f0 = some ⟨oc0, od0, .func (PySem.W.fnOf "law" "law" (defArgs s_law) (defBody s_law) (defScope s_law) .none kV0 dc0 pm0 an0 cd0 ct0), sl0⟩)
    (c0 : PySem.W.codeIn K cd0 "law" = true)
    (k0 : PySem.W.keepIn K (.ref f0) = true)
    (a1 : PySem.W.nsIn K mainGlobals "_law_right" = some (some (.ref f1)))
    (l1 : K.lookup f1 = some ⟨oc1, od1, .func (PySem.W.fnOf "_law_right" "_law_right" (defArgs s__law_right) (defBody s__law_right) (defScope s__law_right) .none kV1 dc1 pm1 an1 cd1 ct1), sl1⟩)
    (c1 : PySem.W.codeIn K cd1 "_law_right" = true)
    (k1 : PySem.W.keepIn K (.ref f1) = true)
    (a2 : PySem.W.nsIn K mainGlobals "_law_box" = some (some (.ref f2)))
    (l2 : K.lookup f2 = some ⟨oc2, od2, .func (PySem.W.fnOf "_law_box" "_law_box" (defArgs s__law_box) (defBody s__law_box) (defScope s__law_box) .none kV2 dc2 pm2 an2 cd2 ct2), sl2⟩)
    (c2 : PySem.W.codeIn K cd2 "_law_box" = true)
    (k2 : PySem.W.keepIn K (.ref f2) = true)
    (a3 : PySem.W.nsIn K mainGlobals "_law_memory" = some (some (.ref f3)))
    (l3 : K.lookup f3 = some ⟨oc3, od3, .func (PySem.W.fnOf "_law_memory" "_law_memory" (defArgs s__law_memory) (defBody s__law_memory) (defScope s__law_memory) .none kV3 dc3 pm3 an3 cd3 ct3), sl3⟩)
    (c3 : PySem.W.codeIn K cd3 "_law_memory" = true)
    (k3 : PySem.W.keepIn K (.ref f3) = true)
    (a4 : PySem.W.nsIn K mainGlobals "_law_take" = some (some (.ref f4)))
    (l4 : K.lookup f4 = some ⟨oc4, od4, .func (PySem.W.fnOf "_law_take" "_law_take" (defArgs s__law_take) (defBody s__law_take) (defScope s__law_take) .none kV4 dc4 pm4 an4 cd4 ct4), sl4⟩)
    (c4 : PySem.W.codeIn K cd4 "_law_take" = true)
    (k4 : PySem.W.keepIn K (.ref f4) = true)
    (a5 : PySem.W.nsIn K mainGlobals "_law_strings" = some (some (.ref f5)))
    (l5 : K.lookup f5 = some ⟨oc5, od5, .func (PySem.W.fnOf "_law_strings" "_law_strings" (defArgs s__law_strings) (defBody s__law_strings) (defScope s__law_strings) .none kV5 dc5 pm5 an5 cd5 ct5), sl5⟩)
    (c5 : PySem.W.codeIn K cd5 "_law_strings" = true)
    (k5 : PySem.W.keepIn K (.ref f5) = true)
    (a6 : PySem.W.nsIn K mainGlobals "_law_balanced" = some (some (.ref f6)))
    (l6 : K.lookup f6 = some ⟨oc6, od6, .func (PySem.W.fnOf "_law_balanced" "_law_balanced" (defArgs s__law_balanced) (defBody s__law_balanced) (defScope s__law_balanced) .none kV6 dc6 pm6 an6 cd6 ct6), sl6⟩)
    (c6 : PySem.W.codeIn K cd6 "_law_balanced" = true)
    (k6 : PySem.W.keepIn K (.ref f6) = true)
    (a7 : PySem.W.nsIn K mainGlobals "_law_hall_right" = some (some (.ref f7)))
    (l7 : K.lookup f7 = some ⟨oc7, od7, .func (PySem.W.fnOf "_law_hall_right" "_law_hall_right" (defArgs s__law_hall_right) (defBody s__law_hall_right) (defScope s__law_hall_right) .none kV7 dc7 pm7 an7 cd7 ct7), sl7⟩)
    (c7 : PySem.W.codeIn K cd7 "_law_hall_right" = true)
    (k7 : PySem.W.keepIn K (.ref f7) = true)
    (a8 : PySem.W.findIn K (.ref C_Hall) "__init__" = some (some (.ref f8)))
    (i8 : PySem.W.isFn K (.ref f8) = true)
    (l8 : K.lookup f8 = some ⟨oc8, od8, .func (PySem.W.fnOf "__init__" "Hall.__init__" (defArgs s_Hall_d___init__) (defBody s_Hall_d___init__) (defScope s_Hall_d___init__) (.ref T8) kV8 dc8 pm8 an8 cd8 ct8), sl8⟩)
    (c8 : PySem.W.codeIn K cd8 "Hall.__init__" = true)
    (k8 : PySem.W.keepIn K (.ref f8) = true)
    (t8 : K.lookup T8 = some ⟨oT8, dT8, .seq #[(.ref A_d8_0)] nT8, sT8⟩)
    (ld_d8_0 : K.lookup A_d8_0 = some ⟨.type "tuple", dd_d8_0, .seq #[(.int 1 tk_d8_0_0)] nn_d8_0, ss_d8_0⟩)
    (a9 : PySem.W.nsIn K mainGlobals "is_balanced" = some (some (.ref f9)))
    (l9 : K.lookup f9 = some ⟨oc9, od9, .func (PySem.W.fnOf "is_balanced" "is_balanced" (defArgs s_is_balanced) (defBody s_is_balanced) (defScope s_is_balanced) .none kV9 dc9 pm9 an9 cd9 ct9), sl9⟩)
    (c9 : PySem.W.codeIn K cd9 "is_balanced" = true)
    (k9 : PySem.W.keepIn K (.ref f9) = true)
    (a10 : PySem.W.nsIn K mainGlobals "_law_bent" = some (some (.ref f10)))
    (l10 : K.lookup f10 = some ⟨oc10, od10, .func (PySem.W.fnOf "_law_bent" "_law_bent" (defArgs s__law_bent) (defBody s__law_bent) (defScope s__law_bent) .none kV10 dc10 pm10 an10 cd10 ct10), sl10⟩)
    (c10 : PySem.W.codeIn K cd10 "_law_bent" = true)
    (k10 : PySem.W.keepIn K (.ref f10) = true)
    (a11 : PySem.W.nsIn K mainGlobals "_law_pick" = some (some (.ref f11)))
    (l11 : K.lookup f11 = some ⟨oc11, od11, .func (PySem.W.fnOf "_law_pick" "_law_pick" (defArgs s__law_pick) (defBody s__law_pick) (defScope s__law_pick) .none kV11 dc11 pm11 an11 cd11 ct11), sl11⟩)
    (c11 : PySem.W.codeIn K cd11 "_law_pick" = true)
    (k11 : PySem.W.keepIn K (.ref f11) = true)
    (a12 : PySem.W.nsIn K mainGlobals "_law_middle" = some (some (.ref f12)))
    (l12 : K.lookup f12 = some ⟨oc12, od12, .func (PySem.W.fnOf "_law_middle" "_law_middle" (defArgs s__law_middle) (defBody s__law_middle) (defScope s__law_middle) .none kV12 dc12 pm12 an12 cd12 ct12), sl12⟩)
    (c12 : PySem.W.codeIn K cd12 "_law_middle" = true)
    (k12 : PySem.W.keepIn K (.ref f12) = true)
    (a13 : PySem.W.nsIn K mainGlobals "_law_paired" = some (some (.ref f13)))
    (l13 : K.lookup f13 = some ⟨oc13, od13, .func (PySem.W.fnOf "_law_paired" "_law_paired" (defArgs s__law_paired) (defBody s__law_paired) (defScope s__law_paired) .none kV13 dc13 pm13 an13 cd13 ct13), sl13⟩)
    (c13 : PySem.W.codeIn K cd13 "_law_paired" = true)
    (k13 : PySem.W.keepIn K (.ref f13) = true)
    (a14 : PySem.W.nsIn K mainGlobals "_law_same" = some (some (.ref f14)))
    (l14 : K.lookup f14 = some ⟨oc14, od14, .func (PySem.W.fnOf "_law_same" "_law_same" (defArgs s__law_same) (defBody s__law_same) (defScope s__law_same) .none kV14 dc14 pm14 an14 cd14 ct14), sl14⟩)
    (c14 : PySem.W.codeIn K cd14 "_law_same" = true)
    (k14 : PySem.W.keepIn K (.ref f14) = true)
    (a15 : PySem.W.nsIn K mainGlobals "middles" = some (some (.ref f15)))
    (l15 : K.lookup f15 = some ⟨oc15, od15, .func (PySem.W.fnOf "middles" "middles" (defArgs s_middles) (defBody s_middles) (defScope s_middles) .none kV15 dc15 pm15 an15 cd15 ct15), sl15⟩)
    (c15 : PySem.W.codeIn K cd15 "middles" = true)
    (k15 : PySem.W.keepIn K (.ref f15) = true)
    (a16 : PySem.W.nsIn K mainGlobals "_law_is_balanced" = some (some (.ref f16)))
    (l16 : K.lookup f16 = some ⟨oc16, od16, .func (PySem.W.fnOf "_law_is_balanced" "_law_is_balanced" (defArgs s__law_is_balanced) (defBody s__law_is_balanced) (defScope s__law_is_balanced) .none kV16 dc16 pm16 an16 cd16 ct16), sl16⟩)
    (c16 : PySem.W.codeIn K cd16 "_law_is_balanced" = true)
    (k16 : PySem.W.keepIn K (.ref f16) = true)
    (a17 : PySem.W.nsIn K mainGlobals "mirror" = some (some (.ref f17)))
    (l17 : K.lookup f17 = some ⟨oc17, od17, .func (PySem.W.fnOf "mirror" "mirror" (defArgs s_mirror) (defBody s_mirror) (defScope s_mirror) .none kV17 dc17 pm17 an17 cd17 ct17), sl17⟩)
    (c17 : PySem.W.codeIn K cd17 "mirror" = true)
    (k17 : PySem.W.keepIn K (.ref f17) = true)
    (a18 : PySem.W.nsIn K mainGlobals "are_strings" = some (some (.ref f18)))
    (l18 : K.lookup f18 = some ⟨oc18, od18, .func (PySem.W.fnOf "are_strings" "are_strings" (defArgs s_are_strings) (defBody s_are_strings) (defScope s_are_strings) .none kV18 dc18 pm18 an18 cd18 ct18), sl18⟩)
    (c18 : PySem.W.codeIn K cd18 "are_strings" = true)
    (k18 : PySem.W.keepIn K (.ref f18) = true)
    (a19 : PySem.W.nsIn K mainGlobals "are_steps" = some (some (.ref f19)))
    (l19 : K.lookup f19 = some ⟨oc19, od19, .func (PySem.W.fnOf "are_steps" "are_steps" (defArgs s_are_steps) (defBody s_are_steps) (defScope s_are_steps) .none kV19 dc19 pm19 an19 cd19 ct19), sl19⟩)
    (c19 : PySem.W.codeIn K cd19 "are_steps" = true)
    (k19 : PySem.W.keepIn K (.ref f19) = true)
    (a20 : PySem.W.nsIn K mainGlobals "is_memory" = some (some (.ref f20)))
    (l20 : K.lookup f20 = some ⟨oc20, od20, .func (PySem.W.fnOf "is_memory" "is_memory" (defArgs s_is_memory) (defBody s_is_memory) (defScope s_is_memory) .none kV20 dc20 pm20 an20 cd20 ct20), sl20⟩)
    (c20 : PySem.W.codeIn K cd20 "is_memory" = true)
    (k20 : PySem.W.keepIn K (.ref f20) = true)
    (a21 : PySem.W.findIn K (.ref C_Hall) "steps" = some (some (.ref f21)))
    (i21 : PySem.W.isFn K (.ref f21) = true)
    (l21 : K.lookup f21 = some ⟨oc21, od21, .func (PySem.W.fnOf "steps" "Hall.steps" (defArgs s_Hall_d_steps) (defBody s_Hall_d_steps) (defScope s_Hall_d_steps) .none kV21 dc21 pm21 an21 cd21 ct21), sl21⟩)
    (c21 : PySem.W.codeIn K cd21 "Hall.steps" = true)
    (k21 : PySem.W.keepIn K (.ref f21) = true)
    (a22 : PySem.W.nsIn K mainGlobals "middle_of" = some (some (.ref f22)))
    (l22 : K.lookup f22 = some ⟨oc22, od22, .func (PySem.W.fnOf "middle_of" "middle_of" (defArgs s_middle_of) (defBody s_middle_of) (defScope s_middle_of) .none kV22 dc22 pm22 an22 cd22 ct22), sl22⟩)
    (c22 : PySem.W.codeIn K cd22 "middle_of" = true)
    (k22 : PySem.W.keepIn K (.ref f22) = true)
    (a23 : PySem.W.findIn K (.ref C_Hall) "__len__" = some (some (.ref f23)))
    (i23 : PySem.W.isFn K (.ref f23) = true)
    (l23 : K.lookup f23 = some ⟨oc23, od23, .func (PySem.W.fnOf "__len__" "Hall.__len__" (defArgs s_Hall_d___len__) (defBody s_Hall_d___len__) (defScope s_Hall_d___len__) .none kV23 dc23 pm23 an23 cd23 ct23), sl23⟩)
    (c23 : PySem.W.codeIn K cd23 "Hall.__len__" = true)
    (k23 : PySem.W.keepIn K (.ref f23) = true)
    (a24 : PySem.W.findIn K (.ref C_Hall) "tops" = some (some (.ref f24)))
    (i24 : PySem.W.isFn K (.ref f24) = true)
    (l24 : K.lookup f24 = some ⟨oc24, od24, .func (PySem.W.fnOf "tops" "Hall.tops" (defArgs s_Hall_d_tops) (defBody s_Hall_d_tops) (defScope s_Hall_d_tops) .none kV24 dc24 pm24 an24 cd24 ct24), sl24⟩)
    (c24 : PySem.W.codeIn K cd24 "Hall.tops" = true)
    (k24 : PySem.W.keepIn K (.ref f24) = true)
    (a25 : PySem.W.nsIn K mainGlobals "are_numbers" = some (some (.ref f25)))
    (l25 : K.lookup f25 = some ⟨oc25, od25, .func (PySem.W.fnOf "are_numbers" "are_numbers" (defArgs s_are_numbers) (defBody s_are_numbers) (defScope s_are_numbers) .none kV25 dc25 pm25 an25 cd25 ct25), sl25⟩)
    (c25 : PySem.W.codeIn K cd25 "are_numbers" = true)
    (k25 : PySem.W.keepIn K (.ref f25) = true)
    (a26 : PySem.W.nsIn K mainGlobals "are_steps_of_one" = some (some (.ref f26)))
    (l26 : K.lookup f26 = some ⟨oc26, od26, .func (PySem.W.fnOf "are_steps_of_one" "are_steps_of_one" (defArgs s_are_steps_of_one) (defBody s_are_steps_of_one) (defScope s_are_steps_of_one) .none kV26 dc26 pm26 an26 cd26 ct26), sl26⟩)
    (c26 : PySem.W.codeIn K cd26 "are_steps_of_one" = true)
    (k26 : PySem.W.keepIn K (.ref f26) = true)
    (a27 : PySem.W.findIn K (.ref C_Hall) "strings" = some (some (.ref f27)))
    (i27 : PySem.W.isFn K (.ref f27) = true)
    (l27 : K.lookup f27 = some ⟨oc27, od27, .func (PySem.W.fnOf "strings" "Hall.strings" (defArgs s_Hall_d_strings) (defBody s_Hall_d_strings) (defScope s_Hall_d_strings) .none kV27 dc27 pm27 an27 cd27 ct27), sl27⟩)
    (c27 : PySem.W.codeIn K cd27 "Hall.strings" = true)
    (k27 : PySem.W.keepIn K (.ref f27) = true)
    (a28 : PySem.W.findIn K (.ref C_Hall) "memory" = some (some (.ref f28)))
    (i28 : PySem.W.isFn K (.ref f28) = true)
    (l28 : K.lookup f28 = some ⟨oc28, od28, .func (PySem.W.fnOf "memory" "Hall.memory" (defArgs s_Hall_d_memory) (defBody s_Hall_d_memory) (defScope s_Hall_d_memory) .none kV28 dc28 pm28 an28 cd28 ct28), sl28⟩)
    (c28 : PySem.W.codeIn K cd28 "Hall.memory" = true)
    (k28 : PySem.W.keepIn K (.ref f28) = true)
    (a29 : PySem.W.nsIn K mainGlobals "is_number" = some (some (.ref f29)))
    (l29 : K.lookup f29 = some ⟨oc29, od29, .func (PySem.W.fnOf "is_number" "is_number" (defArgs s_is_number) (defBody s_is_number) (defScope s_is_number) .none kV29 dc29 pm29 an29 cd29 ct29), sl29⟩)
    (c29 : PySem.W.codeIn K cd29 "is_number" = true)
    (k29 : PySem.W.keepIn K (.ref f29) = true)
    (a30 : PySem.W.nsIn K mainGlobals "rises" = some (some (.ref f30)))
    (l30 : K.lookup f30 = some ⟨oc30, od30, .func (PySem.W.fnOf "rises" "rises" (defArgs s_rises) (defBody s_rises) (defScope s_rises) .none kV30 dc30 pm30 an30 cd30 ct30), sl30⟩)
    (c30 : PySem.W.codeIn K cd30 "rises" = true)
    (k30 : PySem.W.keepIn K (.ref f30) = true)
    (pg_Hall : PySem.W.plainGet K C_Hall Str.empty = true)
    (hd_Hall : PySem.W.hasDictIn K C_Hall = true)
    (po_Hall : PySem.W.plainOver K C_Hall = true)
    (sa_Hall : PySem.W.findIn K (.ref C_Hall) "__setattr__" = some (some (.builtin "object.__setattr__")))
    (mk_Hall : PySem.W.makesIn K C_Hall = true)
    (kc_Hall : PySem.W.keepIn K (.ref C_Hall) = true)
    (nf_Hall_own_strings : PySem.W.findIn K (.ref C_Hall) "own_strings" = some none)
    (nf_Hall_own_steps : PySem.W.findIn K (.ref C_Hall) "own_steps" = some none)
    (nf_Hall_own_memory : PySem.W.findIn K (.ref C_Hall) "own_memory" = some none)
    (mc_MOST_BEATS : PySem.W.nsIn K mainGlobals "MOST_BEATS" = some (some (.int 5 tk_cv_MOST_BEATS)))
    (mc_MOST_STEPS : PySem.W.nsIn K mainGlobals "MOST_STEPS" = some (some (.int 4 tk_cv_MOST_STEPS)))
    (z_len : PySem.W.nsIn K mainGlobals "len" = some none)
    (z_abs : PySem.W.nsIn K mainGlobals "abs" = some none)
    (z_int : PySem.W.nsIn K mainGlobals "int" = some none)
    (z_sum : PySem.W.nsIn K mainGlobals "sum" = some none)
    (z_all : PySem.W.nsIn K mainGlobals "all" = some none)
    (z_any : PySem.W.nsIn K mainGlobals "any" = some none)
    (z_tuple : PySem.W.nsIn K mainGlobals "tuple" = some none)
    (z_list : PySem.W.nsIn K mainGlobals "list" = some none)
    (z_min : PySem.W.nsIn K mainGlobals "min" = some none)
    (z_max : PySem.W.nsIn K mainGlobals "max" = some none)
    (z_isinstance : PySem.W.nsIn K mainGlobals "isinstance" = some none)
    (z_range : PySem.W.nsIn K mainGlobals "range" = some none)
    (z_zip : PySem.W.nsIn K mainGlobals "zip" = some none)
    (z_enumerate : PySem.W.nsIn K mainGlobals "enumerate" = some none)
    (z_bool : PySem.W.nsIn K mainGlobals "bool" = some none)
    (z_str : PySem.W.nsIn K mainGlobals "str" = some none)
    (z_sorted : PySem.W.nsIn K mainGlobals "sorted" = some none)
    (z_set : PySem.W.nsIn K mainGlobals "set" = some none)
    (hlaw : ∀ ns : List Int, ns.length ≤ 63 → (∀ z ∈ ns, Builtin.Int.intBits z ≤ 1048576) → callAt T 40 "law" [.frl (ns.map Sw.D.int)] (fun _ => none) (fun d _ => d = .bl true) noX) :
    ∃ fd : FuncData, (∀ (s : Shared) (v : Value), BindsTo s fd ⟨[v], []⟩ [("_law_script", v)]) ∧ ∀ base : Heap, K.In base → base.Ns mainGlobals mg → FnOk P w K mg base CX0 (2 * 40 + 1) fa fd ["_law_script"] (spLaw K 63) := by
  have e := Option.some.inj ((PySem.W.mg_of X G a0).symm.trans hfa)
  injection e with e
  subst e
  have cl_Hall : Cls K C_Hall := ⟨pg_Hall, hd_Hall, po_Hall, sa_Hall⟩
  let W : Ab := { K := K, cls := fun x => if x = "Hall" then some C_Hall else none, flds := gn.flds, cls_inj := ?inj, okC := ?okC, noat := ?noat }
  case inj => intro c d a h1 h2; split at h1 <;> split at h2 <;> first | (cases h1; done) | (cases h2; done) | (subst_vars; rfl)
  case okC => intro c a h1; split at h1 <;> first | (cases h1; exact cl_Hall) | (cases h1; done)
  case noat => intro c a f h1 hf; split at h1 <;> first | (cases h1; done) | (cases h1; simp only [gn, List.mem_cons, List.not_mem_nil, or_false] at hf; rcases hf with rfl | rfl | rfl <;> assumption)
  have F0 : FunD K "law" "law" (defArgs s_law) (defBody s_law) (defScope s_law) [] [] f0 _ := ⟨⟨_, _, _, _, _, _, _, _, _, _, rfl, l0, c0, .inl ⟨rfl, rfl⟩, .inl rfl⟩, k0⟩
  have D0 : DefAt W gn T "law" g_law f0 _ := ⟨_, _, _, _, _, _, _, n_law, _, 60, _, _, _, [], F0, sc_law, rfl, rfl, rfl, c_law, pats_of [] (by decide +kernel) trivial⟩
  have F1 : FunD K "_law_right" "_law_right" (defArgs s__law_right) (defBody s__law_right) (defScope s__law_right) [] [] f1 _ := ⟨⟨_, _, _, _, _, _, _, _, _, _, rfl, l1, c1, .inl ⟨rfl, rfl⟩, .inl rfl⟩, k1⟩
  have D1 : DefAt W gn T "_law_right" g__law_right f1 _ := ⟨_, _, _, _, _, _, _, n__law_right, _, 60, _, _, _, [], F1, sc__law_right, rfl, rfl, rfl, c__law_right, pats_of [(1, [])] (by decide +kernel) (And.intro (⟨_, rfl, fun j d m => by simp [List.mem_cons] at m, bnd00 F1 1 [] _ fun _ _ _ _ _ _ us ws h1 h2 => match us, ws, h1, h2 with | [_], [], _, _ => rfl⟩) trivial)⟩
  have F2 : FunD K "_law_box" "_law_box" (defArgs s__law_box) (defBody s__law_box) (defScope s__law_box) [] [] f2 _ := ⟨⟨_, _, _, _, _, _, _, _, _, _, rfl, l2, c2, .inl ⟨rfl, rfl⟩, .inl rfl⟩, k2⟩
  have D2 : DefAt W gn T "_law_box" g__law_box f2 _ := ⟨_, _, _, _, _, _, _, n__law_box, _, 60, _, _, _, [], F2, sc__law_box, rfl, rfl, rfl, c__law_box, pats_of [(2, [])] (by decide +kernel) (And.intro (⟨_, rfl, fun j d m => by simp [List.mem_cons] at m, bnd00 F2 2 [] _ fun _ _ _ _ _ _ us ws h1 h2 => match us, ws, h1, h2 with | [_, _], [], _, _ => rfl⟩) trivial)⟩
  have F3 : FunD K "_law_memory" "_law_memory" (defArgs s__law_memory) (defBody s__law_memory) (defScope s__law_memory) [] [] f3 _ := ⟨⟨_, _, _, _, _, _, _, _, _, _, rfl, l3, c3, .inl ⟨rfl, rfl⟩, .inl rfl⟩, k3⟩
  have D3 : DefAt W gn T "_law_memory" g__law_memory f3 _ := ⟨_, _, _, _, _, _, _, n__law_memory, _, 60, _, _, _, [], F3, sc__law_memory, rfl, rfl, rfl, c__law_memory, pats_of [(2, [])] (by decide +kernel) (And.intro (⟨_, rfl, fun j d m => by simp [List.mem_cons] at m, bnd00 F3 2 [] _ fun _ _ _ _ _ _ us ws h1 h2 => match us, ws, h1, h2 with | [_, _], [], _, _ => rfl⟩) trivial)⟩
  have F4 : FunD K "_law_take" "_law_take" (defArgs s__law_take) (defBody s__law_take) (defScope s__law_take) [] [] f4 _ := ⟨⟨_, _, _, _, _, _, _, _, _, _, rfl, l4, c4, .inl ⟨rfl, rfl⟩, .inl rfl⟩, k4⟩
  have D4 : DefAt W gn T "_law_take" g__law_take f4 _ := ⟨_, _, _, _, _, _, _, n__law_take, _, 60, _, _, _, [], F4, sc__law_take, rfl, rfl, rfl, c__law_take, pats_of [(2, [])] (by decide +kernel) (And.intro (⟨_, rfl, fun j d m => by simp [List.mem_cons] at m, bnd00 F4 2 [] _ fun _ _ _ _ _ _ us ws h1 h2 => match us, ws, h1, h2 with | [_, _], [], _, _ => rfl⟩) trivial)⟩
  have F5 : FunD K "_law_strings" "_law_strings" (defArgs s__law_strings) (defBody s__law_strings) (defScope s__law_strings) [] [] f5 _ := ⟨⟨_, _, _, _, _, _, _, _, _, _, rfl, l5, c5, .inl ⟨rfl, rfl⟩, .inl rfl⟩, k5⟩
  have D5 : DefAt W gn T "_law_strings" g__law_strings f5 _ := ⟨_, _, _, _, _, _, _, n__law_strings, _, 60, _, _, _, [], F5, sc__law_strings, rfl, rfl, rfl, c__law_strings, pats_of [(3, [])] (by decide +kernel) (And.intro (⟨_, rfl, fun j d m => by simp [List.mem_cons] at m, bnd00 F5 3 [] _ fun _ _ _ _ _ _ us ws h1 h2 => match us, ws, h1, h2 with | [_, _, _], [], _, _ => rfl⟩) trivial)⟩
  have F6 : FunD K "_law_balanced" "_law_balanced" (defArgs s__law_balanced) (defBody s__law_balanced) (defScope s__law_balanced) [] [] f6 _ := ⟨⟨_, _, _, _, _, _, _, _, _, _, rfl, l6, c6, .inl ⟨rfl, rfl⟩, .inl rfl⟩, k6⟩
  have D6 : DefAt W gn T "_law_balanced" g__law_balanced f6 _ := ⟨_, _, _, _, _, _, _, n__law_balanced, _, 60, _, _, _, [], F6, sc__law_balanced, rfl, rfl, rfl, c__law_balanced, pats_of [(4, [])] (by decide +kernel) (And.intro (⟨_, rfl, fun j d m => by simp [List.mem_cons] at m, bnd00 F6 4 [] _ fun _ _ _ _ _ _ us ws h1 h2 => match us, ws, h1, h2 with | [_, _, _, _], [], _, _ => rfl⟩) trivial)⟩
  have F7 : FunD K "_law_hall_right" "_law_hall_right" (defArgs s__law_hall_right) (defBody s__law_hall_right) (defScope s__law_hall_right) [] [] f7 _ := ⟨⟨_, _, _, _, _, _, _, _, _, _, rfl, l7, c7, .inl ⟨rfl, rfl⟩, .inl rfl⟩, k7⟩
  have D7 : DefAt W gn T "_law_hall_right" g__law_hall_right f7 _ := ⟨_, _, _, _, _, _, _, n__law_hall_right, _, 60, _, _, _, [], F7, sc__law_hall_right, rfl, rfl, rfl, c__law_hall_right, pats_of [(4, [])] (by decide +kernel) (And.intro (⟨_, rfl, fun j d m => by simp [List.mem_cons] at m, bnd00 F7 4 [] _ fun _ _ _ _ _ _ us ws h1 h2 => match us, ws, h1, h2 with | [_, _, _, _], [], _, _ => rfl⟩) trivial)⟩
  have F8 : FunD K "__init__" "Hall.__init__" (defArgs s_Hall_d___init__) (defBody s_Hall_d___init__) (defScope s_Hall_d___init__) [.ref A_d8_0] [] f8 _ := ⟨⟨_, _, _, _, _, _, _, _, _, _, rfl, l8, c8, .inr ⟨by simp, T8, _, _, _, rfl, t8, rfl, .cons (rfl) (.nil)⟩, .inl rfl⟩, k8⟩
  have D8 : DefAt W gn T "Hall.__init__" g_Hall_d___init__ f8 _ := ⟨_, _, _, _, _, _, _, n_Hall_d___init__, _, 60, _, _, _, [.ref A_d8_0], F8, sc_Hall_d___init__, rfl, rfl, rfl, c_Hall_d___init__, pats_of [(4, [])] (by decide +kernel) (And.intro (⟨_, rfl, fun j d m => by simp [List.mem_cons] at m, bnd10 F8 4 [] _ (by simp) fun _ _ _ _ _ _ _ us ws its h1 h2 h3 => match us, ws, its, h1, h2, h3 with | [_, _, _, _], [], [_], _, _, _ => ⟨_, rfl, rfl⟩⟩) trivial)⟩
  have F9 : FunD K "is_balanced" "is_balanced" (defArgs s_is_balanced) (defBody s_is_balanced) (defScope s_is_balanced) [] [] f9 _ := ⟨⟨_, _, _, _, _, _, _, _, _, _, rfl, l9, c9, .inl ⟨rfl, rfl⟩, .inl rfl⟩, k9⟩
  have D9 : DefAt W gn T "is_balanced" g_is_balanced f9 _ := ⟨_, _, _, _, _, _, _, n_is_balanced, _, 60, _, _, _, [], F9, sc_is_balanced, rfl, rfl, rfl, c_is_balanced, pats_of [(2, []), (0, ["person", "hall"])] (by decide +kernel) (And.intro (⟨_, rfl, fun j d m => by simp [List.mem_cons] at m, bnd00 F9 2 [] _ fun _ _ _ _ _ _ us ws h1 h2 => match us, ws, h1, h2 with | [_, _], [], _, _ => rfl⟩) (And.intro (⟨_, rfl, fun j d m => by simp [List.mem_cons] at m, bnd00 F9 0 ["person", "hall"] _ fun _ _ _ _ _ _ us ws h1 h2 => match us, ws, h1, h2 with | [], [_, _], _, _ => rfl⟩) trivial))⟩
  have F10 : FunD K "_law_bent" "_law_bent" (defArgs s__law_bent) (defBody s__law_bent) (defScope s__law_bent) [] [] f10 _ := ⟨⟨_, _, _, _, _, _, _, _, _, _, rfl, l10, c10, .inl ⟨rfl, rfl⟩, .inl rfl⟩, k10⟩
  have D10 : DefAt W gn T "_law_bent" g__law_bent f10 _ := ⟨_, _, _, _, _, _, _, n__law_bent, _, 60, _, _, _, [], F10, sc__law_bent, rfl, rfl, rfl, c__law_bent, pats_of [(2, [])] (by decide +kernel) (And.intro (⟨_, rfl, fun j d m => by simp [List.mem_cons] at m, bnd00 F10 2 [] _ fun _ _ _ _ _ _ us ws h1 h2 => match us, ws, h1, h2 with | [_, _], [], _, _ => rfl⟩) trivial)⟩
  have F11 : FunD K "_law_pick" "_law_pick" (defArgs s__law_pick) (defBody s__law_pick) (defScope s__law_pick) [] [] f11 _ := ⟨⟨_, _, _, _, _, _, _, _, _, _, rfl, l11, c11, .inl ⟨rfl, rfl⟩, .inl rfl⟩, k11⟩
  have D11 : DefAt W gn T "_law_pick" g__law_pick f11 _ := ⟨_, _, _, _, _, _, _, n__law_pick, _, 60, _, _, _, [], F11, sc__law_pick, rfl, rfl, rfl, c__law_pick, pats_of [(2, [])] (by decide +kernel) (And.intro (⟨_, rfl, fun j d m => by simp [List.mem_cons] at m, bnd00 F11 2 [] _ fun _ _ _ _ _ _ us ws h1 h2 => match us, ws, h1, h2 with | [_, _], [], _, _ => rfl⟩) trivial)⟩
  have F12 : FunD K "_law_middle" "_law_middle" (defArgs s__law_middle) (defBody s__law_middle) (defScope s__law_middle) [] [] f12 _ := ⟨⟨_, _, _, _, _, _, _, _, _, _, rfl, l12, c12, .inl ⟨rfl, rfl⟩, .inl rfl⟩, k12⟩
  have D12 : DefAt W gn T "_law_middle" g__law_middle f12 _ := ⟨_, _, _, _, _, _, _, n__law_middle, _, 60, _, _, _, [], F12, sc__law_middle, rfl, rfl, rfl, c__law_middle, pats_of [(4, [])] (by decide +kernel) (And.intro (⟨_, rfl, fun j d m => by simp [List.mem_cons] at m, bnd00 F12 4 [] _ fun _ _ _ _ _ _ us ws h1 h2 => match us, ws, h1, h2 with | [_, _, _, _], [], _, _ => rfl⟩) trivial)⟩
  have F13 : FunD K "_law_paired" "_law_paired" (defArgs s__law_paired) (defBody s__law_paired) (defScope s__law_paired) [] [] f13 _ := ⟨⟨_, _, _, _, _, _, _, _, _, _, rfl, l13, c13, .inl ⟨rfl, rfl⟩, .inl rfl⟩, k13⟩
  have D13 : DefAt W gn T "_law_paired" g__law_paired f13 _ := ⟨_, _, _, _, _, _, _, n__law_paired, _, 60, _, _, _, [], F13, sc__law_paired, rfl, rfl, rfl, c__law_paired, pats_of [(4, [])] (by decide +kernel) (And.intro (⟨_, rfl, fun j d m => by simp [List.mem_cons] at m, bnd00 F13 4 [] _ fun _ _ _ _ _ _ us ws h1 h2 => match us, ws, h1, h2 with | [_, _, _, _], [], _, _ => rfl⟩) trivial)⟩
  have F14 : FunD K "_law_same" "_law_same" (defArgs s__law_same) (defBody s__law_same) (defScope s__law_same) [] [] f14 _ := ⟨⟨_, _, _, _, _, _, _, _, _, _, rfl, l14, c14, .inl ⟨rfl, rfl⟩, .inl rfl⟩, k14⟩
  have D14 : DefAt W gn T "_law_same" g__law_same f14 _ := ⟨_, _, _, _, _, _, _, n__law_same, _, 60, _, _, _, [], F14, sc__law_same, rfl, rfl, rfl, c__law_same, pats_of [(2, [])] (by decide +kernel) (And.intro (⟨_, rfl, fun j d m => by simp [List.mem_cons] at m, bnd00 F14 2 [] _ fun _ _ _ _ _ _ us ws h1 h2 => match us, ws, h1, h2 with | [_, _], [], _, _ => rfl⟩) trivial)⟩
  have F15 : FunD K "middles" "middles" (defArgs s_middles) (defBody s_middles) (defScope s_middles) [] [] f15 _ := ⟨⟨_, _, _, _, _, _, _, _, _, _, rfl, l15, c15, .inl ⟨rfl, rfl⟩, .inl rfl⟩, k15⟩
  have D15 : DefAt W gn T "middles" g_middles f15 _ := ⟨_, _, _, _, _, _, _, n_middles, _, 60, _, _, _, [], F15, sc_middles, rfl, rfl, rfl, c_middles, pats_of [(1, []), (0, ["hall"])] (by decide +kernel) (And.intro (⟨_, rfl, fun j d m => by simp [List.mem_cons] at m, bnd00 F15 1 [] _ fun _ _ _ _ _ _ us ws h1 h2 => match us, ws, h1, h2 with | [_], [], _, _ => rfl⟩) (And.intro (⟨_, rfl, fun j d m => by simp [List.mem_cons] at m, bnd00 F15 0 ["hall"] _ fun _ _ _ _ _ _ us ws h1 h2 => match us, ws, h1, h2 with | [], [_], _, _ => rfl⟩) trivial))⟩
  have F16 : FunD K "_law_is_balanced" "_law_is_balanced" (defArgs s__law_is_balanced) (defBody s__law_is_balanced) (defScope s__law_is_balanced) [] [] f16 _ := ⟨⟨_, _, _, _, _, _, _, _, _, _, rfl, l16, c16, .inl ⟨rfl, rfl⟩, .inl rfl⟩, k16⟩
  have D16 : DefAt W gn T "_law_is_balanced" g__law_is_balanced f16 _ := ⟨_, _, _, _, _, _, _, n__law_is_balanced, _, 60, _, _, _, [], F16, sc__law_is_balanced, rfl, rfl, rfl, c__law_is_balanced, pats_of [(2, [])] (by decide +kernel) (And.intro (⟨_, rfl, fun j d m => by simp [List.mem_cons] at m, bnd00 F16 2 [] _ fun _ _ _ _ _ _ us ws h1 h2 => match us, ws, h1, h2 with | [_, _], [], _, _ => rfl⟩) trivial)⟩
  have F17 : FunD K "mirror" "mirror" (defArgs s_mirror) (defBody s_mirror) (defScope s_mirror) [] [] f17 _ := ⟨⟨_, _, _, _, _, _, _, _, _, _, rfl, l17, c17, .inl ⟨rfl, rfl⟩, .inl rfl⟩, k17⟩
  have D17 : DefAt W gn T "mirror" g_mirror f17 _ := ⟨_, _, _, _, _, _, _, n_mirror, _, 60, _, _, _, [], F17, sc_mirror, rfl, rfl, rfl, c_mirror, pats_of [(2, []), (0, ["standing", "hall"])] (by decide +kernel) (And.intro (⟨_, rfl, fun j d m => by simp [List.mem_cons] at m, bnd00 F17 2 [] _ fun _ _ _ _ _ _ us ws h1 h2 => match us, ws, h1, h2 with | [_, _], [], _, _ => rfl⟩) (And.intro (⟨_, rfl, fun j d m => by simp [List.mem_cons] at m, bnd00 F17 0 ["standing", "hall"] _ fun _ _ _ _ _ _ us ws h1 h2 => match us, ws, h1, h2 with | [], [_, _], _, _ => rfl⟩) trivial))⟩
  have F18 : FunD K "are_strings" "are_strings" (defArgs s_are_strings) (defBody s_are_strings) (defScope s_are_strings) [] [] f18 _ := ⟨⟨_, _, _, _, _, _, _, _, _, _, rfl, l18, c18, .inl ⟨rfl, rfl⟩, .inl rfl⟩, k18⟩
  have D18 : DefAt W gn T "are_strings" g_are_strings f18 _ := ⟨_, _, _, _, _, _, _, n_are_strings, _, 60, _, _, _, [], F18, sc_are_strings, rfl, rfl, rfl, c_are_strings, pats_of [(1, [])] (by decide +kernel) (And.intro (⟨_, rfl, fun j d m => by simp [List.mem_cons] at m, bnd00 F18 1 [] _ fun _ _ _ _ _ _ us ws h1 h2 => match us, ws, h1, h2 with | [_], [], _, _ => rfl⟩) trivial)⟩
  have F19 : FunD K "are_steps" "are_steps" (defArgs s_are_steps) (defBody s_are_steps) (defScope s_are_steps) [] [] f19 _ := ⟨⟨_, _, _, _, _, _, _, _, _, _, rfl, l19, c19, .inl ⟨rfl, rfl⟩, .inl rfl⟩, k19⟩
  have D19 : DefAt W gn T "are_steps" g_are_steps f19 _ := ⟨_, _, _, _, _, _, _, n_are_steps, _, 60, _, _, _, [], F19, sc_are_steps, rfl, rfl, rfl, c_are_steps, pats_of [(2, [])] (by decide +kernel) (And.intro (⟨_, rfl, fun j d m => by simp [List.mem_cons] at m, bnd00 F19 2 [] _ fun _ _ _ _ _ _ us ws h1 h2 => match us, ws, h1, h2 with | [_, _], [], _, _ => rfl⟩) trivial)⟩
  have F20 : FunD K "is_memory" "is_memory" (defArgs s_is_memory) (defBody s_is_memory) (defScope s_is_memory) [] [] f20 _ := ⟨⟨_, _, _, _, _, _, _, _, _, _, rfl, l20, c20, .inl ⟨rfl, rfl⟩, .inl rfl⟩, k20⟩
  have D20 : DefAt W gn T "is_memory" g_is_memory f20 _ := ⟨_, _, _, _, _, _, _, n_is_memory, _, 60, _, _, _, [], F20, sc_is_memory, rfl, rfl, rfl, c_is_memory, pats_of [(1, [])] (by decide +kernel) (And.intro (⟨_, rfl, fun j d m => by simp [List.mem_cons] at m, bnd00 F20 1 [] _ fun _ _ _ _ _ _ us ws h1 h2 => match us, ws, h1, h2 with | [_], [], _, _ => rfl⟩) trivial)⟩
  have F21 : FunD K "steps" "Hall.steps" (defArgs s_Hall_d_steps) (defBody s_Hall_d_steps) (defScope s_Hall_d_steps) [] [] f21 _ := ⟨⟨_, _, _, _, _, _, _, _, _, _, rfl, l21, c21, .inl ⟨rfl, rfl⟩, .inl rfl⟩, k21⟩
  have D21 : DefAt W gn T "Hall.steps" g_Hall_d_steps f21 _ := ⟨_, _, _, _, _, _, _, n_Hall_d_steps, _, 60, _, _, _, [], F21, sc_Hall_d_steps, rfl, rfl, rfl, c_Hall_d_steps, pats_of [(1, [])] (by decide +kernel) (And.intro (⟨_, rfl, fun j d m => by simp [List.mem_cons] at m, bnd00 F21 1 [] _ fun _ _ _ _ _ _ us ws h1 h2 => match us, ws, h1, h2 with | [_], [], _, _ => rfl⟩) trivial)⟩
  have F22 : FunD K "middle_of" "middle_of" (defArgs s_middle_of) (defBody s_middle_of) (defScope s_middle_of) [] [] f22 _ := ⟨⟨_, _, _, _, _, _, _, _, _, _, rfl, l22, c22, .inl ⟨rfl, rfl⟩, .inl rfl⟩, k22⟩
  have D22 : DefAt W gn T "middle_of" g_middle_of f22 _ := ⟨_, _, _, _, _, _, _, n_middle_of, _, 60, _, _, _, [], F22, sc_middle_of, rfl, rfl, rfl, c_middle_of, pats_of [(2, [])] (by decide +kernel) (And.intro (⟨_, rfl, fun j d m => by simp [List.mem_cons] at m, bnd00 F22 2 [] _ fun _ _ _ _ _ _ us ws h1 h2 => match us, ws, h1, h2 with | [_, _], [], _, _ => rfl⟩) trivial)⟩
  have F23 : FunD K "__len__" "Hall.__len__" (defArgs s_Hall_d___len__) (defBody s_Hall_d___len__) (defScope s_Hall_d___len__) [] [] f23 _ := ⟨⟨_, _, _, _, _, _, _, _, _, _, rfl, l23, c23, .inl ⟨rfl, rfl⟩, .inl rfl⟩, k23⟩
  have D23 : DefAt W gn T "Hall.__len__" g_Hall_d___len__ f23 _ := ⟨_, _, _, _, _, _, _, n_Hall_d___len__, _, 60, _, _, _, [], F23, sc_Hall_d___len__, rfl, rfl, rfl, c_Hall_d___len__, pats_of [(1, [])] (by decide +kernel) (And.intro (⟨_, rfl, fun j d m => by simp [List.mem_cons] at m, bnd00 F23 1 [] _ fun _ _ _ _ _ _ us ws h1 h2 => match us, ws, h1, h2 with | [_], [], _, _ => rfl⟩) trivial)⟩
  have F24 : FunD K "tops" "Hall.tops" (defArgs s_Hall_d_tops) (defBody s_Hall_d_tops) (defScope s_Hall_d_tops) [] [] f24 _ := ⟨⟨_, _, _, _, _, _, _, _, _, _, rfl, l24, c24, .inl ⟨rfl, rfl⟩, .inl rfl⟩, k24⟩
  have D24 : DefAt W gn T "Hall.tops" g_Hall_d_tops f24 _ := ⟨_, _, _, _, _, _, _, n_Hall_d_tops, _, 60, _, _, _, [], F24, sc_Hall_d_tops, rfl, rfl, rfl, c_Hall_d_tops, pats_of [(1, [])] (by decide +kernel) (And.intro (⟨_, rfl, fun j d m => by simp [List.mem_cons] at m, bnd00 F24 1 [] _ fun _ _ _ _ _ _ us ws h1 h2 => match us, ws, h1, h2 with | [_], [], _, _ => rfl⟩) trivial)⟩
  have F25 : FunD K "are_numbers" "are_numbers" (defArgs s_are_numbers) (defBody s_are_numbers) (defScope s_are_numbers) [] [] f25 _ := ⟨⟨_, _, _, _, _, _, _, _, _, _, rfl, l25, c25, .inl ⟨rfl, rfl⟩, .inl rfl⟩, k25⟩
  have D25 : DefAt W gn T "are_numbers" g_are_numbers f25 _ := ⟨_, _, _, _, _, _, _, n_are_numbers, _, 60, _, _, _, [], F25, sc_are_numbers, rfl, rfl, rfl, c_are_numbers, pats_of [(1, [])] (by decide +kernel) (And.intro (⟨_, rfl, fun j d m => by simp [List.mem_cons] at m, bnd00 F25 1 [] _ fun _ _ _ _ _ _ us ws h1 h2 => match us, ws, h1, h2 with | [_], [], _, _ => rfl⟩) trivial)⟩
  have F26 : FunD K "are_steps_of_one" "are_steps_of_one" (defArgs s_are_steps_of_one) (defBody s_are_steps_of_one) (defScope s_are_steps_of_one) [] [] f26 _ := ⟨⟨_, _, _, _, _, _, _, _, _, _, rfl, l26, c26, .inl ⟨rfl, rfl⟩, .inl rfl⟩, k26⟩
  have D26 : DefAt W gn T "are_steps_of_one" g_are_steps_of_one f26 _ := ⟨_, _, _, _, _, _, _, n_are_steps_of_one, _, 60, _, _, _, [], F26, sc_are_steps_of_one, rfl, rfl, rfl, c_are_steps_of_one, pats_of [(1, [])] (by decide +kernel) (And.intro (⟨_, rfl, fun j d m => by simp [List.mem_cons] at m, bnd00 F26 1 [] _ fun _ _ _ _ _ _ us ws h1 h2 => match us, ws, h1, h2 with | [_], [], _, _ => rfl⟩) trivial)⟩
  have F27 : FunD K "strings" "Hall.strings" (defArgs s_Hall_d_strings) (defBody s_Hall_d_strings) (defScope s_Hall_d_strings) [] [] f27 _ := ⟨⟨_, _, _, _, _, _, _, _, _, _, rfl, l27, c27, .inl ⟨rfl, rfl⟩, .inl rfl⟩, k27⟩
  have D27 : DefAt W gn T "Hall.strings" g_Hall_d_strings f27 _ := ⟨_, _, _, _, _, _, _, n_Hall_d_strings, _, 60, _, _, _, [], F27, sc_Hall_d_strings, rfl, rfl, rfl, c_Hall_d_strings, pats_of [(1, [])] (by decide +kernel) (And.intro (⟨_, rfl, fun j d m => by simp [List.mem_cons] at m, bnd00 F27 1 [] _ fun _ _ _ _ _ _ us ws h1 h2 => match us, ws, h1, h2 with | [_], [], _, _ => rfl⟩) trivial)⟩
  have F28 : FunD K "memory" "Hall.memory" (defArgs s_Hall_d_memory) (defBody s_Hall_d_memory) (defScope s_Hall_d_memory) [] [] f28 _ := ⟨⟨_, _, _, _, _, _, _, _, _, _, rfl, l28, c28, .inl ⟨rfl, rfl⟩, .inl rfl⟩, k28⟩
  have D28 : DefAt W gn T "Hall.memory" g_Hall_d_memory f28 _ := ⟨_, _, _, _, _, _, _, n_Hall_d_memory, _, 60, _, _, _, [], F28, sc_Hall_d_memory, rfl, rfl, rfl, c_Hall_d_memory, pats_of [(1, [])] (by decide +kernel) (And.intro (⟨_, rfl, fun j d m => by simp [List.mem_cons] at m, bnd00 F28 1 [] _ fun _ _ _ _ _ _ us ws h1 h2 => match us, ws, h1, h2 with | [_], [], _, _ => rfl⟩) trivial)⟩
  have F29 : FunD K "is_number" "is_number" (defArgs s_is_number) (defBody s_is_number) (defScope s_is_number) [] [] f29 _ := ⟨⟨_, _, _, _, _, _, _, _, _, _, rfl, l29, c29, .inl ⟨rfl, rfl⟩, .inl rfl⟩, k29⟩
  have D29 : DefAt W gn T "is_number" g_is_number f29 _ := ⟨_, _, _, _, _, _, _, n_is_number, _, 60, _, _, _, [], F29, sc_is_number, rfl, rfl, rfl, c_is_number, pats_of [(1, [])] (by decide +kernel) (And.intro (⟨_, rfl, fun j d m => by simp [List.mem_cons] at m, bnd00 F29 1 [] _ fun _ _ _ _ _ _ us ws h1 h2 => match us, ws, h1, h2 with | [_], [], _, _ => rfl⟩) trivial)⟩
  have F30 : FunD K "rises" "rises" (defArgs s_rises) (defBody s_rises) (defScope s_rises) [] [] f30 _ := ⟨⟨_, _, _, _, _, _, _, _, _, _, rfl, l30, c30, .inl ⟨rfl, rfl⟩, .inl rfl⟩, k30⟩
  have D30 : DefAt W gn T "rises" g_rises f30 _ := ⟨_, _, _, _, _, _, _, n_rises, _, 60, _, _, _, [], F30, sc_rises, rfl, rfl, rfl, c_rises, pats_of [(1, [])] (by decide +kernel) (And.intro (⟨_, rfl, fun j d m => by simp [List.mem_cons] at m, bnd00 F30 1 [] _ fun _ _ _ _ _ _ us ws h1 h2 => match us, ws, h1, h2 with | [_], [], _, _ => rfl⟩) trivial)⟩
  have pok : POk W gn T mg := {
    cst := fun x d h => lk_all (l := gn.cst) (p := fun x d => ∃ v u, mg x = some u ∧ RelV v u ∧ ∀ F : Hp, Rp W F v d) (And.intro (⟨.int 5, _, PySem.W.mg_of X G mc_MOST_BEATS, ⟨_, rfl⟩, fun F => .int _⟩) (And.intro (⟨.int 4, _, PySem.W.mg_of X G mc_MOST_STEPS, ⟨_, rfl⟩, fun F => .int _⟩) trivial)) h
    fns := fun x s h => lk_all (l := gn.fns) (p := fun x s => ∃ f fd, mg x = some (.ref f) ∧ DefAt W gn T x s f fd) (And.intro (⟨_, _, PySem.W.mg_of X G a0, D0⟩) (And.intro (⟨_, _, PySem.W.mg_of X G a1, D1⟩) (And.intro (⟨_, _, PySem.W.mg_of X G a2, D2⟩) (And.intro (⟨_, _, PySem.W.mg_of X G a3, D3⟩) (And.intro (⟨_, _, PySem.W.mg_of X G a4, D4⟩) (And.intro (⟨_, _, PySem.W.mg_of X G a5, D5⟩) (And.intro (⟨_, _, PySem.W.mg_of X G a6, D6⟩) (And.intro (⟨_, _, PySem.W.mg_of X G a7, D7⟩) (And.intro (⟨_, _, PySem.W.mg_of X G a9, D9⟩) (And.intro (⟨_, _, PySem.W.mg_of X G a10, D10⟩) (And.intro (⟨_, _, PySem.W.mg_of X G a11, D11⟩) (And.intro (⟨_, _, PySem.W.mg_of X G a12, D12⟩) (And.intro (⟨_, _, PySem.W.mg_of X G a13, D13⟩) (And.intro (⟨_, _, PySem.W.mg_of X G a14, D14⟩) (And.intro (⟨_, _, PySem.W.mg_of X G a15, D15⟩) (And.intro (⟨_, _, PySem.W.mg_of X G a16, D16⟩) (And.intro (⟨_, _, PySem.W.mg_of X G a17, D17⟩) (And.intro (⟨_, _, PySem.W.mg_of X G a18, D18⟩) (And.intro (⟨_, _, PySem.W.mg_of X G a19, D19⟩) (And.intro (⟨_, _, PySem.W.mg_of X G a20, D20⟩) (And.intro (⟨_, _, PySem.W.mg_of X G a22, D22⟩) (And.intro (⟨_, _, PySem.W.mg_of X G a25, D25⟩) (And.intro (⟨_, _, PySem.W.mg_of X G a26, D26⟩) (And.intro (⟨_, _, PySem.W.mg_of X G a29, D29⟩) (And.intro (⟨_, _, PySem.W.mg_of X G a30, D30⟩) trivial))))))))))))))))))))))))) h
    cls := fun x s h => lk_all (l := gn.cls) (p := fun x s => ∃ Ca f fd, W.cls x = some Ca ∧ mg x = some (.ref Ca) ∧ Mk K Ca f ∧ DefAt W gn T (x ++ ".__init__") s f fd) (And.intro (⟨C_Hall, _, _, by first | rfl | decide, PySem.W.mg_of X G aC_Hall, ⟨mk_Hall, a8, i8, kc_Hall⟩, D8⟩) trivial) h
    mth := fun c m s h => lkM_all (l := gn.mth) (p := fun c m s => ∃ Ca f fd, W.cls c = some Ca ∧ Meth K Ca m f ∧ DefAt W gn T (c ++ "." ++ m) s f fd) (And.intro (⟨C_Hall, _, _, by first | rfl | decide, ⟨a21, i21, k21⟩, D21⟩) (And.intro (⟨C_Hall, _, _, by first | rfl | decide, ⟨a23, i23, k23⟩, D23⟩) (And.intro (⟨C_Hall, _, _, by first | rfl | decide, ⟨a24, i24, k24⟩, D24⟩) (And.intro (⟨C_Hall, _, _, by first | rfl | decide, ⟨a27, i27, k27⟩, D27⟩) (And.intro (⟨C_Hall, _, _, by first | rfl | decide, ⟨a28, i28, k28⟩, D28⟩) trivial))))) h
    flds := fun f h => h
    bi := fun x hx => by
      simp only [biNames, List.mem_cons, List.not_mem_nil, or_false] at hx
      rcases hx with rfl | rfl | rfl | rfl | rfl | rfl | rfl | rfl | rfl | rfl | rfl | rfl | rfl | rfl | rfl | rfl | rfl | rfl
      all_goals first | exact PySem.W.mg_none_of X G z_len | exact PySem.W.mg_none_of X G z_abs | exact PySem.W.mg_none_of X G z_int | exact PySem.W.mg_none_of X G z_sum | exact PySem.W.mg_none_of X G z_all | exact PySem.W.mg_none_of X G z_any | exact PySem.W.mg_none_of X G z_tuple | exact PySem.W.mg_none_of X G z_list | exact PySem.W.mg_none_of X G z_min | exact PySem.W.mg_none_of X G z_max | exact PySem.W.mg_none_of X G z_isinstance | exact PySem.W.mg_none_of X G z_range | exact PySem.W.mg_none_of X G z_zip | exact PySem.W.mg_none_of X G z_enumerate | exact PySem.W.mg_none_of X G z_bool | exact PySem.W.mg_none_of X G z_str | exact PySem.W.mg_none_of X G z_sorted | exact PySem.W.mg_none_of X G z_set }
  refine ⟨_, fun s v => bindsA_of F0 (fun _ _ _ _ _ _ us hl => match us, hl with | [_], _ => rfl) s v, fun base _ _ => law_ok pok D0 40 rfl hlaw⟩
class Rows (T : Tb) : Prop where
  i0 : Pg.Row T "law" ⟨"law", 1, 2, (Pg.lawAll 5)⟩
  i1 : Pg.Row T "_law_right" ⟨"_law_right", 1, 9, b__law_right⟩
  i2 : Pg.Row T "_law_box" ⟨"_law_box", 2, 3, Pg.box1⟩
  i3 : Pg.Row T "_law_memory" ⟨"_law_memory", 2, 6, Pg.memory1⟩
  i4 : Pg.Row T "_law_take" ⟨"_law_take", 2, 4, (Pg.takeC 39373 40009 7 7919)⟩
  i5 : Pg.Row T "_law_strings" ⟨"_law_strings", 3, 12, Pg.strings1⟩
  i6 : Pg.Row T "_law_balanced" ⟨"_law_balanced", 4, 11, Pg.balanced1⟩
  i7 : Pg.Row T "_law_hall_right" ⟨"_law_hall_right", 4, 14, b__law_hall_right⟩
  i8 : Pg.Row T "Hall.__init__" ⟨"Hall.__init__", 4, 5, Pg.b_init⟩
  i9 : Pg.Row T "is_balanced" ⟨"is_balanced", 2, 6, Pg.b_is_balanced⟩
  i10 : Pg.Row T "_law_bent" ⟨"_law_bent", 2, 6, Pg.bent1⟩
  i11 : Pg.Row T "_law_pick" ⟨"_law_pick", 2, 2, Pg.pick1⟩
  i12 : Pg.Row T "_law_middle" ⟨"_law_middle", 4, 6, Pg.middle1⟩
  i13 : Pg.Row T "_law_paired" ⟨"_law_paired", 4, 8, Pg.paired1⟩
  i14 : Pg.Row T "_law_same" ⟨"_law_same", 2, 4, Pg.same1⟩
  i15 : Pg.Row T "middles" ⟨"middles", 1, 2, Pg.b_middles⟩
  i16 : Pg.Row T "_law_is_balanced" ⟨"_law_is_balanced", 2, 4, Pg.isbal1⟩
  i17 : Pg.Row T "mirror" ⟨"mirror", 2, 4, Pg.b_mirror⟩
  i18 : Pg.Row T "are_strings" ⟨"are_strings", 1, 2, Pg.b_are_strings⟩
  i19 : Pg.Row T "are_steps" ⟨"are_steps", 2, 3, Pg.b_are_steps⟩
  i20 : Pg.Row T "is_memory" ⟨"is_memory", 1, 1, Pg.b_is_memory⟩
  i21 : Pg.Row T "Hall.steps" ⟨"Hall.steps", 1, 1, Pg.b_steps⟩
  i22 : Pg.Row T "middle_of" ⟨"middle_of", 2, 5, Pg.b_middle_of⟩
  i23 : Pg.Row T "Hall.__len__" ⟨"Hall.__len__", 1, 1, Pg.b_hlen⟩
  i24 : Pg.Row T "Hall.tops" ⟨"Hall.tops", 1, 2, Pg.b_tops⟩
  i25 : Pg.Row T "are_numbers" ⟨"are_numbers", 1, 2, Pg.b_are_numbers⟩
  i26 : Pg.Row T "are_steps_of_one" ⟨"are_steps_of_one", 1, 1, Pg.b_are_steps_of_one⟩
  i27 : Pg.Row T "Hall.strings" ⟨"Hall.strings", 1, 1, Pg.b_strings⟩
  i28 : Pg.Row T "Hall.memory" ⟨"Hall.memory", 1, 1, Pg.b_memory⟩
  i29 : Pg.Row T "is_number" ⟨"is_number", 1, 1, Pg.b_is_number⟩
  i30 : Pg.Row T "rises" ⟨"rises", 1, 3, Pg.b_rises⟩
instance {T : Tb} [h : Rows T] : Pg.Row T "law" ⟨"law", 1, 2, (Pg.lawAll 5)⟩ := h.i0
instance {T : Tb} [h : Rows T] : Pg.Row T "_law_right" ⟨"_law_right", 1, 9, b__law_right⟩ := h.i1
instance {T : Tb} [h : Rows T] : Pg.Row T "_law_box" ⟨"_law_box", 2, 3, Pg.box1⟩ := h.i2
instance {T : Tb} [h : Rows T] : Pg.Row T "_law_memory" ⟨"_law_memory", 2, 6, Pg.memory1⟩ := h.i3
instance {T : Tb} [h : Rows T] : Pg.Row T "_law_take" ⟨"_law_take", 2, 4, (Pg.takeC 39373 40009 7 7919)⟩ := h.i4
instance {T : Tb} [h : Rows T] : Pg.Row T "_law_strings" ⟨"_law_strings", 3, 12, Pg.strings1⟩ := h.i5
instance {T : Tb} [h : Rows T] : Pg.Row T "_law_balanced" ⟨"_law_balanced", 4, 11, Pg.balanced1⟩ := h.i6
instance {T : Tb} [h : Rows T] : Pg.Row T "_law_hall_right" ⟨"_law_hall_right", 4, 14, b__law_hall_right⟩ := h.i7
instance {T : Tb} [h : Rows T] : Pg.Row T "Hall.__init__" ⟨"Hall.__init__", 4, 5, Pg.b_init⟩ := h.i8
instance {T : Tb} [h : Rows T] : Pg.Row T "is_balanced" ⟨"is_balanced", 2, 6, Pg.b_is_balanced⟩ := h.i9
instance {T : Tb} [h : Rows T] : Pg.Row T "_law_bent" ⟨"_law_bent", 2, 6, Pg.bent1⟩ := h.i10
instance {T : Tb} [h : Rows T] : Pg.Row T "_law_pick" ⟨"_law_pick", 2, 2, Pg.pick1⟩ := h.i11
instance {T : Tb} [h : Rows T] : Pg.Row T "_law_middle" ⟨"_law_middle", 4, 6, Pg.middle1⟩ := h.i12
instance {T : Tb} [h : Rows T] : Pg.Row T "_law_paired" ⟨"_law_paired", 4, 8, Pg.paired1⟩ := h.i13
instance {T : Tb} [h : Rows T] : Pg.Row T "_law_same" ⟨"_law_same", 2, 4, Pg.same1⟩ := h.i14
instance {T : Tb} [h : Rows T] : Pg.Row T "middles" ⟨"middles", 1, 2, Pg.b_middles⟩ := h.i15
instance {T : Tb} [h : Rows T] : Pg.Row T "_law_is_balanced" ⟨"_law_is_balanced", 2, 4, Pg.isbal1⟩ := h.i16
instance {T : Tb} [h : Rows T] : Pg.Row T "mirror" ⟨"mirror", 2, 4, Pg.b_mirror⟩ := h.i17
instance {T : Tb} [h : Rows T] : Pg.Row T "are_strings" ⟨"are_strings", 1, 2, Pg.b_are_strings⟩ := h.i18
instance {T : Tb} [h : Rows T] : Pg.Row T "are_steps" ⟨"are_steps", 2, 3, Pg.b_are_steps⟩ := h.i19
instance {T : Tb} [h : Rows T] : Pg.Row T "is_memory" ⟨"is_memory", 1, 1, Pg.b_is_memory⟩ := h.i20
instance {T : Tb} [h : Rows T] : Pg.Row T "Hall.steps" ⟨"Hall.steps", 1, 1, Pg.b_steps⟩ := h.i21
instance {T : Tb} [h : Rows T] : Pg.Row T "middle_of" ⟨"middle_of", 2, 5, Pg.b_middle_of⟩ := h.i22
instance {T : Tb} [h : Rows T] : Pg.Row T "Hall.__len__" ⟨"Hall.__len__", 1, 1, Pg.b_hlen⟩ := h.i23
instance {T : Tb} [h : Rows T] : Pg.Row T "Hall.tops" ⟨"Hall.tops", 1, 2, Pg.b_tops⟩ := h.i24
instance {T : Tb} [h : Rows T] : Pg.Row T "are_numbers" ⟨"are_numbers", 1, 2, Pg.b_are_numbers⟩ := h.i25
instance {T : Tb} [h : Rows T] : Pg.Row T "are_steps_of_one" ⟨"are_steps_of_one", 1, 1, Pg.b_are_steps_of_one⟩ := h.i26
instance {T : Tb} [h : Rows T] : Pg.Row T "Hall.strings" ⟨"Hall.strings", 1, 1, Pg.b_strings⟩ := h.i27
instance {T : Tb} [h : Rows T] : Pg.Row T "Hall.memory" ⟨"Hall.memory", 1, 1, Pg.b_memory⟩ := h.i28
instance {T : Tb} [h : Rows T] : Pg.Row T "is_number" ⟨"is_number", 1, 1, Pg.b_is_number⟩ := h.i29
instance {T : Tb} [h : Rows T] : Pg.Row T "rises" ⟨"rises", 1, 3, Pg.b_rises⟩ := h.i30
theorem rows_T : Rows T := ⟨⟨by kernel_rfl⟩, ⟨by kernel_rfl⟩, ⟨by kernel_rfl⟩, ⟨by kernel_rfl⟩, ⟨by kernel_rfl⟩, ⟨by kernel_rfl⟩, ⟨by kernel_rfl⟩, ⟨by kernel_rfl⟩, ⟨by kernel_rfl⟩, ⟨by kernel_rfl⟩, ⟨by kernel_rfl⟩, ⟨by kernel_rfl⟩, ⟨by kernel_rfl⟩, ⟨by kernel_rfl⟩, ⟨by kernel_rfl⟩, ⟨by kernel_rfl⟩, ⟨by kernel_rfl⟩, ⟨by kernel_rfl⟩, ⟨by kernel_rfl⟩, ⟨by kernel_rfl⟩, ⟨by kernel_rfl⟩, ⟨by kernel_rfl⟩, ⟨by kernel_rfl⟩, ⟨by kernel_rfl⟩, ⟨by kernel_rfl⟩, ⟨by kernel_rfl⟩, ⟨by kernel_rfl⟩, ⟨by kernel_rfl⟩, ⟨by kernel_rfl⟩, ⟨by kernel_rfl⟩, ⟨by kernel_rfl⟩⟩
instance {T : Tb} [h : Rows T] : Pg.Halls T := ⟨inferInstance, inferInstance, inferInstance, inferInstance, inferInstance, inferInstance, inferInstance, inferInstance⟩
end K21
set_option maxRecDepth 100000
set_option maxHeartbeats 1000000
namespace K21
open PySem Sw Pg
section
variable {T : Tb} [Rows T] {k : Nat} {M : MM} {b : Addr} {B : Box} {Φ Ψ : CallC}
theorem plain_tI {ns : List Int} (h : ns.length ≤ 1000000) : Plain 1 (tI ns) := ⟨by rw [List.length_map]; exact h, fun x hx => by
  obtain ⟨z, _, rfl⟩ := List.mem_map.mp hx
  trivial⟩
theorem back_back : ∀ {xs ys : List Int}, xs.length = ys.length → (xs.zip ((xs.zip ys).map fun p => p.1 - p.2)).map (fun p => p.1 - p.2) = ys
  | [], [], _ => rfl
  | x :: xs, y :: ys, h => by
    have ih := back_back (xs := xs) (ys := ys) (by simpa using h)
    simp only [List.zip_cons_cons, List.map_cons, ih]
    rw [show x - (x - y) = y by omega]
  | [], _ :: _, h => by cases h
  | _ :: _, [], h => by cases h
theorem hall_right_ok {V : HallV} (o : V.Ok) (ms : MS V) (hR : Sized V.n V.n V.ss) (hB : Rdy V.n B)
    (h : ∀ B', Nx V.n B B' → Φ (.bl true) (bxs M b B')) : callAt T (k + 6) "_law_hall_right" [.loc b, .lst (V.ss.map tI), .lst (V.st.map tI), tI V.mm] (bxs M b B) Φ Ψ := by
  have hn := o.small
  have htl := o.tl
  have ht := o.top
  have h2 := o.n2
  have hnn : V.st.length = V.n := h2
  refine call_row rfl ?_
  simp only [startD, s_nil, s_cons, s_asg, s_par2, s_par3, s_aug, s_augS, s_expr, s_ret, s_retN, s_ite, s_for, s_brk, s_cnt, s_pass, s_never, for_step, lc_step, e_var, e_cst, e_bin, e_neg, e_not, e_and, e_or, e_cmp, e_chain, e_ife, e_tup, e_lst, e_ix, e_slc, e_rev, e_fld, e_call, e_meth, e_make, e_bi, e_bm, e_isi, e_lc, e_frz, e_sp, cont_nil, wEs, wG, wGs, wI, wIf, wO, ge0, geS, wIx, wCmp, wBin, wAug, wBi, wBm, arrD, sq_lst, sq_frl, sq_tup, lq_lst, isi_int, isi_bl, isi_str, isi_non, isi_lst, isi_frl, isi_tup, sl_tup, sl_lst, sl_frl, rv_tup, rv_lst, rv_frl, st_lst, st_frl, st_tup, mset_same, bxs_at, newL, wipeD, isN_non, isN_int, isN_bl, isN_str, isN_tup, isN_lst, isN_obj, rng_irg, isTy, List.map_cons, List.map_nil, Nat.reduceSub, List.replicate_succ, List.replicate_zero, List.set_cons_zero, List.set_cons_succ, List.cons_append, List.nil_append, List.length_cons, List.length_nil, List.any_cons, List.any_nil, decide_eq_true_eq, Bool.not_eq_true', decide_eq_false_iff_not, if_true, if_false, reduceIte, Bool.false_eq_true, Bool.true_eq_false, Bool.not_true, Bool.not_false, true_and, and_true, Bool.or_false, Bool.or_true, Bool.true_or, Bool.false_or, beq_self_eq_true, List.getD_cons_zero, List.getD_cons_succ, not_true_eq_false, not_false_eq_true, ne_eq, Nat.zero_add, Nat.reduceAdd, Nat.reduceLeDiff, Int.reduceNeg, eq_self, b__law_hall_right, ap_init]
  refine make_hall (V := V) (rows_lst fun r => rfl) (rows_lst fun r => rfl) rfl o ?_
  simp only [startD, s_nil, s_cons, s_asg, s_par2, s_par3, s_aug, s_augS, s_expr, s_ret, s_retN, s_ite, s_for, s_brk, s_cnt, s_pass, s_never, for_step, lc_step, e_var, e_cst, e_bin, e_neg, e_not, e_and, e_or, e_cmp, e_chain, e_ife, e_tup, e_lst, e_ix, e_slc, e_rev, e_fld, e_call, e_meth, e_make, e_bi, e_bm, e_isi, e_lc, e_frz, e_sp, cont_nil, wEs, wG, wGs, wI, wIf, wO, ge0, geS, wIx, wCmp, wBin, wAug, wBi, wBm, arrD, sq_lst, sq_frl, sq_tup, lq_lst, isi_int, isi_bl, isi_str, isi_non, isi_lst, isi_frl, isi_tup, sl_tup, sl_lst, sl_frl, rv_tup, rv_lst, rv_frl, st_lst, st_frl, st_tup, mset_same, bxs_at, newL, wipeD, isN_non, isN_int, isN_bl, isN_str, isN_tup, isN_lst, isN_obj, rng_irg, isTy, List.map_cons, List.map_nil, Nat.reduceSub, List.replicate_succ, List.replicate_zero, List.set_cons_zero, List.set_cons_succ, List.cons_append, List.nil_append, List.length_cons, List.length_nil, List.any_cons, List.any_nil, decide_eq_true_eq, Bool.not_eq_true', decide_eq_false_iff_not, if_true, if_false, reduceIte, Bool.false_eq_true, Bool.true_eq_false, Bool.not_true, Bool.not_false, true_and, and_true, Bool.or_false, Bool.or_true, Bool.true_or, Bool.false_or, beq_self_eq_true, List.getD_cons_zero, List.getD_cons_succ, not_true_eq_false, not_false_eq_true, ne_eq, Nat.zero_add, Nat.reduceAdd, Nat.reduceLeDiff, Int.reduceNeg, eq_self, List.length_map]
  refine ⟨small_size (by omega), ?_⟩
  refine lc_map (fun r => .int (r.length : Int)) trivial (fun x hx kk hk => ?_) ?_
  · simp only [startD, s_nil, s_cons, s_asg, s_par2, s_par3, s_aug, s_augS, s_expr, s_ret, s_retN, s_ite, s_for, s_brk, s_cnt, s_pass, s_never, for_step, lc_step, e_var, e_cst, e_bin, e_neg, e_not, e_and, e_or, e_cmp, e_chain, e_ife, e_tup, e_lst, e_ix, e_slc, e_rev, e_fld, e_call, e_meth, e_make, e_bi, e_bm, e_isi, e_lc, e_frz, e_sp, cont_nil, wEs, wG, wGs, wI, wIf, wO, ge0, geS, wIx, wCmp, wBin, wAug, wBi, wBm, arrD, sq_lst, sq_frl, sq_tup, lq_lst, isi_int, isi_bl, isi_str, isi_non, isi_lst, isi_frl, isi_tup, sl_tup, sl_lst, sl_frl, rv_tup, rv_lst, rv_frl, st_lst, st_frl, st_tup, mset_same, bxs_at, newL, wipeD, isN_non, isN_int, isN_bl, isN_str, isN_tup, isN_lst, isN_obj, rng_irg, isTy, List.map_cons, List.map_nil, Nat.reduceSub, List.replicate_succ, List.replicate_zero, List.set_cons_zero, List.set_cons_succ, List.cons_append, List.nil_append, List.length_cons, List.length_nil, List.any_cons, List.any_nil, decide_eq_true_eq, Bool.not_eq_true', decide_eq_false_iff_not, if_true, if_false, reduceIte, Bool.false_eq_true, Bool.true_eq_false, Bool.not_true, Bool.not_false, true_and, and_true, Bool.or_false, Bool.or_true, Bool.true_or, Bool.false_or, beq_self_eq_true, List.getD_cons_zero, List.getD_cons_succ, not_true_eq_false, not_false_eq_true, ne_eq, Nat.zero_add, Nat.reduceAdd, Nat.reduceLeDiff, Int.reduceNeg, eq_self, List.length_map]
    exact hk
  have et : (V.st.map fun r => Sw.D.int (r.length : Int)) = V.tops.map Sw.D.int := by unfold HallV.tops; rw [List.map_map]; rfl
  rw [List.nil_append, et]
  refine ⟨small_le (by rw [List.length_map]; omega), ?_⟩
  refine ⟨small_le (by decide), ?_⟩
  refine cont_step ?_
  simp only [startD, s_nil, s_cons, s_asg, s_par2, s_par3, s_aug, s_augS, s_expr, s_ret, s_retN, s_ite, s_for, s_brk, s_cnt, s_pass, s_never, for_step, lc_step, e_var, e_cst, e_bin, e_neg, e_not, e_and, e_or, e_cmp, e_chain, e_ife, e_tup, e_lst, e_ix, e_slc, e_rev, e_fld, e_call, e_meth, e_make, e_bi, e_bm, e_isi, e_lc, e_frz, e_sp, cont_nil, wEs, wG, wGs, wI, wIf, wO, ge0, geS, wIx, wCmp, wBin, wAug, wBi, wBm, arrD, sq_lst, sq_frl, sq_tup, lq_lst, isi_int, isi_bl, isi_str, isi_non, isi_lst, isi_frl, isi_tup, sl_tup, sl_lst, sl_frl, rv_tup, rv_lst, rv_frl, st_lst, st_frl, st_tup, mset_same, bxs_at, newL, wipeD, isN_non, isN_int, isN_bl, isN_str, isN_tup, isN_lst, isN_obj, rng_irg, isTy, List.map_cons, List.map_nil, Nat.reduceSub, List.replicate_succ, List.replicate_zero, List.set_cons_zero, List.set_cons_succ, List.cons_append, List.nil_append, List.length_cons, List.length_nil, List.any_cons, List.any_nil, decide_eq_true_eq, Bool.not_eq_true', decide_eq_false_iff_not, if_true, if_false, reduceIte, Bool.false_eq_true, Bool.true_eq_false, Bool.not_true, Bool.not_false, true_and, and_true, Bool.or_false, Bool.or_true, Bool.true_or, Bool.false_or, beq_self_eq_true, List.getD_cons_zero, List.getD_cons_succ, not_true_eq_false, not_false_eq_true, ne_eq, Nat.zero_add, Nat.reduceAdd, Nat.reduceLeDiff, Int.reduceNeg, eq_self, List.length_map]
  refine ⟨by omega, by omega, small_size (by rw [irg_len]; omega), ?_⟩
  refine lc_map (fun x => .int (V.mid x.toNat)) trivial (fun x hx kk hk => ?_) ?_
  · have := irg_mem hx
    simp only [startD, s_nil, s_cons, s_asg, s_par2, s_par3, s_aug, s_augS, s_expr, s_ret, s_retN, s_ite, s_for, s_brk, s_cnt, s_pass, s_never, for_step, lc_step, e_var, e_cst, e_bin, e_neg, e_not, e_and, e_or, e_cmp, e_chain, e_ife, e_tup, e_lst, e_ix, e_slc, e_rev, e_fld, e_call, e_meth, e_make, e_bi, e_bm, e_isi, e_lc, e_frz, e_sp, cont_nil, wEs, wG, wGs, wI, wIf, wO, ge0, geS, wIx, wCmp, wBin, wAug, wBi, wBm, arrD, sq_lst, sq_frl, sq_tup, lq_lst, isi_int, isi_bl, isi_str, isi_non, isi_lst, isi_frl, isi_tup, sl_tup, sl_lst, sl_frl, rv_tup, rv_lst, rv_frl, st_lst, st_frl, st_tup, mset_same, bxs_at, newL, wipeD, isN_non, isN_int, isN_bl, isN_str, isN_tup, isN_lst, isN_obj, rng_irg, isTy, List.map_cons, List.map_nil, Nat.reduceSub, List.replicate_succ, List.replicate_zero, List.set_cons_zero, List.set_cons_succ, List.cons_append, List.nil_append, List.length_cons, List.length_nil, List.any_cons, List.any_nil, decide_eq_true_eq, Bool.not_eq_true', decide_eq_false_iff_not, if_true, if_false, reduceIte, Bool.false_eq_true, Bool.true_eq_false, Bool.not_true, Bool.not_false, true_and, and_true, Bool.or_false, Bool.or_true, Bool.true_or, Bool.false_or, beq_self_eq_true, List.getD_cons_zero, List.getD_cons_succ, not_true_eq_false, not_false_eq_true, ne_eq, Nat.zero_add, Nat.reduceAdd, Nat.reduceLeDiff, Int.reduceNeg, eq_self]
    exact middle_ok hR hn.2 htl ht ms (by omega) (by omega) hk
  have em : ((irg 0 (V.st.length : Int).toNat).map fun x => Sw.D.int (V.mid x.toNat)) = ((List.range V.n).map V.mid).map Sw.D.int := by
    apply List.ext_getElem?
    intro i
    rw [List.getElem?_map, List.getElem?_map, List.getElem?_map, hnn]
    by_cases hi : i < V.n
    · rw [irg_at (by omega), List.getElem?_range hi]
      simp
    · rw [List.getElem?_eq_none (by rw [irg_len]; omega), List.getElem?_eq_none (by simp; omega)]
      rfl
  rw [List.nil_append, em]
  refine ⟨small_le (by rw [List.length_map, List.length_map, List.length_range]; omega), ?_⟩
  refine cont_step ?_
  simp only [startD, s_nil, s_cons, s_asg, s_par2, s_par3, s_aug, s_augS, s_expr, s_ret, s_retN, s_ite, s_for, s_brk, s_cnt, s_pass, s_never, for_step, lc_step, e_var, e_cst, e_bin, e_neg, e_not, e_and, e_or, e_cmp, e_chain, e_ife, e_tup, e_lst, e_ix, e_slc, e_rev, e_fld, e_call, e_meth, e_make, e_bi, e_bm, e_isi, e_lc, e_frz, e_sp, cont_nil, wEs, wG, wGs, wI, wIf, wO, ge0, geS, wIx, wCmp, wBin, wAug, wBi, wBm, arrD, sq_lst, sq_frl, sq_tup, lq_lst, isi_int, isi_bl, isi_str, isi_non, isi_lst, isi_frl, isi_tup, sl_tup, sl_lst, sl_frl, rv_tup, rv_lst, rv_frl, st_lst, st_frl, st_tup, mset_same, bxs_at, newL, wipeD, isN_non, isN_int, isN_bl, isN_str, isN_tup, isN_lst, isN_obj, rng_irg, isTy, List.map_cons, List.map_nil, Nat.reduceSub, List.replicate_succ, List.replicate_zero, List.set_cons_zero, List.set_cons_succ, List.cons_append, List.nil_append, List.length_cons, List.length_nil, List.any_cons, List.any_nil, decide_eq_true_eq, Bool.not_eq_true', decide_eq_false_iff_not, if_true, if_false, reduceIte, Bool.false_eq_true, Bool.true_eq_false, Bool.not_true, Bool.not_false, true_and, and_true, Bool.or_false, Bool.or_true, Bool.true_or, Bool.false_or, beq_self_eq_true, List.getD_cons_zero, List.getD_cons_succ, not_true_eq_false, not_false_eq_true, ne_eq, Nat.zero_add, Nat.reduceAdd, Nat.reduceLeDiff, Int.reduceNeg, eq_self]
  refine middles o ms ?_
  refine middles o ms ?_
  refine ⟨small_le (by decide), small_le (by decide), ?_⟩
  refine same_ok 2 ⟨by simp, fun y hy => ?_⟩ rfl ?_
  · simp only [List.mem_cons, List.not_mem_nil, or_false, or_self] at hy
    subst hy
    exact plain_tI (by rw [List.length_map, List.length_range]; omega)
  simp only [startD, s_nil, s_cons, s_asg, s_par2, s_par3, s_aug, s_augS, s_expr, s_ret, s_retN, s_ite, s_for, s_brk, s_cnt, s_pass, s_never, for_step, lc_step, e_var, e_cst, e_bin, e_neg, e_not, e_and, e_or, e_cmp, e_chain, e_ife, e_tup, e_lst, e_ix, e_slc, e_rev, e_fld, e_call, e_meth, e_make, e_bi, e_bm, e_isi, e_lc, e_frz, e_sp, cont_nil, wEs, wG, wGs, wI, wIf, wO, ge0, geS, wIx, wCmp, wBin, wAug, wBi, wBm, arrD, sq_lst, sq_frl, sq_tup, lq_lst, isi_int, isi_bl, isi_str, isi_non, isi_lst, isi_frl, isi_tup, sl_tup, sl_lst, sl_frl, rv_tup, rv_lst, rv_frl, st_lst, st_frl, st_tup, mset_same, bxs_at, newL, wipeD, isN_non, isN_int, isN_bl, isN_str, isN_tup, isN_lst, isN_obj, rng_irg, isTy, List.map_cons, List.map_nil, Nat.reduceSub, List.replicate_succ, List.replicate_zero, List.set_cons_zero, List.set_cons_succ, List.cons_append, List.nil_append, List.length_cons, List.length_nil, List.any_cons, List.any_nil, decide_eq_true_eq, Bool.not_eq_true', decide_eq_false_iff_not, if_true, if_false, reduceIte, Bool.false_eq_true, Bool.true_eq_false, Bool.not_true, Bool.not_false, true_and, and_true, Bool.or_false, Bool.or_true, Bool.true_or, Bool.false_or, beq_self_eq_true, List.getD_cons_zero, List.getD_cons_succ, not_true_eq_false, not_false_eq_true, ne_eq, Nat.zero_add, Nat.reduceAdd, Nat.reduceLeDiff, Int.reduceNeg, eq_self]
  refine cont_step ?_
  simp only [startD, s_nil, s_cons, s_asg, s_par2, s_par3, s_aug, s_augS, s_expr, s_ret, s_retN, s_ite, s_for, s_brk, s_cnt, s_pass, s_never, for_step, lc_step, e_var, e_cst, e_bin, e_neg, e_not, e_and, e_or, e_cmp, e_chain, e_ife, e_tup, e_lst, e_ix, e_slc, e_rev, e_fld, e_call, e_meth, e_make, e_bi, e_bm, e_isi, e_lc, e_frz, e_sp, cont_nil, wEs, wG, wGs, wI, wIf, wO, ge0, geS, wIx, wCmp, wBin, wAug, wBi, wBm, arrD, sq_lst, sq_frl, sq_tup, lq_lst, isi_int, isi_bl, isi_str, isi_non, isi_lst, isi_frl, isi_tup, sl_tup, sl_lst, sl_frl, rv_tup, rv_lst, rv_frl, st_lst, st_frl, st_tup, mset_same, bxs_at, newL, wipeD, isN_non, isN_int, isN_bl, isN_str, isN_tup, isN_lst, isN_obj, rng_irg, isTy, List.map_cons, List.map_nil, Nat.reduceSub, List.replicate_succ, List.replicate_zero, List.set_cons_zero, List.set_cons_succ, List.cons_append, List.nil_append, List.length_cons, List.length_nil, List.any_cons, List.any_nil, decide_eq_true_eq, Bool.not_eq_true', decide_eq_false_iff_not, if_true, if_false, reduceIte, Bool.false_eq_true, Bool.true_eq_false, Bool.not_true, Bool.not_false, true_and, and_true, Bool.or_false, Bool.or_true, Bool.true_or, Bool.false_or, beq_self_eq_true, List.getD_cons_zero, List.getD_cons_succ, not_true_eq_false, not_false_eq_true, ne_eq, Nat.zero_add, Nat.reduceAdd, Nat.reduceLeDiff, Int.reduceNeg, eq_self]
  rw [show Sw.numbered 0 (V.st.map tI) = _ from numbered_map tI V.st 0]
  refine for_inv (fun i Γ M' => M' = bxs M b B ∧ ∃ y9 y10 y11, Γ = [some (.loc b), some (.lst (V.ss.map tI)), some (.lst (V.st.map tI)), some (tI V.mm), some (tI ((List.range V.n).map V.mid)), none, none, some (hallD V), some (lI V.tops), y9, y10, y11, none, none]) (fun _ _ _ _ => trivial) (i := 0) ⟨rfl, _, _, _, rfl⟩ (fun j x hx Γ M' kk hP hk => ?_) (fun Γ' M' hP => ?_)
  · obtain ⟨rfl, y9, y10, y11, rfl⟩ := hP
    rw [List.getElem?_zipIdx, Option.map_eq_some_iff] at hx
    obtain ⟨r, hr, rfl⟩ := hx
    have hj : j < V.st.length := (List.getElem?_eq_some_iff.mp hr).1
    have sr := o.s r (List.mem_of_getElem? hr)
    simp only [startD, s_nil, s_cons, s_asg, s_par2, s_par3, s_aug, s_augS, s_expr, s_ret, s_retN, s_ite, s_for, s_brk, s_cnt, s_pass, s_never, for_step, lc_step, e_var, e_cst, e_bin, e_neg, e_not, e_and, e_or, e_cmp, e_chain, e_ife, e_tup, e_lst, e_ix, e_slc, e_rev, e_fld, e_call, e_meth, e_make, e_bi, e_bm, e_isi, e_lc, e_frz, e_sp, cont_nil, wEs, wG, wGs, wI, wIf, wO, ge0, geS, wIx, wCmp, wBin, wAug, wBi, wBm, arrD, sq_lst, sq_frl, sq_tup, lq_lst, isi_int, isi_bl, isi_str, isi_non, isi_lst, isi_frl, isi_tup, sl_tup, sl_lst, sl_frl, rv_tup, rv_lst, rv_frl, st_lst, st_frl, st_tup, mset_same, bxs_at, newL, wipeD, isN_non, isN_int, isN_bl, isN_str, isN_tup, isN_lst, isN_obj, rng_irg, isTy, List.map_cons, List.map_nil, Nat.reduceSub, List.replicate_succ, List.replicate_zero, List.set_cons_zero, List.set_cons_succ, List.cons_append, List.nil_append, List.length_cons, List.length_nil, List.any_cons, List.any_nil, decide_eq_true_eq, Bool.not_eq_true', decide_eq_false_iff_not, if_true, if_false, reduceIte, Bool.false_eq_true, Bool.true_eq_false, Bool.not_true, Bool.not_false, true_and, and_true, Bool.or_false, Bool.or_true, Bool.true_or, Bool.false_or, beq_self_eq_true, List.getD_cons_zero, List.getD_cons_succ, not_true_eq_false, not_false_eq_true, ne_eq, Nat.zero_add, Nat.reduceAdd, Nat.reduceLeDiff, Int.reduceNeg, eq_self, Nat.zero_add]
    refine atD_int (by omega) (by rw [List.length_map, List.length_range]; omega) ?_
    have e1 : ((List.range V.n).map V.mid).getD (j : Int).toNat 0 = V.mid j := by
      rw [List.getD_eq_getElem?_getD, List.getElem?_map, Int.toNat_natCast, List.getElem?_range (by omega)]
      rfl
    have e2 : V.st.getD (j : Int).toNat [] = r := by
      rw [List.getD_eq_getElem?_getD, Int.toNat_natCast, hr]
      rfl
    rw [e1]
    refine isbal_ok (by have := sr.2.1; omega) ?_
    refine cont_step ?_
    simp only [startD, s_nil, s_cons, s_asg, s_par2, s_par3, s_aug, s_augS, s_expr, s_ret, s_retN, s_ite, s_for, s_brk, s_cnt, s_pass, s_never, for_step, lc_step, e_var, e_cst, e_bin, e_neg, e_not, e_and, e_or, e_cmp, e_chain, e_ife, e_tup, e_lst, e_ix, e_slc, e_rev, e_fld, e_call, e_meth, e_make, e_bi, e_bm, e_isi, e_lc, e_frz, e_sp, cont_nil, wEs, wG, wGs, wI, wIf, wO, ge0, geS, wIx, wCmp, wBin, wAug, wBi, wBm, arrD, sq_lst, sq_frl, sq_tup, lq_lst, isi_int, isi_bl, isi_str, isi_non, isi_lst, isi_frl, isi_tup, sl_tup, sl_lst, sl_frl, rv_tup, rv_lst, rv_frl, st_lst, st_frl, st_tup, mset_same, bxs_at, newL, wipeD, isN_non, isN_int, isN_bl, isN_str, isN_tup, isN_lst, isN_obj, rng_irg, isTy, List.map_cons, List.map_nil, Nat.reduceSub, List.replicate_succ, List.replicate_zero, List.set_cons_zero, List.set_cons_succ, List.cons_append, List.nil_append, List.length_cons, List.length_nil, List.any_cons, List.any_nil, decide_eq_true_eq, Bool.not_eq_true', decide_eq_false_iff_not, if_true, if_false, reduceIte, Bool.false_eq_true, Bool.true_eq_false, Bool.not_true, Bool.not_false, true_and, and_true, Bool.or_false, Bool.or_true, Bool.true_or, Bool.false_or, beq_self_eq_true, List.getD_cons_zero, List.getD_cons_succ, not_true_eq_false, not_false_eq_true, ne_eq, Nat.zero_add, Nat.reduceAdd, Nat.reduceLeDiff, Int.reduceNeg, eq_self]
    refine is_balanced o ms (by omega) (by omega) ?_
    refine is_balanced o ms (by omega) (by omega) ?_
    rw [e2, Int.toNat_natCast]
    refine ⟨small_le (by decide), small_le (by decide), ?_⟩
    refine same_ok 1 ⟨by simp, fun y hy => ?_⟩ rfl ?_
    · simp only [List.mem_cons, List.not_mem_nil, or_false, or_self] at hy
      subst hy
      trivial
    simp only [startD, s_nil, s_cons, s_asg, s_par2, s_par3, s_aug, s_augS, s_expr, s_ret, s_retN, s_ite, s_for, s_brk, s_cnt, s_pass, s_never, for_step, lc_step, e_var, e_cst, e_bin, e_neg, e_not, e_and, e_or, e_cmp, e_chain, e_ife, e_tup, e_lst, e_ix, e_slc, e_rev, e_fld, e_call, e_meth, e_make, e_bi, e_bm, e_isi, e_lc, e_frz, e_sp, cont_nil, wEs, wG, wGs, wI, wIf, wO, ge0, geS, wIx, wCmp, wBin, wAug, wBi, wBm, arrD, sq_lst, sq_frl, sq_tup, lq_lst, isi_int, isi_bl, isi_str, isi_non, isi_lst, isi_frl, isi_tup, sl_tup, sl_lst, sl_frl, rv_tup, rv_lst, rv_frl, st_lst, st_frl, st_tup, mset_same, bxs_at, newL, wipeD, isN_non, isN_int, isN_bl, isN_str, isN_tup, isN_lst, isN_obj, rng_irg, isTy, List.map_cons, List.map_nil, Nat.reduceSub, List.replicate_succ, List.replicate_zero, List.set_cons_zero, List.set_cons_succ, List.cons_append, List.nil_append, List.length_cons, List.length_nil, List.any_cons, List.any_nil, decide_eq_true_eq, Bool.not_eq_true', decide_eq_false_iff_not, if_true, if_false, reduceIte, Bool.false_eq_true, Bool.true_eq_false, Bool.not_true, Bool.not_false, true_and, and_true, Bool.or_false, Bool.or_true, Bool.true_or, Bool.false_or, beq_self_eq_true, List.getD_cons_zero, List.getD_cons_succ, not_true_eq_false, not_false_eq_true, ne_eq, Nat.zero_add, Nat.reduceAdd, Nat.reduceLeDiff, Int.reduceNeg, eq_self]
    exact hk _ _ ⟨rfl, _, _, _, rfl⟩
  · obtain ⟨rfl, y9, y10, y11, rfl⟩ := hP
    refine cont_step ?_
    simp only [startD, s_nil, s_cons, s_asg, s_par2, s_par3, s_aug, s_augS, s_expr, s_ret, s_retN, s_ite, s_for, s_brk, s_cnt, s_pass, s_never, for_step, lc_step, e_var, e_cst, e_bin, e_neg, e_not, e_and, e_or, e_cmp, e_chain, e_ife, e_tup, e_lst, e_ix, e_slc, e_rev, e_fld, e_call, e_meth, e_make, e_bi, e_bm, e_isi, e_lc, e_frz, e_sp, cont_nil, wEs, wG, wGs, wI, wIf, wO, ge0, geS, wIx, wCmp, wBin, wAug, wBi, wBm, arrD, sq_lst, sq_frl, sq_tup, lq_lst, isi_int, isi_bl, isi_str, isi_non, isi_lst, isi_frl, isi_tup, sl_tup, sl_lst, sl_frl, rv_tup, rv_lst, rv_frl, st_lst, st_frl, st_tup, mset_same, bxs_at, newL, wipeD, isN_non, isN_int, isN_bl, isN_str, isN_tup, isN_lst, isN_obj, rng_irg, isTy, List.map_cons, List.map_nil, Nat.reduceSub, List.replicate_succ, List.replicate_zero, List.set_cons_zero, List.set_cons_succ, List.cons_append, List.nil_append, List.length_cons, List.length_nil, List.any_cons, List.any_nil, decide_eq_true_eq, Bool.not_eq_true', decide_eq_false_iff_not, if_true, if_false, reduceIte, Bool.false_eq_true, Bool.true_eq_false, Bool.not_true, Bool.not_false, true_and, and_true, Bool.or_false, Bool.or_true, Bool.true_or, Bool.false_or, beq_self_eq_true, List.getD_cons_zero, List.getD_cons_succ, not_true_eq_false, not_false_eq_true, ne_eq, Nat.zero_add, Nat.reduceAdd, Nat.reduceLeDiff, Int.reduceNeg, eq_self, List.length_map]
    refine ⟨small_size (by omega), ?_⟩
    refine lcb Sw.D.int (fun _ _ => True) 1 0 (fun _ => trivial) (hB.le (by omega)) (fun x hx B' kk hr hk => ?_) fun st B9 ha hr hn3 => ?_
    · have := ht x hx
      simp only [startD, s_nil, s_cons, s_asg, s_par2, s_par3, s_aug, s_augS, s_expr, s_ret, s_retN, s_ite, s_for, s_brk, s_cnt, s_pass, s_never, for_step, lc_step, e_var, e_cst, e_bin, e_neg, e_not, e_and, e_or, e_cmp, e_chain, e_ife, e_tup, e_lst, e_ix, e_slc, e_rev, e_fld, e_call, e_meth, e_make, e_bi, e_bm, e_isi, e_lc, e_frz, e_sp, cont_nil, wEs, wG, wGs, wI, wIf, wO, ge0, geS, wIx, wCmp, wBin, wAug, wBi, wBm, arrD, sq_lst, sq_frl, sq_tup, lq_lst, isi_int, isi_bl, isi_str, isi_non, isi_lst, isi_frl, isi_tup, sl_tup, sl_lst, sl_frl, rv_tup, rv_lst, rv_frl, st_lst, st_frl, st_tup, mset_same, bxs_at, newL, wipeD, isN_non, isN_int, isN_bl, isN_str, isN_tup, isN_lst, isN_obj, rng_irg, isTy, List.map_cons, List.map_nil, Nat.reduceSub, List.replicate_succ, List.replicate_zero, List.set_cons_zero, List.set_cons_succ, List.cons_append, List.nil_append, List.length_cons, List.length_nil, List.any_cons, List.any_nil, decide_eq_true_eq, Bool.not_eq_true', decide_eq_false_iff_not, if_true, if_false, reduceIte, Bool.false_eq_true, Bool.true_eq_false, Bool.not_true, Bool.not_false, true_and, and_true, Bool.or_false, Bool.or_true, Bool.true_or, Bool.false_or, beq_self_eq_true, List.getD_cons_zero, List.getD_cons_succ, not_true_eq_false, not_false_eq_true, ne_eq, Nat.zero_add, Nat.reduceAdd, Nat.reduceLeDiff, Int.reduceNeg, eq_self]
      refine take_ok (hr.le (by omega)) (by omega) (by omega) fun n2 B4 b1 b2 h3 => ?_
      exact hk n2 B4 trivial h3
    have hsl : st.length = V.n := by rw [ha.len, htl]
    simp only [startD, s_nil, s_cons, s_asg, s_par2, s_par3, s_aug, s_augS, s_expr, s_ret, s_retN, s_ite, s_for, s_brk, s_cnt, s_pass, s_never, for_step, lc_step, e_var, e_cst, e_bin, e_neg, e_not, e_and, e_or, e_cmp, e_chain, e_ife, e_tup, e_lst, e_ix, e_slc, e_rev, e_fld, e_call, e_meth, e_make, e_bi, e_bm, e_isi, e_lc, e_frz, e_sp, cont_nil, wEs, wG, wGs, wI, wIf, wO, ge0, geS, wIx, wCmp, wBin, wAug, wBi, wBm, arrD, sq_lst, sq_frl, sq_tup, lq_lst, isi_int, isi_bl, isi_str, isi_non, isi_lst, isi_frl, isi_tup, sl_tup, sl_lst, sl_frl, rv_tup, rv_lst, rv_frl, st_lst, st_frl, st_tup, mset_same, bxs_at, newL, wipeD, isN_non, isN_int, isN_bl, isN_str, isN_tup, isN_lst, isN_obj, rng_irg, isTy, List.map_cons, List.map_nil, Nat.reduceSub, List.replicate_succ, List.replicate_zero, List.set_cons_zero, List.set_cons_succ, List.cons_append, List.nil_append, List.length_cons, List.length_nil, List.any_cons, List.any_nil, decide_eq_true_eq, Bool.not_eq_true', decide_eq_false_iff_not, if_true, if_false, reduceIte, Bool.false_eq_true, Bool.true_eq_false, Bool.not_true, Bool.not_false, true_and, and_true, Bool.or_false, Bool.or_true, Bool.true_or, Bool.false_or, beq_self_eq_true, List.getD_cons_zero, List.getD_cons_succ, not_true_eq_false, not_false_eq_true, ne_eq, Nat.zero_add, Nat.reduceAdd, Nat.reduceLeDiff, Int.reduceNeg, eq_self, List.length_map]
    refine ⟨small_le (by omega), ?_⟩
    refine cont_step ?_
    simp only [startD, s_nil, s_cons, s_asg, s_par2, s_par3, s_aug, s_augS, s_expr, s_ret, s_retN, s_ite, s_for, s_brk, s_cnt, s_pass, s_never, for_step, lc_step, e_var, e_cst, e_bin, e_neg, e_not, e_and, e_or, e_cmp, e_chain, e_ife, e_tup, e_lst, e_ix, e_slc, e_rev, e_fld, e_call, e_meth, e_make, e_bi, e_bm, e_isi, e_lc, e_frz, e_sp, cont_nil, wEs, wG, wGs, wI, wIf, wO, ge0, geS, wIx, wCmp, wBin, wAug, wBi, wBm, arrD, sq_lst, sq_frl, sq_tup, lq_lst, isi_int, isi_bl, isi_str, isi_non, isi_lst, isi_frl, isi_tup, sl_tup, sl_lst, sl_frl, rv_tup, rv_lst, rv_frl, st_lst, st_frl, st_tup, mset_same, bxs_at, newL, wipeD, isN_non, isN_int, isN_bl, isN_str, isN_tup, isN_lst, isN_obj, rng_irg, isTy, List.map_cons, List.map_nil, Nat.reduceSub, List.replicate_succ, List.replicate_zero, List.set_cons_zero, List.set_cons_succ, List.cons_append, List.nil_append, List.length_cons, List.length_nil, List.any_cons, List.any_nil, decide_eq_true_eq, Bool.not_eq_true', decide_eq_false_iff_not, if_true, if_false, reduceIte, Bool.false_eq_true, Bool.true_eq_false, Bool.not_true, Bool.not_false, true_and, and_true, Bool.or_false, Bool.or_true, Bool.true_or, Bool.false_or, beq_self_eq_true, List.getD_cons_zero, List.getD_cons_succ, not_true_eq_false, not_false_eq_true, ne_eq, Nat.zero_add, Nat.reduceAdd, Nat.reduceLeDiff, Int.reduceNeg, eq_self, pairs_map, List.length_map, List.length_zip, htl, hsl]
    refine ⟨fun _ => trivial, small_size (by omega), ?_⟩
    refine lc_map (fun p => .int (p.1 - p.2)) trivial (fun p hp kk hk => ?_) ?_
    · simp only [startD, s_nil, s_cons, s_asg, s_par2, s_par3, s_aug, s_augS, s_expr, s_ret, s_retN, s_ite, s_for, s_brk, s_cnt, s_pass, s_never, for_step, lc_step, e_var, e_cst, e_bin, e_neg, e_not, e_and, e_or, e_cmp, e_chain, e_ife, e_tup, e_lst, e_ix, e_slc, e_rev, e_fld, e_call, e_meth, e_make, e_bi, e_bm, e_isi, e_lc, e_frz, e_sp, cont_nil, wEs, wG, wGs, wI, wIf, wO, ge0, geS, wIx, wCmp, wBin, wAug, wBi, wBm, arrD, sq_lst, sq_frl, sq_tup, lq_lst, isi_int, isi_bl, isi_str, isi_non, isi_lst, isi_frl, isi_tup, sl_tup, sl_lst, sl_frl, rv_tup, rv_lst, rv_frl, st_lst, st_frl, st_tup, mset_same, bxs_at, newL, wipeD, isN_non, isN_int, isN_bl, isN_str, isN_tup, isN_lst, isN_obj, rng_irg, isTy, List.map_cons, List.map_nil, Nat.reduceSub, List.replicate_succ, List.replicate_zero, List.set_cons_zero, List.set_cons_succ, List.cons_append, List.nil_append, List.length_cons, List.length_nil, List.any_cons, List.any_nil, decide_eq_true_eq, Bool.not_eq_true', decide_eq_false_iff_not, if_true, if_false, reduceIte, Bool.false_eq_true, Bool.true_eq_false, Bool.not_true, Bool.not_false, true_and, and_true, Bool.or_false, Bool.or_true, Bool.true_or, Bool.false_or, beq_self_eq_true, List.getD_cons_zero, List.getD_cons_succ, not_true_eq_false, not_false_eq_true, ne_eq, Nat.zero_add, Nat.reduceAdd, Nat.reduceLeDiff, Int.reduceNeg, eq_self]
      exact hk
    have e3 : ((V.tops.zip st).map fun p => Sw.D.int (p.1 - p.2)) = ((V.tops.zip st).map fun p => p.1 - p.2).map Sw.D.int := by rw [List.map_map]; rfl
    rw [List.nil_append, e3]
    generalize ho : ((V.tops.zip st).map fun p => p.1 - p.2) = other
    have hol : other.length = V.n := by rw [← ho, List.length_map, List.length_zip, htl, hsl]; omega
    have hback : (V.tops.zip other).map (fun p => p.1 - p.2) = st := by
      rw [← ho]
      exact back_back (by rw [htl, hsl])
    simp only [startD, s_nil, s_cons, s_asg, s_par2, s_par3, s_aug, s_augS, s_expr, s_ret, s_retN, s_ite, s_for, s_brk, s_cnt, s_pass, s_never, for_step, lc_step, e_var, e_cst, e_bin, e_neg, e_not, e_and, e_or, e_cmp, e_chain, e_ife, e_tup, e_lst, e_ix, e_slc, e_rev, e_fld, e_call, e_meth, e_make, e_bi, e_bm, e_isi, e_lc, e_frz, e_sp, cont_nil, wEs, wG, wGs, wI, wIf, wO, ge0, geS, wIx, wCmp, wBin, wAug, wBi, wBm, arrD, sq_lst, sq_frl, sq_tup, lq_lst, isi_int, isi_bl, isi_str, isi_non, isi_lst, isi_frl, isi_tup, sl_tup, sl_lst, sl_frl, rv_tup, rv_lst, rv_frl, st_lst, st_frl, st_tup, mset_same, bxs_at, newL, wipeD, isN_non, isN_int, isN_bl, isN_str, isN_tup, isN_lst, isN_obj, rng_irg, isTy, List.map_cons, List.map_nil, Nat.reduceSub, List.replicate_succ, List.replicate_zero, List.set_cons_zero, List.set_cons_succ, List.cons_append, List.nil_append, List.length_cons, List.length_nil, List.any_cons, List.any_nil, decide_eq_true_eq, Bool.not_eq_true', decide_eq_false_iff_not, if_true, if_false, reduceIte, Bool.false_eq_true, Bool.true_eq_false, Bool.not_true, Bool.not_false, true_and, and_true, Bool.or_false, Bool.or_true, Bool.true_or, Bool.false_or, beq_self_eq_true, List.getD_cons_zero, List.getD_cons_succ, not_true_eq_false, not_false_eq_true, ne_eq, Nat.zero_add, Nat.reduceAdd, Nat.reduceLeDiff, Int.reduceNeg, eq_self, List.length_map]
    refine ⟨small_le (by omega), ?_⟩
    refine cont_step ?_
    simp only [startD, s_nil, s_cons, s_asg, s_par2, s_par3, s_aug, s_augS, s_expr, s_ret, s_retN, s_ite, s_for, s_brk, s_cnt, s_pass, s_never, for_step, lc_step, e_var, e_cst, e_bin, e_neg, e_not, e_and, e_or, e_cmp, e_chain, e_ife, e_tup, e_lst, e_ix, e_slc, e_rev, e_fld, e_call, e_meth, e_make, e_bi, e_bm, e_isi, e_lc, e_frz, e_sp, cont_nil, wEs, wG, wGs, wI, wIf, wO, ge0, geS, wIx, wCmp, wBin, wAug, wBi, wBm, arrD, sq_lst, sq_frl, sq_tup, lq_lst, isi_int, isi_bl, isi_str, isi_non, isi_lst, isi_frl, isi_tup, sl_tup, sl_lst, sl_frl, rv_tup, rv_lst, rv_frl, st_lst, st_frl, st_tup, mset_same, bxs_at, newL, wipeD, isN_non, isN_int, isN_bl, isN_str, isN_tup, isN_lst, isN_obj, rng_irg, isTy, List.map_cons, List.map_nil, Nat.reduceSub, List.replicate_succ, List.replicate_zero, List.set_cons_zero, List.set_cons_succ, List.cons_append, List.nil_append, List.length_cons, List.length_nil, List.any_cons, List.any_nil, decide_eq_true_eq, Bool.not_eq_true', decide_eq_false_iff_not, if_true, if_false, reduceIte, Bool.false_eq_true, Bool.true_eq_false, Bool.not_true, Bool.not_false, true_and, and_true, Bool.or_false, Bool.or_true, Bool.true_or, Bool.false_or, beq_self_eq_true, List.getD_cons_zero, List.getD_cons_succ, not_true_eq_false, not_false_eq_true, ne_eq, Nat.zero_add, Nat.reduceAdd, Nat.reduceLeDiff, Int.reduceNeg, eq_self]
    refine mirror_ok o hsl ?_
    refine mirror_ok o hol ?_
    rw [ho, hback]
    refine ⟨small_le (by decide), small_le (by decide), ?_⟩
    refine same_ok 2 ⟨by simp, fun y hy => ?_⟩ rfl ?_
    · simp only [List.mem_cons, List.not_mem_nil, or_false] at hy
      rcases hy with rfl | rfl <;> exact plain_tI (by omega)
    exact rtn_self (h _ (hn3.le (by omega)))
theorem sum_small {mm : List Int} (hl : mm.length ≤ 5) (hb : ∀ x ∈ mm, -4 ≤ x ∧ x ≤ 4) : -(2 ^ 64) < mm.sum ∧ mm.sum < 2 ^ 64 := by
  have : -4 * (mm.length : Int) ≤ mm.sum ∧ mm.sum ≤ 4 * (mm.length : Int) := by
    clear hl
    induction mm with
    | nil => simp
    | cons x r ih =>
      have h1 := hb x List.mem_cons_self
      have h2 := ih fun y hy => hb y (List.mem_cons_of_mem _ hy)
      rw [List.sum_cons, List.length_cons]
      omega
  omega
theorem right_ok (hB : Rdy 8000 B) (h : ∀ B', Nx 8000 B B' → Φ (.bl true) (bxs M b B')) : callAt T (k + 10) "_law_right" [.loc b] (bxs M b B) Φ Ψ := by
  refine call_row rfl ?_
  simp only [startD, s_nil, s_cons, s_asg, s_par2, s_par3, s_aug, s_augS, s_expr, s_ret, s_retN, s_ite, s_for, s_brk, s_cnt, s_pass, s_never, for_step, lc_step, e_var, e_cst, e_bin, e_neg, e_not, e_and, e_or, e_cmp, e_chain, e_ife, e_tup, e_lst, e_ix, e_slc, e_rev, e_fld, e_call, e_meth, e_make, e_bi, e_bm, e_isi, e_lc, e_frz, e_sp, cont_nil, wEs, wG, wGs, wI, wIf, wO, ge0, geS, wIx, wCmp, wBin, wAug, wBi, wBm, arrD, sq_lst, sq_frl, sq_tup, lq_lst, isi_int, isi_bl, isi_str, isi_non, isi_lst, isi_frl, isi_tup, sl_tup, sl_lst, sl_frl, rv_tup, rv_lst, rv_frl, st_lst, st_frl, st_tup, mset_same, bxs_at, newL, wipeD, isN_non, isN_int, isN_bl, isN_str, isN_tup, isN_lst, isN_obj, rng_irg, isTy, List.map_cons, List.map_nil, Nat.reduceSub, List.replicate_succ, List.replicate_zero, List.set_cons_zero, List.set_cons_succ, List.cons_append, List.nil_append, List.length_cons, List.length_nil, List.any_cons, List.any_nil, decide_eq_true_eq, Bool.not_eq_true', decide_eq_false_iff_not, if_true, if_false, reduceIte, Bool.false_eq_true, Bool.true_eq_false, Bool.not_true, Bool.not_false, true_and, and_true, Bool.or_false, Bool.or_true, Bool.true_or, Bool.false_or, beq_self_eq_true, List.getD_cons_zero, List.getD_cons_succ, not_true_eq_false, not_false_eq_true, ne_eq, Nat.zero_add, Nat.reduceAdd, Nat.reduceLeDiff, Int.reduceNeg, eq_self, b__law_right]
  refine ⟨by decide, by decide, ?_⟩
  refine forb (e := Sw.D.int) (fun i Γ M' => M' = M ∧ ∃ y1 y2 y3 y4 y5 y6 y7, Γ = [some (.loc b), y1, y2, y3, y4, y5, y6, y7, none]) 1000 0 (fun _ _ _ _ _ => trivial) (i := 0) (hB.le (by rw [irg_len]; decide)) ⟨rfl, _, _, _, _, _, _, _, rfl⟩ (fun j x hx Γ M' B1 kk hP hr hk => ?_) (fun Γ' M' B' hP hr hn => ?_)
  · obtain ⟨eM, y1, y2, y3, y4, y5, y6, y7, rfl⟩ := hP
    rw [eM]
    simp only [startD, s_nil, s_cons, s_asg, s_par2, s_par3, s_aug, s_augS, s_expr, s_ret, s_retN, s_ite, s_for, s_brk, s_cnt, s_pass, s_never, for_step, lc_step, e_var, e_cst, e_bin, e_neg, e_not, e_and, e_or, e_cmp, e_chain, e_ife, e_tup, e_lst, e_ix, e_slc, e_rev, e_fld, e_call, e_meth, e_make, e_bi, e_bm, e_isi, e_lc, e_frz, e_sp, cont_nil, wEs, wG, wGs, wI, wIf, wO, ge0, geS, wIx, wCmp, wBin, wAug, wBi, wBm, arrD, sq_lst, sq_frl, sq_tup, lq_lst, isi_int, isi_bl, isi_str, isi_non, isi_lst, isi_frl, isi_tup, sl_tup, sl_lst, sl_frl, rv_tup, rv_lst, rv_frl, st_lst, st_frl, st_tup, mset_same, bxs_at, newL, wipeD, isN_non, isN_int, isN_bl, isN_str, isN_tup, isN_lst, isN_obj, rng_irg, isTy, List.map_cons, List.map_nil, Nat.reduceSub, List.replicate_succ, List.replicate_zero, List.set_cons_zero, List.set_cons_succ, List.cons_append, List.nil_append, List.length_cons, List.length_nil, List.any_cons, List.any_nil, decide_eq_true_eq, Bool.not_eq_true', decide_eq_false_iff_not, if_true, if_false, reduceIte, Bool.false_eq_true, Bool.true_eq_false, Bool.not_true, Bool.not_false, true_and, and_true, Bool.or_false, Bool.or_true, Bool.true_or, Bool.false_or, beq_self_eq_true, List.getD_cons_zero, List.getD_cons_succ, not_true_eq_false, not_false_eq_true, ne_eq, Nat.zero_add, Nat.reduceAdd, Nat.reduceLeDiff, Int.reduceNeg, eq_self]
    refine take_ok (hr.le (by omega)) (by decide) (by decide) fun n1 B2 a1 a2 h1 => ?_
    refine memory1_ok (sg := n1 - 1) (by unfold Sgn; omega) (hr.nx h1 (by omega)) fun mm B3 hm hm4 _ _ h2 => ?_
    refine take_ok (hr.nx (h1.trans h2) (by omega)) (by decide) (by decide) fun n2 B4 b1 b2 h3 => ?_
    have hr4 := hr.nx ((h1.trans h2).trans h3) (c' := 900) (by omega)
    refine cont_step ?_
    simp only [startD, s_nil, s_cons, s_asg, s_par2, s_par3, s_aug, s_augS, s_expr, s_ret, s_retN, s_ite, s_for, s_brk, s_cnt, s_pass, s_never, for_step, lc_step, e_var, e_cst, e_bin, e_neg, e_not, e_and, e_or, e_cmp, e_chain, e_ife, e_tup, e_lst, e_ix, e_slc, e_rev, e_fld, e_call, e_meth, e_make, e_bi, e_bm, e_isi, e_lc, e_frz, e_sp, cont_nil, wEs, wG, wGs, wI, wIf, wO, ge0, geS, wIx, wCmp, wBin, wAug, wBi, wBm, arrD, sq_lst, sq_frl, sq_tup, lq_lst, isi_int, isi_bl, isi_str, isi_non, isi_lst, isi_frl, isi_tup, sl_tup, sl_lst, sl_frl, rv_tup, rv_lst, rv_frl, st_lst, st_frl, st_tup, mset_same, bxs_at, newL, wipeD, isN_non, isN_int, isN_bl, isN_str, isN_tup, isN_lst, isN_obj, rng_irg, isTy, List.map_cons, List.map_nil, Nat.reduceSub, List.replicate_succ, List.replicate_zero, List.set_cons_zero, List.set_cons_succ, List.cons_append, List.nil_append, List.length_cons, List.length_nil, List.any_cons, List.any_nil, decide_eq_true_eq, Bool.not_eq_true', decide_eq_false_iff_not, if_true, if_false, reduceIte, Bool.false_eq_true, Bool.true_eq_false, Bool.not_true, Bool.not_false, true_and, and_true, Bool.or_false, Bool.or_true, Bool.true_or, Bool.false_or, beq_self_eq_true, List.getD_cons_zero, List.getD_cons_succ, not_true_eq_false, not_false_eq_true, ne_eq, Nat.zero_add, Nat.reduceAdd, Nat.reduceLeDiff, Int.reduceNeg, eq_self]
    refine ⟨small_le (by decide), ?_⟩
    refine take_ok (hr4.le (by omega)) (by decide) (by decide) fun n3 B5 c1 c2 h4 => ?_
    obtain ⟨sg, hsg, hat⟩ : ∃ sg : Int, (sg = 1 ∨ sg = -1) ∧ ∀ kk : Sw.D → Prop, kk (.int sg) → atD [Sw.D.int 1, Sw.D.int (-1)] n3 kk := by
      by_cases c : n3 = 0
      · subst c
        exact ⟨1, .inl rfl, fun kk hk => atD_get (by decide) rfl hk⟩
      · have : n3 = 1 := by omega
        subst this
        exact ⟨-1, .inr rfl, fun kk hk => atD_get (by decide) rfl hk⟩
    refine hat _ ?_
    refine strings1_ok hsg (by omega) (by omega) (hr4.nx h4 (by omega)) fun R own B6 hR ho ho2 _ _ h5 => ?_
    have hr6 := hr4.nx (h4.trans h5) (c' := 450) (by omega)
    obtain ⟨n, en⟩ : ∃ n : Nat, (1 + n2).toNat = n := ⟨_, rfl⟩
    have en' : 1 + n2 = (n : Int) := by omega
    rw [en] at hR
    have hmm := sum_small hm.2.1 hm4
    simp only [startD, s_nil, s_cons, s_asg, s_par2, s_par3, s_aug, s_augS, s_expr, s_ret, s_retN, s_ite, s_for, s_brk, s_cnt, s_pass, s_never, for_step, lc_step, e_var, e_cst, e_bin, e_neg, e_not, e_and, e_or, e_cmp, e_chain, e_ife, e_tup, e_lst, e_ix, e_slc, e_rev, e_fld, e_call, e_meth, e_make, e_bi, e_bm, e_isi, e_lc, e_frz, e_sp, cont_nil, wEs, wG, wGs, wI, wIf, wO, ge0, geS, wIx, wCmp, wBin, wAug, wBi, wBm, arrD, sq_lst, sq_frl, sq_tup, lq_lst, isi_int, isi_bl, isi_str, isi_non, isi_lst, isi_frl, isi_tup, sl_tup, sl_lst, sl_frl, rv_tup, rv_lst, rv_frl, st_lst, st_frl, st_tup, mset_same, bxs_at, newL, wipeD, isN_non, isN_int, isN_bl, isN_str, isN_tup, isN_lst, isN_obj, rng_irg, isTy, List.map_cons, List.map_nil, Nat.reduceSub, List.replicate_succ, List.replicate_zero, List.set_cons_zero, List.set_cons_succ, List.cons_append, List.nil_append, List.length_cons, List.length_nil, List.any_cons, List.any_nil, decide_eq_true_eq, Bool.not_eq_true', decide_eq_false_iff_not, if_true, if_false, reduceIte, Bool.false_eq_true, Bool.true_eq_false, Bool.not_true, Bool.not_false, true_and, and_true, Bool.or_false, Bool.or_true, Bool.true_or, Bool.false_or, beq_self_eq_true, List.getD_cons_zero, List.getD_cons_succ, not_true_eq_false, not_false_eq_true, ne_eq, Nat.zero_add, Nat.reduceAdd, Nat.reduceLeDiff, Int.reduceNeg, eq_self]
    refine cont_step ?_
    simp only [startD, s_nil, s_cons, s_asg, s_par2, s_par3, s_aug, s_augS, s_expr, s_ret, s_retN, s_ite, s_for, s_brk, s_cnt, s_pass, s_never, for_step, lc_step, e_var, e_cst, e_bin, e_neg, e_not, e_and, e_or, e_cmp, e_chain, e_ife, e_tup, e_lst, e_ix, e_slc, e_rev, e_fld, e_call, e_meth, e_make, e_bi, e_bm, e_isi, e_lc, e_frz, e_sp, cont_nil, wEs, wG, wGs, wI, wIf, wO, ge0, geS, wIx, wCmp, wBin, wAug, wBi, wBm, arrD, sq_lst, sq_frl, sq_tup, lq_lst, isi_int, isi_bl, isi_str, isi_non, isi_lst, isi_frl, isi_tup, sl_tup, sl_lst, sl_frl, rv_tup, rv_lst, rv_frl, st_lst, st_frl, st_tup, mset_same, bxs_at, newL, wipeD, isN_non, isN_int, isN_bl, isN_str, isN_tup, isN_lst, isN_obj, rng_irg, isTy, List.map_cons, List.map_nil, Nat.reduceSub, List.replicate_succ, List.replicate_zero, List.set_cons_zero, List.set_cons_succ, List.cons_append, List.nil_append, List.length_cons, List.length_nil, List.any_cons, List.any_nil, decide_eq_true_eq, Bool.not_eq_true', decide_eq_false_iff_not, if_true, if_false, reduceIte, Bool.false_eq_true, Bool.true_eq_false, Bool.not_true, Bool.not_false, true_and, and_true, Bool.or_false, Bool.or_true, Bool.true_or, Bool.false_or, beq_self_eq_true, List.getD_cons_zero, List.getD_cons_succ, not_true_eq_false, not_false_eq_true, ne_eq, Nat.zero_add, Nat.reduceAdd, Nat.reduceLeDiff, Int.reduceNeg, eq_self]
    refine take_ok (hr6.le (by omega)) (by decide) (by decide) fun n4 B7 d1 d2 h6 => ?_
    refine balanced_ok hR (by omega) hmm (r := 1 + n4) (by omega) ((hr6.nx h6 (c' := 449) (by omega)).le (by omega)) fun nss B8 nl hs h7 => ?_
    have hr8 := hr6.nx (h6.trans h7) (c' := 200) (by omega)
    have hs2 : ∀ r ∈ nss, StepsOk r := fun r hr => by
      obtain ⟨i, hi, e⟩ := List.mem_iff_getElem.mp hr
      have := (hs i (by omega)).1
      rw [List.getD_eq_getElem?_getD, List.getElem?_eq_getElem hi] at this
      rw [← e]; exact this
    have mk : ∀ st : List (List Int), st.length = n → (∀ r ∈ st, StepsOk r) → HallV.Ok ⟨R, st, mm⟩ := fun st h1 h2 => 
      { n0 := fun e => by have := hR.1; simp only at e; rw [e] at this; simp at this; omega
        n1 := by have := hR.1; simp only; omega
        r := fun r hr => by rw [hR.mem r hr]; exact hR.1.symm
        n2 := by simp only; rw [h1, hR.1]
        s := h2
        m := hm }
    have hV : ∀ st, (HallV.n ⟨R, st, mm⟩) = n := fun st => hR.1
    have o := mk nss nl hs2
    refine cont_step ?_
    simp only [startD, s_nil, s_cons, s_asg, s_par2, s_par3, s_aug, s_augS, s_expr, s_ret, s_retN, s_ite, s_for, s_brk, s_cnt, s_pass, s_never, for_step, lc_step, e_var, e_cst, e_bin, e_neg, e_not, e_and, e_or, e_cmp, e_chain, e_ife, e_tup, e_lst, e_ix, e_slc, e_rev, e_fld, e_call, e_meth, e_make, e_bi, e_bm, e_isi, e_lc, e_frz, e_sp, cont_nil, wEs, wG, wGs, wI, wIf, wO, ge0, geS, wIx, wCmp, wBin, wAug, wBi, wBm, arrD, sq_lst, sq_frl, sq_tup, lq_lst, isi_int, isi_bl, isi_str, isi_non, isi_lst, isi_frl, isi_tup, sl_tup, sl_lst, sl_frl, rv_tup, rv_lst, rv_frl, st_lst, st_frl, st_tup, mset_same, bxs_at, newL, wipeD, isN_non, isN_int, isN_bl, isN_str, isN_tup, isN_lst, isN_obj, rng_irg, isTy, List.map_cons, List.map_nil, Nat.reduceSub, List.replicate_succ, List.replicate_zero, List.set_cons_zero, List.set_cons_succ, List.cons_append, List.nil_append, List.length_cons, List.length_nil, List.any_cons, List.any_nil, decide_eq_true_eq, Bool.not_eq_true', decide_eq_false_iff_not, if_true, if_false, reduceIte, Bool.false_eq_true, Bool.true_eq_false, Bool.not_true, Bool.not_false, true_and, and_true, Bool.or_false, Bool.or_true, Bool.true_or, Bool.false_or, beq_self_eq_true, List.getD_cons_zero, List.getD_cons_succ, not_true_eq_false, not_false_eq_true, ne_eq, Nat.zero_add, Nat.reduceAdd, Nat.reduceLeDiff, Int.reduceNeg, eq_self]
    refine hall_right_ok (V := ⟨R, nss, mm⟩) o hmm (by rw [hV]; exact hR) (by rw [hV]; exact hr8.le (by omega)) fun B9 h8 => ?_
    rw [hV] at h8
    simp only [startD, s_nil, s_cons, s_asg, s_par2, s_par3, s_aug, s_augS, s_expr, s_ret, s_retN, s_ite, s_for, s_brk, s_cnt, s_pass, s_never, for_step, lc_step, e_var, e_cst, e_bin, e_neg, e_not, e_and, e_or, e_cmp, e_chain, e_ife, e_tup, e_lst, e_ix, e_slc, e_rev, e_fld, e_call, e_meth, e_make, e_bi, e_bm, e_isi, e_lc, e_frz, e_sp, cont_nil, wEs, wG, wGs, wI, wIf, wO, ge0, geS, wIx, wCmp, wBin, wAug, wBi, wBm, arrD, sq_lst, sq_frl, sq_tup, lq_lst, isi_int, isi_bl, isi_str, isi_non, isi_lst, isi_frl, isi_tup, sl_tup, sl_lst, sl_frl, rv_tup, rv_lst, rv_frl, st_lst, st_frl, st_tup, mset_same, bxs_at, newL, wipeD, isN_non, isN_int, isN_bl, isN_str, isN_tup, isN_lst, isN_obj, rng_irg, isTy, List.map_cons, List.map_nil, Nat.reduceSub, List.replicate_succ, List.replicate_zero, List.set_cons_zero, List.set_cons_succ, List.cons_append, List.nil_append, List.length_cons, List.length_nil, List.any_cons, List.any_nil, decide_eq_true_eq, Bool.not_eq_true', decide_eq_false_iff_not, if_true, if_false, reduceIte, Bool.false_eq_true, Bool.true_eq_false, Bool.not_true, Bool.not_false, true_and, and_true, Bool.or_false, Bool.or_true, Bool.true_or, Bool.false_or, beq_self_eq_true, List.getD_cons_zero, List.getD_cons_succ, not_true_eq_false, not_false_eq_true, ne_eq, Nat.zero_add, Nat.reduceAdd, Nat.reduceLeDiff, Int.reduceNeg, eq_self]
    refine cont_step ?_
    simp only [startD, s_nil, s_cons, s_asg, s_par2, s_par3, s_aug, s_augS, s_expr, s_ret, s_retN, s_ite, s_for, s_brk, s_cnt, s_pass, s_never, for_step, lc_step, e_var, e_cst, e_bin, e_neg, e_not, e_and, e_or, e_cmp, e_chain, e_ife, e_tup, e_lst, e_ix, e_slc, e_rev, e_fld, e_call, e_meth, e_make, e_bi, e_bm, e_isi, e_lc, e_frz, e_sp, cont_nil, wEs, wG, wGs, wI, wIf, wO, ge0, geS, wIx, wCmp, wBin, wAug, wBi, wBm, arrD, sq_lst, sq_frl, sq_tup, lq_lst, isi_int, isi_bl, isi_str, isi_non, isi_lst, isi_frl, isi_tup, sl_tup, sl_lst, sl_frl, rv_tup, rv_lst, rv_frl, st_lst, st_frl, st_tup, mset_same, bxs_at, newL, wipeD, isN_non, isN_int, isN_bl, isN_str, isN_tup, isN_lst, isN_obj, rng_irg, isTy, List.map_cons, List.map_nil, Nat.reduceSub, List.replicate_succ, List.replicate_zero, List.set_cons_zero, List.set_cons_succ, List.cons_append, List.nil_append, List.length_cons, List.length_nil, List.any_cons, List.any_nil, decide_eq_true_eq, Bool.not_eq_true', decide_eq_false_iff_not, if_true, if_false, reduceIte, Bool.false_eq_true, Bool.true_eq_false, Bool.not_true, Bool.not_false, true_and, and_true, Bool.or_false, Bool.or_true, Bool.true_or, Bool.false_or, beq_self_eq_true, List.getD_cons_zero, List.getD_cons_succ, not_true_eq_false, not_false_eq_true, ne_eq, Nat.zero_add, Nat.reduceAdd, Nat.reduceLeDiff, Int.reduceNeg, eq_self, ap_init]
    refine make_hall (V := ⟨R, nss, mm⟩) (rows_lst fun r => rfl) (rows_lst fun r => rfl) rfl o ?_
    refine cont_step ?_
    simp only [startD, s_nil, s_cons, s_asg, s_par2, s_par3, s_aug, s_augS, s_expr, s_ret, s_retN, s_ite, s_for, s_brk, s_cnt, s_pass, s_never, for_step, lc_step, e_var, e_cst, e_bin, e_neg, e_not, e_and, e_or, e_cmp, e_chain, e_ife, e_tup, e_lst, e_ix, e_slc, e_rev, e_fld, e_call, e_meth, e_make, e_bi, e_bm, e_isi, e_lc, e_frz, e_sp, cont_nil, wEs, wG, wGs, wI, wIf, wO, ge0, geS, wIx, wCmp, wBin, wAug, wBi, wBm, arrD, sq_lst, sq_frl, sq_tup, lq_lst, isi_int, isi_bl, isi_str, isi_non, isi_lst, isi_frl, isi_tup, sl_tup, sl_lst, sl_frl, rv_tup, rv_lst, rv_frl, st_lst, st_frl, st_tup, mset_same, bxs_at, newL, wipeD, isN_non, isN_int, isN_bl, isN_str, isN_tup, isN_lst, isN_obj, rng_irg, isTy, List.map_cons, List.map_nil, Nat.reduceSub, List.replicate_succ, List.replicate_zero, List.set_cons_zero, List.set_cons_succ, List.cons_append, List.nil_append, List.length_cons, List.length_nil, List.any_cons, List.any_nil, decide_eq_true_eq, Bool.not_eq_true', decide_eq_false_iff_not, if_true, if_false, reduceIte, Bool.false_eq_true, Bool.true_eq_false, Bool.not_true, Bool.not_false, true_and, and_true, Bool.or_false, Bool.or_true, Bool.true_or, Bool.false_or, beq_self_eq_true, List.getD_cons_zero, List.getD_cons_succ, not_true_eq_false, not_false_eq_true, ne_eq, Nat.zero_add, Nat.reduceAdd, Nat.reduceLeDiff, Int.reduceNeg, eq_self, en']
    refine ⟨by omega, by omega, small_size (by simp [irg_len]; omega), ?_⟩
    refine lc_map (fun x => .bl true) trivial (fun x hx kk hk => ?_) ?_
    · have := irg_mem hx
      simp only [startD, s_nil, s_cons, s_asg, s_par2, s_par3, s_aug, s_augS, s_expr, s_ret, s_retN, s_ite, s_for, s_brk, s_cnt, s_pass, s_never, for_step, lc_step, e_var, e_cst, e_bin, e_neg, e_not, e_and, e_or, e_cmp, e_chain, e_ife, e_tup, e_lst, e_ix, e_slc, e_rev, e_fld, e_call, e_meth, e_make, e_bi, e_bm, e_isi, e_lc, e_frz, e_sp, cont_nil, wEs, wG, wGs, wI, wIf, wO, ge0, geS, wIx, wCmp, wBin, wAug, wBi, wBm, arrD, sq_lst, sq_frl, sq_tup, lq_lst, isi_int, isi_bl, isi_str, isi_non, isi_lst, isi_frl, isi_tup, sl_tup, sl_lst, sl_frl, rv_tup, rv_lst, rv_frl, st_lst, st_frl, st_tup, mset_same, bxs_at, newL, wipeD, isN_non, isN_int, isN_bl, isN_str, isN_tup, isN_lst, isN_obj, rng_irg, isTy, List.map_cons, List.map_nil, Nat.reduceSub, List.replicate_succ, List.replicate_zero, List.set_cons_zero, List.set_cons_succ, List.cons_append, List.nil_append, List.length_cons, List.length_nil, List.any_cons, List.any_nil, decide_eq_true_eq, Bool.not_eq_true', decide_eq_false_iff_not, if_true, if_false, reduceIte, Bool.false_eq_true, Bool.true_eq_false, Bool.not_true, Bool.not_false, true_and, and_true, Bool.or_false, Bool.or_true, Bool.true_or, Bool.false_or, beq_self_eq_true, List.getD_cons_zero, List.getD_cons_succ, not_true_eq_false, not_false_eq_true, ne_eq, Nat.zero_add, Nat.reduceAdd, Nat.reduceLeDiff, Int.reduceNeg, eq_self]
      refine is_balanced o hmm (by omega) (by rw [hV]; omega) ?_
      have q := (hs x.toNat (by omega)).2.2.2
      have e4 : mid R mm (nss.map fun ns => (ns.length : Int)) x.toNat = HallV.mid ⟨R, nss, mm⟩ x.toNat := rfl
      rw [e4] at q
      rw [q]
      exact hk
    obtain ⟨e1, e2⟩ := all_true (irg 0 (n : Int).toNat)
    simp only [startD, s_nil, s_cons, s_asg, s_par2, s_par3, s_aug, s_augS, s_expr, s_ret, s_retN, s_ite, s_for, s_brk, s_cnt, s_pass, s_never, for_step, lc_step, e_var, e_cst, e_bin, e_neg, e_not, e_and, e_or, e_cmp, e_chain, e_ife, e_tup, e_lst, e_ix, e_slc, e_rev, e_fld, e_call, e_meth, e_make, e_bi, e_bm, e_isi, e_lc, e_frz, e_sp, cont_nil, wEs, wG, wGs, wI, wIf, wO, ge0, geS, wIx, wCmp, wBin, wAug, wBi, wBm, arrD, sq_lst, sq_frl, sq_tup, lq_lst, isi_int, isi_bl, isi_str, isi_non, isi_lst, isi_frl, isi_tup, sl_tup, sl_lst, sl_frl, rv_tup, rv_lst, rv_frl, st_lst, st_frl, st_tup, mset_same, bxs_at, newL, wipeD, isN_non, isN_int, isN_bl, isN_str, isN_tup, isN_lst, isN_obj, rng_irg, isTy, List.map_cons, List.map_nil, Nat.reduceSub, List.replicate_succ, List.replicate_zero, List.set_cons_zero, List.set_cons_succ, List.cons_append, List.nil_append, List.length_cons, List.length_nil, List.any_cons, List.any_nil, decide_eq_true_eq, Bool.not_eq_true', decide_eq_false_iff_not, if_true, if_false, reduceIte, Bool.false_eq_true, Bool.true_eq_false, Bool.not_true, Bool.not_false, true_and, and_true, Bool.or_false, Bool.or_true, Bool.true_or, Bool.false_or, beq_self_eq_true, List.getD_cons_zero, List.getD_cons_succ, not_true_eq_false, not_false_eq_true, ne_eq, Nat.zero_add, Nat.reduceAdd, Nat.reduceLeDiff, Int.reduceNeg, eq_self, List.length_map, irg_len, e1, e2]
    refine ⟨small_le (by omega), ?_⟩
    refine cont_step ?_
    simp only [startD, s_nil, s_cons, s_asg, s_par2, s_par3, s_aug, s_augS, s_expr, s_ret, s_retN, s_ite, s_for, s_brk, s_cnt, s_pass, s_never, for_step, lc_step, e_var, e_cst, e_bin, e_neg, e_not, e_and, e_or, e_cmp, e_chain, e_ife, e_tup, e_lst, e_ix, e_slc, e_rev, e_fld, e_call, e_meth, e_make, e_bi, e_bm, e_isi, e_lc, e_frz, e_sp, cont_nil, wEs, wG, wGs, wI, wIf, wO, ge0, geS, wIx, wCmp, wBin, wAug, wBi, wBm, arrD, sq_lst, sq_frl, sq_tup, lq_lst, isi_int, isi_bl, isi_str, isi_non, isi_lst, isi_frl, isi_tup, sl_tup, sl_lst, sl_frl, rv_tup, rv_lst, rv_frl, st_lst, st_frl, st_tup, mset_same, bxs_at, newL, wipeD, isN_non, isN_int, isN_bl, isN_str, isN_tup, isN_lst, isN_obj, rng_irg, isTy, List.map_cons, List.map_nil, Nat.reduceSub, List.replicate_succ, List.replicate_zero, List.set_cons_zero, List.set_cons_succ, List.cons_append, List.nil_append, List.length_cons, List.length_nil, List.any_cons, List.any_nil, decide_eq_true_eq, Bool.not_eq_true', decide_eq_false_iff_not, if_true, if_false, reduceIte, Bool.false_eq_true, Bool.true_eq_false, Bool.not_true, Bool.not_false, true_and, and_true, Bool.or_false, Bool.or_true, Bool.true_or, Bool.false_or, beq_self_eq_true, List.getD_cons_zero, List.getD_cons_succ, not_true_eq_false, not_false_eq_true, ne_eq, Nat.zero_add, Nat.reduceAdd, Nat.reduceLeDiff, Int.reduceNeg, eq_self]
    have hr9 := hr8.nx h8 (c' := 100) (by omega)
    refine bent_ok nl (by omega) (by omega) hs2 (hr9.le (by omega)) fun us B10 ul us2 h9 => ?_
    have hr10 := hr9.nx h9 (c' := 50) (by omega)
    refine hall_right_ok (V := ⟨R, us, mm⟩) (mk us ul us2) hmm (by rw [hV]; exact hR) (by rw [hV]; exact hr10.le (by omega)) fun B11 h10 => ?_
    rw [hV] at h10
    simp only [startD, s_nil, s_cons, s_asg, s_par2, s_par3, s_aug, s_augS, s_expr, s_ret, s_retN, s_ite, s_for, s_brk, s_cnt, s_pass, s_never, for_step, lc_step, e_var, e_cst, e_bin, e_neg, e_not, e_and, e_or, e_cmp, e_chain, e_ife, e_tup, e_lst, e_ix, e_slc, e_rev, e_fld, e_call, e_meth, e_make, e_bi, e_bm, e_isi, e_lc, e_frz, e_sp, cont_nil, wEs, wG, wGs, wI, wIf, wO, ge0, geS, wIx, wCmp, wBin, wAug, wBi, wBm, arrD, sq_lst, sq_frl, sq_tup, lq_lst, isi_int, isi_bl, isi_str, isi_non, isi_lst, isi_frl, isi_tup, sl_tup, sl_lst, sl_frl, rv_tup, rv_lst, rv_frl, st_lst, st_frl, st_tup, mset_same, bxs_at, newL, wipeD, isN_non, isN_int, isN_bl, isN_str, isN_tup, isN_lst, isN_obj, rng_irg, isTy, List.map_cons, List.map_nil, Nat.reduceSub, List.replicate_succ, List.replicate_zero, List.set_cons_zero, List.set_cons_succ, List.cons_append, List.nil_append, List.length_cons, List.length_nil, List.any_cons, List.any_nil, decide_eq_true_eq, Bool.not_eq_true', decide_eq_false_iff_not, if_true, if_false, reduceIte, Bool.false_eq_true, Bool.true_eq_false, Bool.not_true, Bool.not_false, true_and, and_true, Bool.or_false, Bool.or_true, Bool.true_or, Bool.false_or, beq_self_eq_true, List.getD_cons_zero, List.getD_cons_succ, not_true_eq_false, not_false_eq_true, ne_eq, Nat.zero_add, Nat.reduceAdd, Nat.reduceLeDiff, Int.reduceNeg, eq_self]
    exact hk _ _ _ ⟨rfl, _, _, _, _, _, _, _, rfl⟩ ((((h1.trans h2).trans h3).trans ((h4.trans h5).trans ((h6.trans h7).trans ((h8.trans h9).trans h10)))).le (by omega))
  · obtain ⟨eM, y1, y2, y3, y4, y5, y6, y7, rfl⟩ := hP
    rw [eM]
    refine cont_step ?_
    simp only [startD, s_nil, s_cons, s_asg, s_par2, s_par3, s_aug, s_augS, s_expr, s_ret, s_retN, s_ite, s_for, s_brk, s_cnt, s_pass, s_never, for_step, lc_step, e_var, e_cst, e_bin, e_neg, e_not, e_and, e_or, e_cmp, e_chain, e_ife, e_tup, e_lst, e_ix, e_slc, e_rev, e_fld, e_call, e_meth, e_make, e_bi, e_bm, e_isi, e_lc, e_frz, e_sp, cont_nil, wEs, wG, wGs, wI, wIf, wO, ge0, geS, wIx, wCmp, wBin, wAug, wBi, wBm, arrD, sq_lst, sq_frl, sq_tup, lq_lst, isi_int, isi_bl, isi_str, isi_non, isi_lst, isi_frl, isi_tup, sl_tup, sl_lst, sl_frl, rv_tup, rv_lst, rv_frl, st_lst, st_frl, st_tup, mset_same, bxs_at, newL, wipeD, isN_non, isN_int, isN_bl, isN_str, isN_tup, isN_lst, isN_obj, rng_irg, isTy, List.map_cons, List.map_nil, Nat.reduceSub, List.replicate_succ, List.replicate_zero, List.set_cons_zero, List.set_cons_succ, List.cons_append, List.nil_append, List.length_cons, List.length_nil, List.any_cons, List.any_nil, decide_eq_true_eq, Bool.not_eq_true', decide_eq_false_iff_not, if_true, if_false, reduceIte, Bool.false_eq_true, Bool.true_eq_false, Bool.not_true, Bool.not_false, true_and, and_true, Bool.or_false, Bool.or_true, Bool.true_or, Bool.false_or, beq_self_eq_true, List.getD_cons_zero, List.getD_cons_succ, not_true_eq_false, not_false_eq_true, ne_eq, Nat.zero_add, Nat.reduceAdd, Nat.reduceLeDiff, Int.reduceNeg, eq_self]
    exact rtn_self (h B' (hn.le (by rw [irg_len]; decide)))
end
theorem K21_law (ns : List Int) (h : ns.length ≤ 63) (_ : ∀ z ∈ ns, Builtin.Int.intBits z ≤ 1048576) : callAt T 40 "law" [.frl (ns.map Sw.D.int)] (fun _ => none) (fun d _ => d = .bl true) noX := by
  have := rows_T
  exact law_all (N := 5) (by decide) (by decide) h fun M b B Φ hM hB hk => right_ok (hB.le (by decide)) fun B' _ => hk _
end K21
namespace Fin
open PySem PySem.W PyProof.Rows
theorem walk {l : PySem.W.OpenLaw} {q : Program} {loose : List Str} {XP : (Str → Option Value) → Heap → Prop} {YP : World → Heap → Prop} {d : DefRec} {K : Params → PySem.W.Frag} (hn : l.most = some 63) (hdf : d.params.defaults = [])
    (hY : ∀ (w : World) (h : Heap), YP w h → (K w.params).In h)
    (F : ∀ (w : World) (mg : Str → Option Value) (fa : Addr) (h : Heap), (K w.params).In h → h.Ns mainGlobals mg → mg d.name = some (.ref fa) →
      ∃ fd : FuncData, (∀ (s : Shared) (u : Value), BindsTo s fd ⟨[u], []⟩ [("_law_script", u)]) ∧ ∀ base : Heap, (K w.params).In base → base.Ns mainGlobals mg → L2.FnOk l.prog w (K w.params) mg base L2.CX0 81 fa fd ["_law_script"] (Sw.spLaw (K w.params) 63)) :
    PySem.W.WalkO q loose XP YP l.row.toRowW d [] (fun f vs => PySem.call f vs) :=
  L2.walk_ofB (n := 63) (k := 81) (x := "_law_script") (CX := fun _ => L2.CX0) (sp := fun w => Sw.spLaw (K w.params) 63) hn (by decide) hdf ⟨rfl, by decide, by decide⟩ hY F (fun _ _ a ns hl hb _ hS => ⟨a, ns, rfl, hS, hl, hb, fun _ => rfl⟩) fun _ _ _ _ _ z => z
end Fin
open PySem PySem.W PyProof.Rows
set_option maxHeartbeats 0 in
theorem K21.fin_ : PySem.Challenge.rw_swayhalls_k21_middles_balance_mirrors.Holds := by
  w_on; o_law; k_head; (case hw => w_witness2)
  k_fill
  refine Fin.walk (l := PySem.Challenge.rw_swayhalls_k21_middles_balance_mirrors) rfl rfl (fun w h Y => PySem.W.kIn_of Y) ?F
  case F =>
    intro w mg fa h KX G hmg
    refine' K21.all_mk KX G hmg ?aC_Hall ?a0 ?l0 ?c0 ?k0 ?a1 ?l1 ?c1 ?k1 ?a2 ?l2 ?c2 ?k2 ?a3 ?l3 ?c3 ?k3 ?a4 ?l4 ?c4 ?k4 ?a5 ?l5 ?c5 ?k5 ?a6 ?l6 ?c6 ?k6 ?a7 ?l7 ?c7 ?k7 ?a8 ?i8 ?l8 ?c8 ?k8 ?t8 ?ld_d8_0 ?a9 ?l9 ?c9 ?k9 ?a10 ?l10 ?c10 ?k10 ?a11 ?l11 ?c11 ?k11 ?a12 ?l12 ?c12 ?k12 ?a13 ?l13 ?c13 ?k13 ?a14 ?l14 ?c14 ?k14 ?a15 ?l15 ?c15 ?k15 ?a16 ?l16 ?c16 ?k16 ?a17 ?l17 ?c17 ?k17 ?a18 ?l18 ?c18 ?k18 ?a19 ?l19 ?c19 ?k19 ?a20 ?l20 ?c20 ?k20 ?a21 ?i21 ?l21 ?c21 ?k21 ?a22 ?l22 ?c22 ?k22 ?a23 ?i23 ?l23 ?c23 ?k23 ?a24 ?i24 ?l24 ?c24 ?k24 ?a25 ?l25 ?c25 ?k25 ?a26 ?l26 ?c26 ?k26 ?a27 ?i27 ?l27 ?c27 ?k27 ?a28 ?i28 ?l28 ?c28 ?k28 ?a29 ?l29 ?c29 ?k29 ?a30 ?l30 ?c30 ?k30 ?pg_Hall ?hd_Hall ?po_Hall ?sa_Hall ?mk_Hall ?kc_Hall ?nf_Hall_own_strings ?nf_Hall_own_steps ?nf_Hall_own_memory ?mc_MOST_BEATS ?mc_MOST_STEPS ?z_len ?z_abs ?z_int ?z_sum ?z_all ?z_any ?z_tuple ?z_list ?z_min ?z_max ?z_isinstance ?z_range ?z_zip ?z_enumerate ?z_bool ?z_str ?z_sorted ?z_set K21.K21_law
    (case aC_Hall => k_is)
    (case a0 => k_is)
    (case l0 => k_is)
    (case c0 => k_is)
    (case k0 => k_is)
    (case a1 => k_is)
    (case l1 => k_is)
    (case c1 => k_is)
    (case k1 => k_is)
    (case a2 => k_is)
    (case l2 => k_is)
    (case c2 => k_is)
    (case k2 => k_is)
    (case a3 => k_is)
    (case l3 => k_is)
    (case c3 => k_is)
    (case k3 => k_is)
    (case a4 => k_is)
    (case l4 => k_is)
    (case c4 => k_is)
    (case k4 => k_is)
    (case a5 => k_is)
    (case l5 => k_is)
    (case c5 => k_is)
    (case k5 => k_is)
    (case a6 => k_is)
    (case l6 => k_is)
    (case c6 => k_is)
    (case k6 => k_is)
    (case a7 => k_is)
    (case l7 => k_is)
    (case c7 => k_is)
    (case k7 => k_is)
    (case a8 => k_is)
    (case i8 => k_is)
    (case l8 => k_is)
    (case c8 => k_is)
    (case k8 => k_is)
    (case t8 => k_is)
    (case ld_d8_0 => k_is)
    (case a9 => k_is)
    (case l9 => k_is)
    (case c9 => k_is)
    (case k9 => k_is)
    (case a10 => k_is)
    (case l10 => k_is)
    (case c10 => k_is)
    (case k10 => k_is)
    (case a11 => k_is)
    (case l11 => k_is)
    (case c11 => k_is)
    (case k11 => k_is)
    (case a12 => k_is)
    (case l12 => k_is)
    (case c12 => k_is)
    (case k12 => k_is)
    (case a13 => k_is)
    (case l13 => k_is)
    (case c13 => k_is)
    (case k13 => k_is)
    (case a14 => k_is)
    (case l14 => k_is)
    (case c14 => k_is)
    (case k14 => k_is)
    (case a15 => k_is)
    (case l15 => k_is)
    (case c15 => k_is)
    (case k15 => k_is)
    (case a16 => k_is)
    (case l16 => k_is)
    (case c16 => k_is)
    (case k16 => k_is)
    (case a17 => k_is)
    (case l17 => k_is)
    (case c17 => k_is)
    (case k17 => k_is)
    (case a18 => k_is)
    (case l18 => k_is)
    (case c18 => k_is)
    (case k18 => k_is)
    (case a19 => k_is)
    (case l19 => k_is)
    (case c19 => k_is)
    (case k19 => k_is)
    (case a20 => k_is)
    (case l20 => k_is)
    (case c20 => k_is)
    (case k20 => k_is)
    (case a21 => k_is)
    (case i21 => k_is)
    (case l21 => k_is)
    (case c21 => k_is)
    (case k21 => k_is)
    (case a22 => k_is)
    (case l22 => k_is)
    (case c22 => k_is)
    (case k22 => k_is)
    (case a23 => k_is)
    (case i23 => k_is)
    (case l23 => k_is)
    (case c23 => k_is)
    (case k23 => k_is)
    (case a24 => k_is)
    (case i24 => k_is)
    (case l24 => k_is)
    (case c24 => k_is)
    (case k24 => k_is)
    (case a25 => k_is)
    (case l25 => k_is)
    (case c25 => k_is)
    (case k25 => k_is)
    (case a26 => k_is)
    (case l26 => k_is)
    (case c26 => k_is)
    (case k26 => k_is)
    (case a27 => k_is)
    (case i27 => k_is)
    (case l27 => k_is)
    (case c27 => k_is)
    (case k27 => k_is)
    (case a28 => k_is)
    (case i28 => k_is)
    (case l28 => k_is)
    (case c28 => k_is)
    (case k28 => k_is)
    (case a29 => k_is)
    (case l29 => k_is)
    (case c29 => k_is)
    (case k29 => k_is)
    (case a30 => k_is)
    (case l30 => k_is)
    (case c30 => k_is)
    (case k30 => k_is)
    (case pg_Hall => k_is)
    (case hd_Hall => k_is)
    (case po_Hall => k_is)
    (case sa_Hall => k_is)
    (case mk_Hall => k_is)
    (case kc_Hall => k_is)
    (case nf_Hall_own_strings => k_is)
    (case nf_Hall_own_steps => k_is)
    (case nf_Hall_own_memory => k_is)
    (case mc_MOST_BEATS => k_is)
    (case mc_MOST_STEPS => k_is)
    (case z_len => k_is)
    (case z_abs => k_is)
    (case z_int => k_is)
    (case z_sum => k_is)
    (case z_all => k_is)
    (case z_any => k_is)
    (case z_tuple => k_is)
    (case z_list => k_is)
    (case z_min => k_is)
    (case z_max => k_is)
    (case z_isinstance => k_is)
    (case z_range => k_is)
    (case z_zip => k_is)
    (case z_enumerate => k_is)
    (case z_bool => k_is)
    (case z_str => k_is)
    (case z_sorted => k_is)
    (case z_set => k_is)
theorem PySem.Challenge.cw_swayhalls_k21_middles_balance_mirrors_holds : PySem.Challenge.rw_swayhalls_k21_middles_balance_mirrors.Holds := by
  exact K21.fin_
