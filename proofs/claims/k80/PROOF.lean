import PyProof.Rows.All
import Wide.All
import OpenK.AllK
import Wide.FinOn
import HandS.ForMost
import HandS.ForExc
import HandS.CallSlots
import HandS.HeadHook4
import HandS.HeadWalk
import HandS.Lambda
import HandS.ExcInit
import KE.DataCmp
import KE.DataEq
import KE.DataAny
import KE.DataFind
import KE.DataIsa
import KE.SortData
import KE.DatumIndex
import HandS.Wide
import HandS.WideBits
import HandS.TupAny
import HandS.TupMul
import HandS.TupLe
import HandS.Gcd
import HandS.Zip
import HandS.Flow
import HandS.RevTup
import HandS.Style
import HandS.Deep
import PyProof.RowDictHeap
import HandS.IsInst
import HandS.NoneIn
import HandS.ExcField
import HandS.RepeatKit
import KE.KExcIs
import KE.SortKeyHeap
import KE.KLam
import HandS.SortKw
import HandS.Conv
import HandS.Dict
import HandS.TupSets
import KE.KStateDown
import HandS.Head0
import HandS.Head1
import HandS.Head2
import HandS.Head3
import PySem.Challenge.RW_shelltrees_k80_books_of_faces
set_option Elab.async false
set_option linter.all false
set_option maxRecDepth 100000
/-! DL1: data trees, ownership trees, regions of the abstract heap, and how they agree. -/
namespace DL
open PySem PySem.Spec PyProof.Rows L2

/-- data as trees; names of the module (defs, classes) by number -/
inductive D where
  | non | bl (b : Bool) | int (i : Int) | str (x : Str)
  | tup (xs : List D) | lst (xs : List D)
  | dct (ks : List Key) (xs : List D)
  | glo (g : Nat)
  | obj (g : Nat) (ns : List Str) (xs : List D)
  | pen
  | clo (k : Nat)

/-- a datum with what of it this frame alone holds: a list (its items likewise), an instance that is being made, a dict whose keys are tuples -/
inductive O where
  | frz (d : D)
  | own (xs : List O)
  | ins (g : Nat) (ns : List Str) (xs : List D)
  | odt (ks : List (List Key)) (xs : List D)

mutual
def O.d : O → D
  | .frz d => d
  | .own xs => .lst (O.ds xs)
  | .ins g ns xs => .obj g ns xs
  | .odt _ _ => .non
def O.ds : List O → List D
  | [] => []
  | o :: os => o.d :: O.ds os
end

mutual
/-- whether a dict with tuple keys is within -/
def O.hasT : O → Bool
  | .frz _ => false
  | .own xs => O.hasTs xs
  | .ins _ _ _ => false
  | .odt _ _ => true
def O.hasTs : List O → Bool
  | [] => false
  | o :: os => o.hasT || O.hasTs os
end

/-- the drawing pen's state -/
structure Pen where
  cells : List Int
  at_ : Int
  digits : Int
  count : Int
  fold : Int
  /-- what the lambdas see of their makers' slots -/
  env : List (Option D) := []

/-- a lambda without parameters: its qualified name, its text -/
structure LamD where
  qual : Str
  params : Arguments
  body : Expr
  scope : Scope
/-- the names by number; the tables of code objects with the names of the code that they hold; the lambdas by number, the cells of the def that makes them, by name; the names of what is captured, what the cells hold while that def waits for a call to end -/
structure Nm where
  f : Nat → Str
  T : List (Addr × Str)
  cs : List (Addr × Addr) := []
  lam : Nat → Option LamD := fun _ => none
  cells : List (Str × Addr) := []
  cN : List Str := []
  cv : List (Option V) := []
  /-- the classes that are exceptions -/
  xc : Nat → Bool := fun _ => false
instance : CoeFun Nm (fun _ => Nat → Str) := ⟨Nm.f⟩
/-- what is fixed for a law: the written part, the names -/
structure Gx where
  prog : Program
  w : World
  K : PySem.W.Frag
  mg : Str → Option Value
  base : Heap
  nm : Nm

/-- at f a lambda stands -/
def LamO (L : LamD) (cells : List (Str × Addr)) (f c' : Addr) : HO := .ext fun h => ∃ pm ctv : Value, h.get? f = some (PySem.W.kla_obj "<lambda>" L.qual L.params L.body L.scope (cloFrom cells L.scope.names []) pm c' ctv)
theorem LamO.ne_tbl {L : LamD} {cells : List (Str × Addr)} {f c' : Addr} : ∀ ps, LamO L cells f c' ≠ .tbl ps := fun ps z => by
  have z' : HO.ext _ = HO.tbl ps := z
  cases z'

/-- at a an instance of the class g, its fields fs: an exception's (its dict at dx), another's -/
def ObjAt (G : Gx) (H : Hp) (a dx : Addr) (g : Nat) (fs : List (Str × V)) : Prop :=
  (G.nm.xc g = false ∧ H a = some (.ins (He.ga G.K (G.nm g)) dx fs)) ∨ (G.nm.xc g = true ∧ ((H a = some (exo a (He.ga G.K (G.nm g)) (some dx)) ∧ H dx = some (exd dx fs)) ∨ (fs = [] ∧ H a = some (exo a (He.ga G.K (G.nm g)) none))))
theorem ObjAt.keep {G : Gx} {H H' : Hp} {a dx : Addr} {g : Nat} {fs : List (Str × V)} (k : ∀ b o, H b = some o → (∀ kvs, o ≠ .dK kvs) → (∀ ps, o ≠ .tbl ps) → H' b = some o) (h : ObjAt G H a dx g fs) : ObjAt G H' a dx g fs := by
  rcases h with ⟨h1, h2⟩ | ⟨h1, ⟨h2, h3⟩ | ⟨h2, h3⟩⟩
  · exact .inl ⟨h1, k _ _ h2 (fun _ z => nomatch z) (fun _ z => nomatch z)⟩
  · refine .inr ⟨h1, .inl ⟨k _ _ h2 (fun _ z => ?_) (fun _ => exo_tbl), k _ _ h3 (fun _ z => ?_) (fun _ z => ?_)⟩⟩ <;> (unfold exo exd at *; cases z)
  · refine .inr ⟨h1, .inr ⟨h2, k _ _ h3 (fun _ z => ?_) (fun _ => exo_tbl)⟩⟩
    unfold exo at z
    cases z
section
variable (G : Gx) (P : Addr) (H : Hp)
mutual
def Rep : D → V → Prop
  | .non, v => v = .non
  | .bl b, v => v = .bl b
  | .int i, v => v = .int i
  | .str x, v => v = .str x
  | .tup ds, v => ∃ a xs, v = .ref a ∧ H a = some (.tup xs) ∧ RepL ds xs
  | .lst ds, v => ∃ a xs, v = .ref a ∧ H a = some (.lst xs) ∧ RepL ds xs
  | .dct ks ds, v => ∃ a kvs, v = .ref a ∧ a ≠ P ∧ H a = some (.dK kvs) ∧ kvs.map (·.1) = ks ∧ RepL ds (kvs.map (·.2))
  | .glo g, v => v = .ref (He.ga G.K (G.nm g))
  | .obj g ns ds, v => ∃ a dx fs, v = .ref a ∧ ObjAt G H a dx g fs ∧ fs.map (·.1) = ns ∧ RepL ds (fs.map (·.2))
  | .pen, v => v = .ref P
  | .clo k, v => ∃ (f c' : Addr) (L : LamD), v = .ref f ∧ f ≠ P ∧ G.nm.lam k = some L ∧ H f = some (LamO L G.nm.cells f c') ∧ H c' = some (LamX.CodeO c' L.qual) ∧ c' ≠ P
def RepL : List D → List V → Prop
  | [], xs => xs = []
  | d :: ds, xs => ∃ y ys, xs = y :: ys ∧ Rep d y ∧ RepL ds ys
end
end

section
variable {G : Gx} {P : Addr} {H H' R R' : Hp}
theorem Same.sqT {K : PySem.W.Frag} {H H' : Hp} {a : Addr} {xs : List V} (e : Same H H') (h : H a = some (.tup xs)) : SqT K H' a xs := SqT.of (e _ _ h)
mutual
theorem Rep.mono (e : Same H H') : ∀ (d : D) (v : V), Rep G P H d v → Rep G P H' d v
  | .non, _, h => by simpa only [Rep] using h
  | .bl _, _, h => by simpa only [Rep] using h
  | .int _, _, h => by simpa only [Rep] using h
  | .str _, _, h => by simpa only [Rep] using h
  | .tup ds, v, h => by
    simp only [Rep] at h ⊢
    obtain ⟨a, xs, e1, e2, e3⟩ := h
    exact ⟨a, xs, e1, e _ _ e2, RepL.mono e ds xs e3⟩
  | .lst ds, v, h => by
    simp only [Rep] at h ⊢
    obtain ⟨a, xs, e1, e2, e3⟩ := h
    exact ⟨a, xs, e1, e _ _ e2, RepL.mono e ds xs e3⟩
  | .dct ks ds, v, h => by
    simp only [Rep] at h ⊢
    obtain ⟨a, kvs, e1, np, e2, e3, e4⟩ := h
    exact ⟨a, kvs, e1, np, e _ _ e2, e3, RepL.mono e ds _ e4⟩
  | .glo _, _, h => by simpa only [Rep] using h
  | .obj g ns ds, v, h => by
    simp only [Rep] at h ⊢
    obtain ⟨a, dx, fs, e1, e2, e3, e4⟩ := h
    exact ⟨a, dx, fs, e1, e2.keep fun b o q _ _ => e b o q, e3, RepL.mono e ds _ e4⟩
  | .pen, _, h => by simpa only [Rep] using h
  | .clo k, v, h => by
    simp only [Rep] at h ⊢
    obtain ⟨f, c', L, e1, np, e2, e3, e4, e5⟩ := h
    exact ⟨f, c', L, e1, np, e2, e _ _ e3, e _ _ e4, e5⟩
theorem RepL.mono (e : Same H H') : ∀ (ds : List D) (xs : List V), RepL G P H ds xs → RepL G P H' ds xs
  | [], _, h => by simpa only [RepL] using h
  | d :: ds, xs, h => by
    simp only [RepL] at h ⊢
    obtain ⟨y, ys, e1, e2, e3⟩ := h
    exact ⟨y, ys, e1, Rep.mono e d y e2, RepL.mono e ds ys e3⟩
end

/-- all but the pen's dict and the tables of code objects is kept -/
structure SX (P : Addr) (H H' : Hp) : Prop where
  at_ : ∀ a o, a ≠ P → (∀ ps, o ≠ .tbl ps) → H a = some o → H' a = some o
  tb : ∀ a ps, a ≠ P → H a = some (.tbl ps) → ∃ ps', H' a = some (.tbl ps')
theorem SX.un {P : Addr} {H H' : Hp} (e : SX P H H') (a : Addr) (n : a ≠ P) (h : H a ≠ none) : H' a ≠ none := by
  cases q : H a with
  | none => exact absurd q h
  | some o =>
    by_cases t : ∃ ps, o = .tbl ps
    · obtain ⟨ps, rfl⟩ := t
      obtain ⟨ps', e'⟩ := e.tb a ps n q
      rw [e']; simp
    · rw [e.at_ a o n (fun ps z => t ⟨ps, z⟩) q]; simp
theorem SX.refl (P : Addr) (H : Hp) : SX P H H := ⟨fun _ _ _ _ h => h, fun _ ps _ h => ⟨ps, h⟩⟩
theorem SX.trans {P : Addr} {H H1 H2 : Hp} (a : SX P H H1) (b : SX P H1 H2) : SX P H H2 := ⟨fun c o n t h => b.at_ c o n t (a.at_ c o n t h), fun c ps n h => by
  obtain ⟨p1, h1⟩ := a.tb c ps n h
  exact b.tb c p1 n h1⟩
theorem Same.sx {P : Addr} {H H' : Hp} (e : Same H H') : SX P H H' := ⟨fun a o _ _ h => e a o h, fun a ps _ h => ⟨ps, e a _ h⟩⟩
theorem SX.free {P : Addr} {H H' : Hp} (e : SX P H H') {a : Addr} (n : a ≠ P) (h : H' a = none) : H a = none := by
  cases q : H a with
  | none => rfl
  | some o => exact absurd h (e.un a n (by rw [q]; simp))
/-- .. but for what is at q, which was no table -/
theorem SX.upd' {P q : Addr} {H H' : Hp} {o : HO} (e : SX P H H') (h : H q = none) : SX P H (upd H' q o) := ⟨fun a u n t k => by
  rw [upd_ne (ne_of_none k h)]; exact e.at_ a u n t k, fun a ps n k => by
  rw [upd_ne (ne_of_none k h)]; exact e.tb a ps n k⟩
/-- new, or a thing known as such -/
def New (H : Hp) (a : Addr) : Prop := H a = none ∨ (∃ φ, H a = some (.ext φ)) ∨ ∃ xs, H a = some (.tup xs)
theorem SX.look {P : Addr} {H H' : Hp} {a : Addr} {o : HO} (e : SX P H H') (n : a ≠ P) (h : H' a = some o) (t : ∀ ps, o ≠ .tbl ps) : H a = none ∨ H a = some o := by
  cases q : H a with
  | none => exact .inl rfl
  | some u =>
    by_cases k : ∃ ps, u = .tbl ps
    · obtain ⟨ps, rfl⟩ := k
      obtain ⟨ps', e'⟩ := e.tb a ps n q
      rw [h] at e'; exact absurd (Option.some.inj e') (t _)
    · rw [e.at_ a u n (fun ps z => k ⟨ps, z⟩) q] at h
      exact .inr h
theorem New.back {P : Addr} {H H' : Hp} {a : Addr} (e : SX P H H') (n : a ≠ P) (h : New H' a) : New H a := by
  rcases h with h | ⟨φ, h⟩ | ⟨xs, h⟩
  · exact .inl (e.free n h)
  · rcases e.look n h (fun _ z => nomatch z) with q | q
    · exact .inl q
    · exact .inr (.inl ⟨φ, q⟩)
  · rcases e.look n h (fun _ z => nomatch z) with q | q
    · exact .inl q
    · exact .inr (.inr ⟨xs, q⟩)

theorem RepL.length : ∀ {ds : List D} {xs : List V}, RepL G P H ds xs → ds.length = xs.length
  | [], xs, h => by simp only [RepL] at h; subst h; rfl
  | d :: ds, xs, h => by
    simp only [RepL] at h
    obtain ⟨y, ys, rfl, _, e3⟩ := h
    simp [RepL.length e3]
theorem RepL.get : ∀ {ds : List D} {xs : List V} {i : Nat} {d : D}, RepL G P H ds xs → ds[i]? = some d → ∃ v, xs[i]? = some v ∧ Rep G P H d v
  | [], xs, i, d, h, e => by simp at e
  | d :: ds, xs, i, d', h, e => by
    simp only [RepL] at h
    obtain ⟨y, ys, rfl, e2, e3⟩ := h
    cases i with
    | zero => simp at e; subst e; exact ⟨y, rfl, e2⟩
    | succ i => simpa using RepL.get (i := i) e3 (by simpa using e)
theorem RepL.get' : ∀ {ds : List D} {xs : List V} {i : Nat} {v : V}, RepL G P H ds xs → xs[i]? = some v → ∃ d, ds[i]? = some d ∧ Rep G P H d v
  | [], xs, i, v, h, e => by simp only [RepL] at h; subst h; simp at e
  | d :: ds, xs, i, v, h, e => by
    simp only [RepL] at h
    obtain ⟨y, ys, rfl, e2, e3⟩ := h
    cases i with
    | zero => simp at e; subst e; exact ⟨d, rfl, e2⟩
    | succ i => simpa using RepL.get' (i := i) e3 (by simpa using e)
theorem RepL.nil : RepL G P H [] [] := by simp only [RepL]
theorem RepL.cons {d : D} {ds : List D} {v : V} {xs : List V} (h : Rep G P H d v) (t : RepL G P H ds xs) : RepL G P H (d :: ds) (v :: xs) := by
  simp only [RepL]; exact ⟨v, xs, rfl, h, t⟩
theorem RepL.append : ∀ {ds es : List D} {xs ys : List V}, RepL G P H ds xs → RepL G P H es ys → RepL G P H (ds ++ es) (xs ++ ys)
  | [], es, xs, ys, h, k => by simp only [RepL] at h; subst h; exact k
  | d :: ds, es, xs, ys, h, k => by
    simp only [RepL] at h
    obtain ⟨y, zs, rfl, e2, e3⟩ := h
    exact RepL.cons e2 (RepL.append e3 k)
theorem RepL.take : ∀ {ds : List D} {xs : List V} (n : Nat), RepL G P H ds xs → RepL G P H (ds.take n) (xs.take n)
  | _, _, 0, _ => by simpa using RepL.nil
  | [], xs, n + 1, h => by simp only [RepL] at h; subst h; simpa using RepL.nil
  | d :: ds, xs, n + 1, h => by
    simp only [RepL] at h
    obtain ⟨y, zs, rfl, e2, e3⟩ := h
    simpa using RepL.cons e2 (RepL.take n e3)
theorem RepL.drop : ∀ {ds : List D} {xs : List V} (n : Nat), RepL G P H ds xs → RepL G P H (ds.drop n) (xs.drop n)
  | _, _, 0, h => by simpa using h
  | [], xs, n + 1, h => by simp only [RepL] at h; subst h; simpa using RepL.nil
  | d :: ds, xs, n + 1, h => by
    simp only [RepL] at h
    obtain ⟨y, zs, rfl, e2, e3⟩ := h
    simpa using RepL.drop n e3
theorem RepL.set : ∀ {ds : List D} {xs : List V} {d : D} {v : V} (i : Nat), RepL G P H ds xs → Rep G P H d v → RepL G P H (ds.set i d) (xs.set i v)
  | [], xs, d, v, i, h, k => by simp only [RepL] at h; subst h; simpa using RepL.nil
  | d' :: ds, xs, d, v, i, h, k => by
    simp only [RepL] at h
    obtain ⟨y, zs, rfl, e2, e3⟩ := h
    cases i with
    | zero => simpa using RepL.cons k e3
    | succ i => simpa using RepL.cons e2 (RepL.set i e3 k)

/-! ### what is owned: at v stands o, of which the addresses fp are this frame's alone -/
variable (G P R H) in
mutual
def RO : O → V → List Addr → Prop
  | .frz d, v, fp => Rep G P R d v ∧ fp = []
  | .own os, v, fp => ∃ p xs fq, v = .ref p ∧ H p = some (.lst xs) ∧ fp = p :: fq ∧ ROL os xs fq
  | .ins g ns ds, v, fp => ∃ p dx fs, v = .ref p ∧ G.nm.xc g = false ∧ H p = some (.ins (He.ga G.K (G.nm g)) dx fs) ∧ H dx = some (.own p) ∧ fs.map (·.1) = ns ∧ RepL G P R ds (fs.map (·.2)) ∧ fp = [p, dx]
  | .odt ks ds, v, fp => ∃ p kvs, v = .ref p ∧ H p = some (.dT kvs) ∧ kvs.map (·.1) = ks ∧ RepL G P R ds (kvs.map (·.2)) ∧ fp = [p]
def ROL : List O → List V → List Addr → Prop
  | [], xs, fp => xs = [] ∧ fp = []
  | o :: os, xs, fp => ∃ y ys f1 f2, xs = y :: ys ∧ fp = f1 ++ f2 ∧ RO o y f1 ∧ ROL os ys f2
end

mutual
theorem RO.mono (e : Same R R') : ∀ (o : O) (v : V) (fp : List Addr), (∀ a ∈ fp, H' a = H a) → RO G P H R o v fp → RO G P H' R' o v fp
  | .frz d, v, fp, _, h => by
    simp only [RO] at h ⊢
    exact ⟨h.1.mono e, h.2⟩
  | .own os, v, fp, k, h => by
    simp only [RO] at h ⊢
    obtain ⟨p, xs, fq, rfl, h2, rfl, h4⟩ := h
    exact ⟨p, xs, fq, rfl, (k p (by simp)).trans h2, rfl, ROL.mono e os xs fq (fun a ha => k a (by simp [ha])) h4⟩
  | .ins g ns ds, v, fp, k, h => by
    simp only [RO] at h ⊢
    obtain ⟨p, dx, fs, rfl, h0, h2, h3, h4, h5, rfl⟩ := h
    exact ⟨p, dx, fs, rfl, h0, (k p (by simp)).trans h2, (k dx (by simp)).trans h3, h4, h5.mono e, rfl⟩
  | .odt ks ds, v, fp, k, h => by
    simp only [RO] at h ⊢
    obtain ⟨p, kvs, rfl, h2, h3, h4, rfl⟩ := h
    exact ⟨p, kvs, rfl, (k p (by simp)).trans h2, h3, h4.mono e, rfl⟩
theorem ROL.mono (e : Same R R') : ∀ (os : List O) (xs : List V) (fp : List Addr), (∀ a ∈ fp, H' a = H a) → ROL G P H R os xs fp → ROL G P H' R' os xs fp
  | [], xs, fp, _, h => by simpa only [ROL] using h
  | o :: os, xs, fp, k, h => by
    simp only [ROL] at h ⊢
    obtain ⟨y, ys, f1, f2, rfl, rfl, h3, h4⟩ := h
    exact ⟨y, ys, f1, f2, rfl, rfl, RO.mono e o y f1 (fun a ha => k a (by simp [ha])) h3, ROL.mono e os ys f2 (fun a ha => k a (by simp [ha])) h4⟩
end

/-! ### what is owned is frozen -/
/-- the region R and, of the heap, what stands at f -/
def Fz (R H : Hp) (f : List Addr) : Hp := fun a => if a ∈ f then H a else R a
theorem Fz.mem {f : List Addr} {a : Addr} (h : a ∈ f) : Fz R H f a = H a := if_pos h
theorem Fz.not {f : List Addr} {a : Addr} (h : a ∉ f) : Fz R H f a = R a := if_neg h
theorem Fz.same {f : List Addr} (e : Same R H) : Same R (Fz R H f) := fun a o h => by
  by_cases q : a ∈ f
  · rw [Fz.mem q]; exact e a o h
  · rw [Fz.not q]; exact h
theorem Fz.within {f : List Addr} (e : Same R H) : Same (Fz R H f) H := fun a o h => by
  by_cases q : a ∈ f
  · rw [Fz.mem q] at h; exact h
  · rw [Fz.not q] at h; exact e a o h
theorem Fz.nil : Fz R H [] = R := by funext a; simp [Fz]
mutual
theorem RO.toFz (e : Same R H) (f : List Addr) : ∀ (o : O) (v : V) (fp : List Addr), (∀ a ∈ fp, a ∈ f) → (∀ ks xs, o ≠ .odt ks xs) → RO G P H R o v fp → O.hasT o = false → Rep G P (Fz R H f) o.d v
  | .frz d, v, fp, _, _, h, _ => by
    simp only [RO] at h
    simpa only [O.d] using h.1.mono (Fz.same e)
  | .own os, v, fp, k, _, h, ht => by
    simp only [RO] at h
    obtain ⟨p, xs, fq, rfl, h2, rfl, h4⟩ := h
    simp only [O.d, Rep]
    exact ⟨p, xs, rfl, ((Fz.mem (k p (by simp))).trans h2), ROL.toFz e f os xs fq (fun a ha => k a (by simp [ha])) h4 (by simpa only [O.hasT] using ht)⟩
  | .ins g ns ds, v, fp, k, _, h, _ => by
    simp only [RO] at h
    obtain ⟨p, dx, fs, rfl, h0, h2, h3, h4, h5, rfl⟩ := h
    simp only [O.d, Rep]
    exact ⟨p, dx, fs, rfl, .inl ⟨h0, (Fz.mem (k p (by simp))).trans h2⟩, h4, h5.mono (Fz.same e)⟩
  | .odt ks ds, v, fp, _, n, h, _ => absurd rfl (n ks ds)
theorem ROL.toFz (e : Same R H) (f : List Addr) : ∀ (os : List O) (xs : List V) (fp : List Addr), (∀ a ∈ fp, a ∈ f) → ROL G P H R os xs fp → O.hasTs os = false → RepL G P (Fz R H f) (O.ds os) xs
  | [], xs, fp, _, h, _ => by
    simp only [ROL] at h
    simp only [O.ds, RepL]
    exact h.1
  | o :: os, xs, fp, k, h, ht => by
    simp only [ROL] at h
    obtain ⟨y, ys, f1, f2, rfl, rfl, h3, h4⟩ := h
    simp only [O.hasTs, Bool.or_eq_false_iff] at ht
    simp only [O.ds]
    refine RepL.cons (RO.toFz e f o y f1 (fun a ha => k a (by simp [ha])) (fun ks xs q => ?_) h3 ht.1) (ROL.toFz e f os ys f2 (fun a ha => k a (by simp [ha])) h4 ht.2)
    rw [q] at ht
    simp [O.hasT] at ht
end
end
end DL

set_option Elab.async false
set_option linter.all false
set_option maxRecDepth 100000
/-! DL2: the pure interpreter of the dialect: syntax trees (E, S), what they compute (ev, evS). -/
namespace DL
open PySem PySem.Spec PyProof.Rows L2

/-! ### data -/
def keyPy : Key → PyData
  | .inl i => .int i
  | .inr x => .str x
def keyD : Key → D
  | .inl i => .int i
  | .inr x => .str x
/-- a key of ints and texts -/
def keyOf1 : D → Option Key
  | .int i => some (.inl i)
  | .str x => some (.inr x)
  | _ => none
def keysOf : List D → Option (List Key)
  | [] => some []
  | d :: ds => match keyOf1 d, keysOf ds with
    | some k, some ks => some (k :: ks)
    | _, _ => none
/-- ps[k] = d -/
def putT (ps : List (List Key × D)) (k : List Key) (d : D) : List (List Key × D) := if (ps.any fun p => decide (p.1 = k)) = true then ps.map (fun p => if p.1 = k then (p.1, d) else p) else ps ++ [(k, d)]
mutual
def D.py : D → PyData
  | .non => .none
  | .bl b => .bool b
  | .int i => .int i
  | .str x => .str x
  | .tup xs => .tuple (D.pys xs)
  | .lst xs => .list (D.pys xs)
  | .dct ks xs => .dict ((ks.map keyPy).zip (D.pys xs))
  | _ => .none
def D.pys : List D → List PyData
  | [] => []
  | d :: ds => d.py :: D.pys ds
end
mutual
/-- data alone, no dict -/
def D.plain : D → Bool
  | .non | .bl _ | .int _ | .str _ => true
  | .tup xs | .lst xs => D.plains xs
  | _ => false
def D.plains : List D → Bool
  | [] => true
  | d :: ds => d.plain && D.plains ds
end
mutual
/-- data alone, dicts too -/
def D.show : D → Bool
  | .non | .bl _ | .int _ | .str _ => true
  | .tup xs | .lst xs => D.shows xs
  | .dct ks xs => decide (ks.length = xs.length) && decide ks.Nodup && D.shows xs
  | _ => false
def D.shows : List D → Bool
  | [] => true
  | d :: ds => d.show && D.shows ds
end

mutual
/-- no list within -/
def D.noL : D → Bool
  | .tup xs => D.noLs xs
  | .lst _ => false
  | .dct _ xs => D.noLs xs
  | _ => true
def D.noLs : List D → Bool
  | [] => true
  | d :: ds => d.noL && D.noLs ds
end
def lineN : Nat := 16777216
/-- deep enough for no comparison of ours -/
def deepN : Nat := 40

/-- small enough to be multiplied with any other such -/
def intOk (i : Int) : Bool := decide (i.natAbs < 2 ^ 8000)
def small64 (i : Int) : Bool := decide (i.natAbs < 2 ^ 64)

def rep (xs : List D) (n : Nat) : List D := (List.replicate n xs).flatten
def binD : Operator → D → D → Option O
  | .Add, .int i, .int j => some (.frz (.int (i + j)))
  | .Add, .str x, .str y => if x.length + y.length ≤ lineN then some (.frz (.str (x ++ y))) else none
  | .Add, .tup xs, .tup ys => if xs.length + ys.length ≤ lineN then some (.frz (.tup (xs ++ ys))) else none
  | .Add, .lst xs, .lst ys => if xs.length + ys.length ≤ lineN then some (.own ((xs ++ ys).map O.frz)) else none
  | .Sub, .int i, .int j => some (.frz (.int (i - j)))
  | .Mult, .int i, .int j => if small64 i || small64 j || (intOk i && intOk j) then some (.frz (.int (i * j))) else none
  | .Mult, .lst xs, .int k => if k < 2 ^ 62 ∧ -(2 ^ 62) < k ∧ xs.length * k.toNat ≤ lineN then some (.own ((rep xs k.toNat).map O.frz)) else none
  | .Mult, .tup xs, .int k => if -(2 ^ 62) < k ∧ k < 2 ^ 62 then (if xs.isEmpty || k == 1 then some (.frz (.tup xs)) else if k ≤ 0 then some (.frz (.tup []))
      else if k ≤ 1000 ∧ xs.length ≤ 1000 then some (.frz (.tup (rep xs k.toNat))) else none) else none
  | .FloorDiv, .int i, .int j => if j ≠ 0 ∧ j.natAbs < 2 ^ 30 then some (.frz (.int (i.fdiv j))) else if 0 < j ∧ intOk j then some (.frz (.int (i / j))) else none
  | .Mod, .int i, .int j => if j ≠ 0 then some (.frz (.int (i.fmod j))) else none
  | .Pow, .int i, .int j => if 0 ≤ j ∧ j ≤ 1000000 ∧ small64 i then some (.frz (.int (i ^ j.toNat))) else none
  | .LShift, .int i, .int j => if 0 ≤ j ∧ j ≤ 1000000 ∧ small64 i then some (.frz (.int (i * 2 ^ j.toNat))) else none
  | .RShift, .int i, .int j => if 0 ≤ j then some (.frz (.int (i / 2 ^ j.toNat))) else none
  | .BitAnd, .int i, .int j => some (.frz (.int (Builtin.bitAnd i j)))
  | .BitOr, .int i, .int j => some (.frz (.int (Builtin.bitOr i j)))
  | .BitXor, .int i, .int j => some (.frz (.int (Builtin.bitXor i j)))
  | _, _, _ => none

def isNon : D → Bool
  | .non => true
  | _ => false
def okEq (x : D) : Bool := x.plain && decide (x.py.depth ≤ deepN)
def cmpD : CmpOp → D → D → Option Bool
  | .Eq, x, y => if okEq x && okEq y then some (PyData.eqv x.py y.py) else none
  | .NotEq, x, y => if okEq x && okEq y then some (!PyData.eqv x.py y.py) else none
  | .Lt, .int i, .int j => some (decide (i < j))
  | .LtE, .int i, .int j => some (decide (i ≤ j))
  | .Gt, .int i, .int j => some (decide (j < i))
  | .GtE, .int i, .int j => some (decide (j ≤ i))
  | .Lt, x, y => if okEq x && okEq y && W.alike x.py y.py && !isNon x then some (W.dataLt x.py y.py) else none
  | .Is, .bl a, .bl b => some (decide (a = b))
  | .IsNot, .bl a, .bl b => some (!decide (a = b))
  | .In, x, .tup ys => if okEq x && okEq (.tup ys) then some (ys.any fun y => PyData.eqv y.py x.py) else none
  | .In, x, .lst ys => if okEq x && okEq (.lst ys) then some (ys.any fun y => PyData.eqv y.py x.py) else none
  | .NotIn, x, .tup ys => if okEq x && okEq (.tup ys) then some (!ys.any fun y => PyData.eqv y.py x.py) else none
  | .NotIn, x, .lst ys => if okEq x && okEq (.lst ys) then some (!ys.any fun y => PyData.eqv y.py x.py) else none
  | _, _, _ => none

def ixD : D → Int → Option D
  | .tup xs, k => atI xs k
  | .lst xs, k => atI xs k
  | .str x, k => if x.length ≤ lineN then (atI x.cps.toList k).map fun c => .str ⟨#[c]⟩ else none
  | _, _ => none
def ixO : O → Int → Option O
  | .own os, k => atI os k
  | .frz d, k => (ixD d k).map O.frz
  | _, _ => none

/-! ### states, results -/
structure Env where
  sl : List (Option O)
  pen : Pen
inductive Res (ε α : Type) where
  | ok (a : α) (s : ε)
  | err (g : Nat) (ns : List Str) (xs : List D) (s : ε)
  | bad
abbrev M (α : Type) := Env → Res Env α
/-- a value: where it was read (a slot), and what it is -/
structure Val where
  src : Option Nat
  o : O
def ret {α : Type} (a : α) : M α := fun ρ => .ok a ρ
def bad {α : Type} : M α := fun _ => .bad
def bnd {α β : Type} (m : M α) (f : α → M β) : M β := fun ρ => match m ρ with
  | .ok a ρ' => f a ρ'
  | .err g ns xs ρ' => .err g ns xs ρ'
  | .bad => .bad
def lft {α : Type} : Option α → M α
  | some a => ret a
  | none => bad
def frz (d : D) : M Val := ret ⟨none, .frz d⟩

def Env.set (ρ : Env) (i : Nat) (o : Option O) : Env := { ρ with sl := ρ.sl.set i o }
def Env.freeze (ρ : Env) (i : Nat) : Option Env := match ρ.sl[i]? with
  | some (some o) => if o.hasT then none else some (ρ.set i (some (.frz o.d)))
  | _ => none
/-- the value goes on as data that never changes -/
def escO (src : Option Nat) (o : O) : M D := fun ρ => if o.hasT then .bad else match src with
    | none => .ok o.d ρ
    | some i => match ρ.freeze i with
      | some ρ' => .ok o.d ρ'
      | none => .bad
def esc (v : Val) : M D := fun ρ => match v.o with
  | .frz d => .ok d ρ
  | o => escO v.src o ρ
/-- the value is read -/
def vw (v : Val) : M D := if v.o.hasT then bad else ret v.o.d
/-- the value is kept: with what it owns, if it is new -/
def keep (v : Val) : M O := fun ρ => match v.src with
  | none => .ok v.o ρ
  | some _ => match esc v ρ with
    | .ok d ρ' => .ok (.frz d) ρ'
    | .err g ns xs ρ' => .err g ns xs ρ'
    | .bad => .bad
def allFrz : List O → Option (List D)
  | [] => some []
  | .frz d :: os => (allFrz os).map (d :: ·)
  | _ :: _ => none
/-- the items of a list or a tuple, to be walked; z: the body may change things -/
def elems (z : Bool) (v : Val) : M (List D) := fun ρ => match v.o with
  | .frz (.lst xs) => .ok xs ρ
  | .frz (.tup xs) => .ok xs ρ
  | .own os => (match z, allFrz os with
    | false, some ds => .ok ds ρ
    | _, _ => match esc v ρ with
      | .ok (.lst xs) ρ' => .ok xs ρ'
      | _ => .bad)
  | _ => .bad
def truthD (d : D) : Option Bool := match d with
  | .str x => if x.length ≤ lineN then some (x.length != 0) else none
  | .tup xs => some (!xs.isEmpty)
  | .lst xs => some (!xs.isEmpty)
  | .non => some false
  | .bl b => some b
  | .int i => some (i != 0)
  | _ => none
def truth (v : Val) : M Bool := bnd (vw v) fun d => lft (truthD d)

/-! ### what a def is worth -/
abbrev Fn := List D → Pen → Res Pen D
structure Gam where
  fn : Nat → Option Fn
  /-- the lambdas' worth; where this def makes lambdas: the slots that they capture -/
  lam : Nat → Option Fn
  own : Option (List Nat)
  cst : Nat → Option D
  exf : Nat → Option (List Str)
  cls : List Nat
  att : Nat → List Str
  /-- the text's exceptions: whether one is of another's class -/
  xs : Nat → Nat → Option Bool
  /-- defs and classes called by the names of their arguments, told in this order -/
  fnk : Nat → List Str → Option Fn
  /-- whether a clause of the second class takes an error of the first -/
  xb : Nat → Nat → Option Bool

/-! ### syntax -/
inductive Cn where
  | non | bl (b : Bool) | int (i : Int) | str (x : Str)
def Cn.d : Cn → D
  | .non => .non | .bl b => .bl b | .int i => .int i | .str x => .str x
inductive ItK where
  | seq | rng (two : Bool) | enum | zip | cmb | rng3
inductive Tg where
  | nm (i : Nat) | tp (is : List Nat)
inductive Ty where
  | int | bool | str | tuple | list | dict
  deriving DecidableEq
inductive T where
  | ty (t : Ty) | cl (g : Nat)
inductive PF where
  | count | at_ | digits | fold
inductive B where
  | len | sum | all | any | tuple | list | listR (two : Bool) | tupR (two : Bool) | sorted | min1 | max1 | min2 | max2 | abs | int | repr | gcd
inductive Mt where
  | index | bitlen | count
inductive E where
  | v (i : Nat) | v1 (i : Nat) (a : E) | v2 (i : Nat) (a b : E)
  | gl (g : Nat) | kst (n : Nat) | c (k : Cn)
  | tup (es : List E) | lst (es : List E) | dct (ks : List Str) (cs : List Cn)
  | bin (op : Operator) (a b : E) | neg (a : E)
  | cmp (op : CmpOp) (a b : E) | cmp2 (o1 o2 : CmpOp) (a b c : E) | isN (a : E) | notN (a : E)
  | and (a b : E) | or (a b : E) | not (t : E) | ife (t a b : E)
  | tand (a b : E) | tor (a b : E) | tnot (a : E) | tv (a : E)
  | ix (a i : E) | slc (a lo hi : E) | no | rev (a : E)
  | pget (i : Nat) (f : PF) | pcell (i : Nat) (a : E) | plen (i : Nat)
  | att (a : E) (f : Str)
  | lam (k : Nat) (is : List Nat) | callc (i : Nat)
  | call (g : Nat) (es : List E) | callk (g : Nat) (ns : List Str) (es : List E) | callv (i : Nat) (es : List E)
  | bi (b : B) (es : List E) | isa (a : E) (ts : List T) | isx (a : E) (g : Nat) | me (m : Mt) (a : E) (es : List E)
  | lc (own : List Nat) (tg : Tg) (kd : ItK) (es : List E) (ifs : List E) (elt : E)
  | newt | tkeys (i : Nat) | tsort (i : Nat) | sortk (es : List E) | setl (es : List E) | sets (es : List E)

/-! ### built-ins on data -/
def okRepr (d : D) : Bool := d.show && d.py.showable && decide (d.py.depth ≤ deepN) && decide (d.py.shown.length + 64 ≤ lineN)
def intsOf : List D → Option (List Int)
  | [] => some []
  | .int i :: ds => (intsOf ds).map (i :: ·)
  | _ :: _ => none
/-- sorted by <, stable -/
def sortD (xs : List D) : List D := xs.mergeSort fun x y => !W.dataLt y.py x.py
def alikeD : List D → Bool
  | [] => true
  | d :: ds => okEq d && W.alike d.py d.py && ds.all (fun e => W.alike d.py e.py && W.alike e.py d.py) && !isNon d && alikeD ds
def sortableD (xs : List D) : Bool := (xs.all fun d => match d with | .tup (_ :: _) => true | _ => false) || xs.all fun d => match d with | .tup _ | .non => false | _ => true
def itemsD : D → Option (List D)
  | .tup xs => some xs
  | .lst xs => some xs
  | _ => none
def truthsD : List D → Option (List Bool)
  | [] => some []
  | d :: ds => match truthD d, truthsD ds with
    | some b, some bs => if okEq d then some (b :: bs) else none
    | _, _ => none
def rngD (two : Bool) (ds : List D) : Option (List D) := match two, ds with
  | false, [.int j] => if -(2 ^ 62) ≤ j ∧ j < 2 ^ 62 then some ((List.range j.toNat).map fun (k : Nat) => D.int (0 + k)) else none
  | true, [.int i, .int j] => if -(2 ^ 62) ≤ i ∧ i < 2 ^ 62 ∧ -(2 ^ 62) ≤ j ∧ j < 2 ^ 62 then some ((List.range (j - i).toNat).map fun (k : Nat) => D.int (i + k)) else none
  | _, _ => none
/-- on what is read -/
def lenD : List D → Option O
  | [.str x] => if x.length ≤ lineN then some (.frz (.int x.length)) else none
  | [.tup xs] => some (.frz (.int xs.length))
  | [.lst xs] => some (.frz (.int xs.length))
  | _ => none
def sumD : List D → Option O
  | [.lst xs] => (intsOf xs).map fun ns => .frz (.int ns.sum)
  | _ => none
def allD : List D → Option O
  | [.lst xs] => (truthsD xs).map fun bs => .frz (.bl (bs.all id))
  | [.tup xs] => (truthsD xs).map fun bs => .frz (.bl (bs.all id))
  | _ => none
def anyD : List D → Option O
  | [.lst xs] => (truthsD xs).map fun bs => .frz (.bl (bs.any id))
  | [.tup xs] => (truthsD xs).map fun bs => .frz (.bl (bs.any id))
  | _ => none
def min2D : List D → Option O
  | [.int i, .int j] => some (.frz (.int (if j < i then j else i)))
  | _ => none
def max2D : List D → Option O
  | [.int i, .int j] => some (.frz (.int (if j > i then j else i)))
  | _ => none
def absD : List D → Option O
  | [.int i] => some (.frz (.int (if i < 0 then -i else i)))
  | _ => none
def intD : List D → Option O
  | [.int i] => some (.frz (.int i))
  | [.bl b] => some (.frz (.int (if b then 1 else 0)))
  | _ => none
def reprD : List D → Option O
  | [d] => if okRepr d then some (.frz (.str d.py.shown)) else none
  | _ => none
/-- the greatest, the least of some ints -/
def maxL : Int → List Int → Int
  | m, [] => m
  | m, n :: ns => maxL (if m < n then n else m) ns
def minL : Int → List Int → Int
  | m, [] => m
  | m, n :: ns => minL (if n < m then n else m) ns
def max1D : List D → Option O
  | [.lst xs] => (intsOf xs).bind fun ns => match ns with
    | [] => none
    | n :: ns => some (.frz (.int (maxL n ns)))
  | _ => none
def min1D : List D → Option O
  | [.lst xs] => (intsOf xs).bind fun ns => match ns with
    | [] => none
    | n :: ns => some (.frz (.int (minL n ns)))
  | _ => none
def gcdD : List D → Option O
  | [.int i, .int j] => some (.frz (.int ((Nat.gcd i.natAbs j.natAbs : Nat) : Int)))
  | _ => none
def biD : B → List D → Option O
  | .len, ds => lenD ds
  | .sum, ds => sumD ds
  | .all, ds => allD ds
  | .any, ds => anyD ds
  | .listR two, ds => (rngD two ds).bind fun xs => if xs.length ≤ lineN then some (.own (xs.map O.frz)) else none
  | .tupR two, ds => (rngD two ds).bind fun xs => if xs.length ≤ lineN then some (.frz (.tup xs)) else none
  | .min2, ds => min2D ds
  | .max2, ds => max2D ds
  | .min1, ds => min1D ds
  | .max1, ds => max1D ds
  | .abs, ds => absD ds
  | .int, ds => intD ds
  | .repr, ds => reprD ds
  | .gcd, ds => gcdD ds
  | _, _ => none
/-- on what goes on as data -/
def tupleD : List D → Option O
  | [d] => (itemsD d).map fun xs => .frz (.tup xs)
  | _ => none
def listD : List D → Option O
  | [d] => (itemsD d).map fun xs => .own (xs.map O.frz)
  | _ => none
def sortedD : List D → Option O
  | [d] => (itemsD d).bind fun xs => if alikeD xs && sortableD xs then some (.own ((sortD xs).map O.frz)) else none
  | _ => none
/-- the key of a tuple -/
def keyLenD : D → D
  | .tup ys => .tup [.int ys.length, .tup ys]
  | d => d
def tupInts : D → Bool
  | .tup ys => (intsOf ys).isSome
  | _ => false
def sortLenL (xs : List D) : List D := xs.mergeSort fun x y => !W.dataLt (keyLenD y).py (keyLenD x).py
def sortLenD : List D → Option O
  | [.lst xs] => if alikeD (xs.map keyLenD) && xs.all tupInts then some (.own ((sortLenL xs).map O.frz)) else none
  | _ => none
/-- rows of ints, each once -/
def rowsD : List D → Option (List (List Int))
  | [] => some []
  | .tup ys :: ds => (intsOf ys).bind fun n => (rowsD ds).map (n :: ·)
  | _ :: _ => none
def onceL : List (List Int) → List (List Int)
  | [] => []
  | x :: xs => x :: (onceL xs).filter (fun y => !decide (y = x))
def setD : List D → Option (List (List Int))
  | [d] => (itemsD d).bind fun xs => if xs.length < 64 then rowsD xs else none
  | _ => none
def setLenD (ds : List D) : Option O := (setD ds).map fun ns => .frz (.int (onceL ns).length)
def rowD (n : List Int) : D := .tup (n.map D.int)
def setSortD (ds : List D) : Option O := (setD ds).bind fun ns => let xs := (onceL ns).map rowD
  if alikeD xs && sortableD xs then some (.own ((sortD xs).map O.frz)) else none
/-- some of a list's items, in their order -/
def combL {α : Type} : Nat → List α → List (List α)
  | 0, _ => [[]]
  | _ + 1, [] => []
  | r + 1, x :: xs => (combL r xs).map (x :: ·) ++ combL (r + 1) xs
def combD : List D → Option (List D)
  | [.tup xs, .int r] => (intsOf xs).bind fun ns => if 0 ≤ r ∧ r ≤ 1000 ∧ ns.length ≤ 8 then some ((combL r.toNat ns).map rowD) else none
  | _ => none
/-- a range with a step -/
def rng3D : List D → Option (List D)
  | [.int i, .int j, .int c] => if c ≠ 0 ∧ c.natAbs < 1073741824 ∧ Builtin.Range.small i j c = true ∧ 0 ≤ Builtin.Range.rangeSize i j c then some ((List.range (Builtin.Range.rangeSize i j c).toNat).map fun (n : Nat) => D.int (i + n * c)) else none
  | _ => none
def biE : B → List D → Option O
  | .tuple, ds => tupleD ds
  | .list, ds => listD ds
  | .sorted, ds => sortedD ds
  | _, _ => none
def B.esc : B → Bool
  | .tuple | .list | .sorted => true
  | _ => false
def isTy (d : D) : Ty → Bool
  | .int => (match d with | .int _ | .bl _ => true | _ => false)
  | .bool => (match d with | .bl _ => true | _ => false)
  | .str => (match d with | .str _ => true | _ => false)
  | .tuple => (match d with | .tup _ => true | _ => false)
  | .list => (match d with | .lst _ => true | _ => false)
  | .dict => (match d with | .dct _ _ => true | _ => false)
def isCl (d : D) (g : Nat) : Bool := match d with
  | .obj h _ _ => decide (h = g)
  | _ => false
/-- what isinstance is asked of: data, instances; cl: the classes that are known -/
def isT1 (cl : List Nat) (d : D) : T → Option Bool
  | .ty t => some (isTy d t)
  | .cl g => if cl.contains g then some (isCl d g) else none
def isTs (cl : List Nat) (d : D) : List T → Option Bool
  | [] => some false
  | t :: ts => match isT1 cl d t with
    | some true => some true
    | some false => isTs cl d ts
    | none => none
def isaD (cl : List Nat) (d : D) (ts : List T) : Option Bool := match d with
  | .glo _ | .pen | .clo _ => none
  | .obj h _ _ => if cl.contains h then isTs cl d ts else none
  | _ => isTs cl d ts
def isxD (xs : Nat → Nat → Option Bool) : D → Nat → Option Bool
  | .obj h _ _, g => xs h g
  | _, _ => none
def idxD : List D → D → Nat → Option Nat
  | [], _, _ => none
  | e :: es, d, n => if PyData.eqv e.py d.py then some n else idxD es d (n + 1)
def meD : Mt → D → List D → Option O
  | .index, .lst xs, [d] => if okEq d && okEq (.lst xs) then (idxD xs d 0).map fun n => .frz (.int n) else none
  | .index, .tup xs, [d] => if okEq d && okEq (.tup xs) then (idxD xs d 0).map fun n => .frz (.int n) else none
  | .bitlen, .int i, [] => some (.frz (.int (if i = 0 then 0 else (i.natAbs.log2 + 1 : Nat))))
  | _, _, _ => none
def cutL {α : Type} (xs : List α) (lo hi : Option Int) : List α := (xs.drop (HT.sIx xs.length 0 lo)).take (HT.sIx xs.length xs.length hi - HT.sIx xs.length 0 lo)
def slcD (d : D) (lo hi : Option Int) : Option O := match d with
  | .tup xs => some (.frz (.tup (cutL xs lo hi)))
  | .lst xs => some (.own ((cutL xs lo hi).map O.frz))
  | _ => none
def revD : D → Option O
  | .tup xs => some (.frz (.tup xs.reverse))
  | .lst xs => some (.own (xs.reverse.map O.frz))
  | _ => none
def attD (at_ : Nat → List Str) : D → Str → Option D
  | .obj g ns xs, f => if (at_ g).contains f then (ns.zip xs).lookup f else none
  | _, _ => none
def cmpO (op : CmpOp) (d : D) (o : O) : Option Bool := match op, d, o with
  | .In, .tup _, .odt ks _ => none
  | _, _, o => if o.hasT then none else cmpD op d o.d
def penGet (p : Pen) : PF → Int
  | .count => p.count | .at_ => p.at_ | .digits => p.digits | .fold => p.fold
def penSet (p : Pen) (f : PF) (i : Int) : Pen := match f with
  | .count => { p with count := i } | .at_ => { p with at_ := i } | .digits => { p with digits := i } | .fold => { p with fold := i }
def isPen (i : Nat) : M Pen := fun ρ => match ρ.sl[i]? with
  | some (some (.frz .pen)) => .ok ρ.pen ρ
  | _ => .bad
/-- what goes along with a call: the pen, with what lambdas see -/
def slD (sl : List (Option O)) (i : Nat) : Option D := match sl[i]? with
  | some (some (O.frz d)) => some d
  | _ => none
def envOf (own : Option (List Nat)) (ρ : Env) : Pen := match own with
  | none => ρ.pen
  | some is => { ρ.pen with env := is.map (slD ρ.sl) }
def backP (own : Option (List Nat)) (ρ : Env) (p : Pen) : Pen := match own with
  | none => p
  | some _ => { p with env := ρ.pen.env }
def callFn (own : Option (List Nat)) (f : Option Fn) (ds : List D) : M Val := fun ρ => match f with
  | none => .bad
  | some fn => match fn ds (envOf own ρ) with
    | .ok d p => .ok ⟨none, .frz d⟩ { ρ with pen := backP own ρ p }
    | .err g ns xs p => .err g ns xs { ρ with pen := backP own ρ p }
    | .bad => .bad
/-- what a lambda captures is frozen -/
def frzAll : List Nat → M Unit
  | [] => ret ()
  | i :: is => fun ρ => match ρ.sl[i]? with
    | some (some (.frz _)) => frzAll is ρ
    | some (some _) => (match ρ.freeze i with
      | some ρ' => frzAll is ρ'
      | none => .bad)
    | _ => frzAll is ρ
def rd (i : Nat) : M Val := fun ρ => match ρ.sl[i]? with
  | some (some o) => .ok ⟨some i, o⟩ ρ
  | _ => .bad
def vInt (v : Val) : M Int := match v.o with
  | .frz (.int k) => ret k
  | _ => bad
def asg1 (i : Nat) (d : D) : M Unit := fun ρ => .ok () (ρ.set i (some (.frz d)))
def asgs : List Nat → List D → M Unit
  | [], [] => ret ()
  | i :: is, d :: ds => bnd (asg1 i d) fun _ => asgs is ds
  | _, _ => bad
def asgT : Tg → D → M Unit
  | .nm i, d => asg1 i d
  | .tp is, .tup ds => asgs is ds
  | .tp is, .lst ds => asgs is ds
  | .tp _, _ => bad

/-! ### blocks of comprehensions: their own names forgotten, then as before; behind all slots stand what was saved, and the list so far -/
def wipeO (sl : List (Option O)) : List Nat → List (Option O)
  | [] => sl
  | v :: vs => (wipeO sl vs).set v none
def saved (sl : List (Option O)) (own : List Nat) : List (Option O) := own.map fun i => (sl[i]?).join
def putBack (sl : List (Option O)) : List Nat → List (Option O) → List (Option O)
  | i :: is, o :: os => putBack (sl.set i o) is os
  | _, _ => sl
def inBlk (own : List Nat) (m : M Unit) : M Val := fun ρ =>
  match m ⟨wipeO ρ.sl own ++ (saved ρ.sl own ++ [some (.own [])]), ρ.pen⟩ with
  | .ok _ ρ' => (match ρ'.sl[ρ.sl.length + own.length]? with
    | some (some o) => .ok ⟨none, o⟩ ⟨putBack (ρ'.sl.take ρ.sl.length) own ((ρ'.sl.drop ρ.sl.length).take own.length), ρ'.pen⟩
    | _ => .bad)
  | _ => .bad
/-- the list so far grows -/
def grow (v : Val) : M Unit := bnd (keep v) fun o ρ => match ρ.sl.getLast? with
  | some (some (.own os)) => if os.length < lineN && !o.hasT then .ok () { ρ with sl := ρ.sl.dropLast ++ [some (.own (os ++ [o]))] } else .bad
  | _ => .bad
def wipeM (own : List Nat) : M Unit := fun ρ => .ok () { ρ with sl := wipeO ρ.sl own }
def loopC (own : List Nat) (tg : Tg) (ts : M Bool) (elt : M Val) : List D → M Unit
  | [] => ret ()
  | d :: ds => bnd (asgT tg d) fun _ => bnd ts fun t => bnd (if t = true then bnd elt grow else ret ()) fun _ => bnd (wipeM own) fun _ => loopC own tg ts elt ds
def zipD : List (List D) → Option (List D)
  | [xs, ys] => some ((xs.zip ys).map fun p => .tup [p.1, p.2])
  | [xs, ys, zs] => some ((xs.zip (ys.zip zs)).map fun p => .tup [p.1, p.2.1, p.2.2])
  | _ => none
def enumD (xs : List D) : List D := xs.zipIdx.map fun p => .tup [.int (p.2 : Nat), p.1]
def chain2 (x y : Option Bool) : Option Bool := match x, y with
  | some true, y => y
  | some false, _ => some false
  | none, _ => none

/-- what is walked; v, l: the items as read, as lists -/
def itM (kd : ItK) (v : M (List D)) (l : M (List (List D))) : M (List D) := match kd with
  | .rng two => bnd v fun ds => lft (rngD two ds)
  | .seq => bnd l fun dss => match dss with
    | [ds] => ret ds
    | _ => bad
  | .enum => bnd l fun dss => match dss with
    | [ds] => ret (enumD ds)
    | _ => bad
  | .zip => bnd l fun dss => lft (zipD dss)
  | .cmb => bnd v fun ds => lft (combD ds)
  | .rng3 => bnd v fun ds => lft (rng3D ds)
def E.isNo : E → Bool
  | .no => true
  | _ => false
def prt (no : Bool) (m : M Val) : M (Option Int) := if no = true then ret none else bnd m fun x => bnd (vInt x) fun i => ret (some i)
/-- the keys of a dict, sorted -/
def tsortM (i : Nat) : M Val := fun ρ => match ρ.sl[i]? with
    | some (some (.odt ks _)) => if (alikeD (ks.map fun k => D.tup (k.map keyD)) && sortableD (ks.map fun k => D.tup (k.map keyD)) && decide (ks.length ≤ lineN)) = true then .ok ⟨none, .own ((sortD (ks.map fun k => D.tup (k.map keyD))).map O.frz)⟩ ρ else .bad
    | _ => .bad
variable (Γ : Gam)
mutual
def ev : E → M Val
  | .v i => rd i
  | .v1 i a => bnd (rd i) fun _ => bnd (ev a) fun k => bnd (vInt k) fun k => bnd (rd i) fun x => lft ((ixO x.o k).map fun o => ⟨some i, o⟩)
  | .v2 i a b => bnd (rd i) fun _ => bnd (ev a) fun k => bnd (vInt k) fun k => bnd (rd i) fun x => match ixO x.o k with
    | some (.frz d) => bnd (ev b) fun m => bnd (vInt m) fun m => lft ((ixD d m).map fun e => ⟨none, .frz e⟩)
    | some (.own _) => bnd (ev b) fun m => bnd (vInt m) fun m => bnd (rd i) fun x' => match ixO x'.o k with
      | some (.own os) => lft ((atI os m).map fun o => ⟨some i, o⟩)
      | _ => bad
    | _ => bad
  | .gl g => frz (.glo g)
  | .kst n => bnd (lft (Γ.cst n)) frz
  | .c k => frz k.d
  | .tup es => bnd (evs es) fun ds => if ds.length ≤ lineN then frz (.tup ds) else bad
  | .lst es => bnd (evs es) fun ds => if ds.length ≤ lineN then ret ⟨none, .own (ds.map O.frz)⟩ else bad
  | .dct ks cs => if cs.length = ks.length ∧ ks.Nodup ∧ ks.length ≤ 15 then frz (.dct (ks.map Sum.inr) (cs.map Cn.d)) else bad
  | .bin op a b => bnd (ev a) fun x => bnd (esc x) fun x => bnd (ev b) fun y => bnd (esc y) fun y => lft ((binD op x y).map fun o => ⟨none, o⟩)
  | .neg a => bnd (ev a) fun x => bnd (vInt x) fun i => frz (.int (-i))
  | .cmp op a b => bnd (ev a) fun x => bnd (vw x) fun x => bnd (ev b) fun y => bnd (lft (cmpO op x y.o)) fun t => frz (.bl t)
  | .cmp2 o1 o2 a b c => bnd (ev a) fun x => bnd (vw x) fun x => bnd (ev b) fun y => bnd (vw y) fun y => bnd (lft (cmpD o1 x y)) fun t =>
      if t = true then bnd (ev c) fun z => bnd (vw z) fun z => bnd (lft (cmpD o2 y z)) fun u => frz (.bl u) else frz (.bl false)
  | .isN a => bnd (ev a) fun x => bnd (vw x) fun d => frz (.bl (isNon d))
  | .notN a => bnd (ev a) fun x => bnd (vw x) fun d => frz (.bl (!isNon d))
  | .and a b => bnd (ev a) fun x => bnd (truth x) fun t => if t = true then ev b else bnd (esc x) frz
  | .or a b => bnd (ev a) fun x => bnd (truth x) fun t => if t = true then bnd (esc x) frz else ev b
  | .not t => bnd (evT t) fun t => frz (.bl (!t))
  | .ife t a b => bnd (evT t) fun t => if t = true then ev a else ev b
  | .ix a i => bnd (ev a) fun x => bnd (esc x) fun x => bnd (ev i) fun k => bnd (vInt k) fun k => lft ((ixD x k).map fun d => ⟨none, .frz d⟩)
  | .slc a lo hi => bnd (ev a) fun x => bnd (esc x) fun x => bnd (prt lo.isNo (ev lo)) fun l => bnd (prt hi.isNo (ev hi)) fun h => lft ((slcD x l h).map fun o => ⟨none, o⟩)
  | .no => frz .non
  | .rev a => bnd (ev a) fun x => bnd (esc x) fun x => lft ((revD x).map fun o => ⟨none, o⟩)
  | .pget i f => bnd (isPen i) fun p => frz (.int (penGet p f))
  | .pcell i a => bnd (isPen i) fun p => bnd (ev a) fun k => bnd (vInt k) fun k => bnd (lft (atI p.cells k)) fun c => frz (.int c)
  | .plen i => bnd (isPen i) fun p => frz (.int p.cells.length)
  | .att a f => bnd (ev a) fun x => bnd (esc x) fun x => bnd (lft (attD Γ.att x f)) frz
  | .lam k is => bnd (frzAll is) fun _ => frz (.clo k)
  | .callc i => bnd (rd i) fun x => match x.o with
    | .frz (.clo k) => if Γ.own.isNone && (Γ.lam k).isSome then callFn Γ.own (Γ.lam k) [] else bad
    | _ => bad
  | .call g es => bnd (evs es) fun ds => callFn Γ.own (Γ.fn g) ds
  | .callk g ks es => bnd (evs es) fun ds => callFn Γ.own (Γ.fnk g ks) ds
  | .callv i es => bnd (rd i) fun x => match x.o with
    | .frz (.glo g) => if (Γ.fn g).isSome = true then bnd (evs es) fun ds => callFn Γ.own (Γ.fn g) ds else bad
    | _ => bad
  | .bi b es => if b.esc = true then bnd (evs es) fun ds => lft ((biE b ds).map fun o => ⟨none, o⟩) else bnd (evv es) fun ds => lft ((biD b ds).map fun o => ⟨none, o⟩)
  | .isa a ts => bnd (ev a) fun x => bnd (vw x) fun d => bnd (lft (isaD Γ.cls d ts)) fun t => frz (.bl t)
  | .isx a g => bnd (ev a) fun x => bnd (vw x) fun d => bnd (lft (isxD Γ.xs d g)) fun t => frz (.bl t)
  | .me m a es => bnd (ev a) fun x => bnd (vw x) fun d => bnd (evv es) fun ds => lft ((meD m d ds).map fun o => ⟨none, o⟩)
  | .lc own tg kd es ifs elt => bnd (itM kd (evv es) (evEl false es)) fun ds => inBlk own (loopC own tg (evTs ifs) (ev elt) ds)
  | .sortk es => bnd (evs es) fun ds => lft ((sortLenD ds).map fun o => ⟨none, o⟩)
  | .setl es => bnd (evs es) fun ds => lft ((setLenD ds).map fun o => ⟨none, o⟩)
  | .sets es => bnd (evs es) fun ds => lft ((setSortD ds).map fun o => ⟨none, o⟩)
  | .newt => DL.ret ⟨none, .odt [] []⟩
  | .tsort i => tsortM i
  | .tkeys i => fun ρ => match ρ.sl[i]? with
    | some (some (.odt ks _)) => .ok ⟨none, .own ((ks.map fun k => D.tup (k.map keyD)).map O.frz)⟩ ρ
    | _ => .bad
  | .tand _ _ => bad | .tor _ _ => bad | .tnot _ => bad | .tv _ => bad
def evT : E → M Bool
  | .tand a b => bnd (evT a) fun t => if t = true then evT b else ret false
  | .tor a b => bnd (evT a) fun t => if t = true then ret true else evT b
  | .tnot a => bnd (evT a) fun t => ret (!t)
  | .tv a => bnd (ev a) truth
  | _ => bad
def evTs : List E → M Bool
  | [] => ret true
  | t :: ts => bnd (evT t) fun b => if b = true then evTs ts else ret false
def evs : List E → M (List D)
  | [] => ret []
  | e :: es => bnd (ev e) fun x => bnd (esc x) fun d => bnd (evs es) fun ds => ret (d :: ds)
def evv : List E → M (List D)
  | [] => ret []
  | e :: es => bnd (ev e) fun x => bnd (vw x) fun d => bnd (evv es) fun ds => ret (d :: ds)
def evEl (z : Bool) : List E → M (List (List D))
  | [] => ret []
  | e :: es => bnd (ev e) fun x => bnd (elems z x) fun ds => bnd (evEl z es) fun dss => ret (ds :: dss)
end
abbrev evIt (z : Bool) (kd : ItK) (es : List E) : M (List D) := itM kd (evv Γ es) (evEl Γ z es)
end DL

set_option Elab.async false
set_option linter.all false
set_option maxRecDepth 100000
/-! DL3: statements. -/
namespace DL
open PySem PySem.Spec PyProof.Rows L2

/-- what an except suite answers: return of a constant, or of a tuple of constants and fields of the error -/
inductive HIt where
  | c (k : Cn) | f (x : Str)
inductive HB where
  | c (k : Cn) | t (xs : List HIt)
inductive S where
  | set (i : Nat) (e : E) | sett (is : List Nat) (e : E) | par (i j : Nat) (a b : E)
  | aug (i : Nat) (op : Operator) (e : E)
  | ex (e : E) | ret (e : E) | retn
  | iff (t : E) (a b : List S)
  | fr (tg : Tg) (kd : ItK) (es : List E) (body : List S)
  | whl (n : Nat) (t : E) (body : List S)
  | brk | cnt | pas
  | rse (g : Nat) (es : List E)
  | app (i : Nat) (e : E) | apop (i j : Nat) (e : E)
  | st1 (i : Nat) (a e : E) | st2 (i : Nat) (a b e : E) | ag1 (i : Nat) (a : E) (op : Operator) (e : E)
  | pst (i : Nat) (f : PF) (e : E)
  | tput (i : Nat) (a e : E)
  | fld (i : Nat) (f : Str) (e : E)
  | try_ (body : List S) (hs : List (Nat × HB)) | tryb (body : List S) (gb : Nat) (c : Cn)
inductive Fl where
  | nx | brk | cnt | ret (d : D)

def setO (i : Nat) (o : O) : M Fl := fun ρ => .ok .nx (ρ.set i (some o))
/-- the list that slot i owns becomes f of it -/
def modOwn (i : Nat) (f : List O → Option (List O)) : M Fl := fun ρ => match ρ.sl[i]? with
  | some (some (.own os)) => (match f os with
    | some os' => .ok .nx (ρ.set i (some (.own os')))
    | none => .bad)
  | _ => .bad
def setAt {α : Type} (xs : List α) (k : Int) (x : α) : Option (List α) := (ixN xs.length k).map fun j => xs.set j x
def isOwn (i : Nat) : M Unit := fun ρ => match ρ.sl[i]? with
  | some (some (.own _)) => .ok () ρ
  | _ => .bad
def isOdt (i : Nat) : M Unit := fun ρ => match ρ.sl[i]? with
  | some (some (.odt _ _)) => .ok () ρ
  | _ => .bad
def noT (o : O) : M Unit := if o.hasT then bad else ret ()
/-- behind the slots a value is kept for a while -/
def push (o : O) : M Unit := fun ρ => .ok () { ρ with sl := ρ.sl ++ [some o] }
def popL : M O := fun ρ => match ρ.sl.getLast? with
  | some (some o) => .ok o { ρ with sl := ρ.sl.dropLast }
  | _ => .bad
def seqF (m n : M Fl) : M Fl := bnd m fun f => match f with
  | .nx => n
  | f => ret f
def forF (tg : Tg) (body : M Fl) : List D → M Fl
  | [] => ret .nx
  | d :: ds => bnd (asgT tg d) fun _ => bnd body fun f => match f with
    | .nx => forF tg body ds
    | .cnt => forF tg body ds
    | .brk => ret .nx
    | .ret d => ret (.ret d)
def whlF (t : M Bool) (body : M Fl) : Nat → M Fl
  | 0 => bad
  | n + 1 => bnd t fun b => if b = true then bnd body fun f => match f with
    | .nx => whlF t body n
    | .cnt => whlF t body n
    | .brk => ret .nx
    | .ret d => ret (.ret d)
    else ret .nx
def HIt.d (ns : List Str) (xs : List D) : HIt → Option D
  | .c k => some k.d
  | .f x => (ns.zip xs).lookup x
def HB.d (ns : List Str) (xs : List D) : HB → Option D
  | .c k => some k.d
  | .t is => (is.mapM (HIt.d ns xs)).map D.tup
def hndF (ok : Nat → Bool) (hs : List (Nat × HB)) (m : M Fl) : M Fl := fun ρ => match m ρ with
  | .err g ns xs ρ' => if ok g = false then .bad else (match hs.lookup g with
    | some h => (match h.d ns xs with
      | some d => .ok (.ret d) ρ'
      | none => .bad)
    | none => .err g ns xs ρ')
  | r => r

def hndB (xb : Nat → Nat → Option Bool) (gb : Nat) (c : Cn) (m : M Fl) : M Fl := fun ρ => match m ρ with
  | .err g ns xs ρ' => (match xb g gb with
    | some true => .ok (.ret c.d) ρ'
    | some false => .err g ns xs ρ'
    | none => .bad)
  | r => r
variable (Γ : Gam)
mutual
def evS : S → M Fl
  | .set i e => bnd (ev Γ e) fun x => bnd (keep x) fun o => setO i o
  | .sett is e => bnd (ev Γ e) fun x => bnd (esc x) fun d => bnd (asgT (.tp is) d) fun _ => ret .nx
  | .par i j a b => bnd (ev Γ a) fun x => bnd (keep x) fun o => bnd (push o) fun _ => bnd (ev Γ b) fun y => bnd (keep y) fun p => bnd (popL) fun o => bnd (setO i o) fun _ => setO j p
  | .aug i op e => bnd (rd i) fun x => bnd (esc x) fun x => bnd (ev Γ e) fun y => bnd (esc y) fun y => bnd (lft (binD op x y)) fun o => setO i o
  | .ex e => bnd (ev Γ e) fun _ => ret .nx
  | .ret e => bnd (ev Γ e) fun x => bnd (esc x) fun d => ret (.ret d)
  | .retn => ret (.ret .non)
  | .iff t a b => bnd (evT Γ t) fun c => if c = true then evSs a else evSs b
  | .fr tg kd es body => bnd (evIt Γ true kd es) fun ds => forF tg (evSs body) ds
  | .whl n t body => whlF (evT Γ t) (evSs body) n
  | .brk => ret .brk
  | .cnt => ret .cnt
  | .pas => ret .nx
  | .rse g es => bnd (evs Γ es) fun ds => fun ρ => match Γ.exf g with
    | some ns => if ns.length = ds.length then .err g ns ds ρ else .bad
    | none => .bad
  | .app i e => bnd (isOwn i) fun _ => bnd (ev Γ e) fun x => bnd (keep x) fun o => bnd (noT o) fun _ => modOwn i fun os => if os.length < lineN then some (os ++ [o]) else none
  | .apop i j e => bnd (isOwn i) fun _ => bnd (isOwn j) fun _ => bnd (ev Γ e) fun x => bnd (vInt x) fun k => fun ρ => match ρ.sl[j]? with
    | some (some (.own os)) => if i = j then .bad else (match ixN os.length k with
      | some n => (match os[n]? with
        | some (.frz d) => if os.length ≤ lineN then bnd (modOwn j fun os => some (os.eraseIdx n)) (fun _ => modOwn i fun os => if os.length < lineN then some (os ++ [.frz d]) else none) ρ else .bad
        | _ => .bad)
      | none => .bad)
    | _ => .bad
  | .st1 i a e => bnd (ev Γ e) fun x => bnd (keep x) fun o => bnd (noT o) fun _ => bnd (push o) fun _ => bnd (ev Γ a) fun k => bnd (vInt k) fun k => bnd popL fun o => modOwn i fun os => setAt os k o
  | .st2 i a b e => bnd (ev Γ e) fun x => bnd (keep x) fun o => bnd (noT o) fun _ => bnd (push o) fun _ => bnd (ev Γ a) fun k => bnd (vInt k) fun k => bnd (ev Γ b) fun m => bnd (vInt m) fun m => bnd popL fun o =>
      modOwn i fun os => match atI os k with
        | some (.own ps) => (setAt ps m o).bind fun ps => setAt os k (.own ps)
        | _ => none
  | .ag1 i a op e => bnd (ev Γ a) fun k => bnd (vInt k) fun k => fun ρ => match ρ.sl[i]? with
    | some (some (.own os)) => (match atI os k with
      | some (.frz x) => bnd (ev Γ e) (fun y => bnd (esc y) fun y => bnd (lft (binD op x y)) fun o => bnd (noT o) fun _ => modOwn i fun os => setAt os k o) ρ
      | _ => .bad)
    | _ => .bad
  | .pst i f e => bnd (ev Γ e) fun x => bnd (vInt x) fun k => bnd (isPen i) fun p => fun ρ => .ok .nx { ρ with pen := penSet ρ.pen f k }
  | .fld i f e => bnd (ev Γ e) fun x => bnd (esc x) fun d => fun ρ => match ρ.sl[i]? with
    | some (some (.ins g ns xs)) => if ns.length < 100 && !ns.contains f then .ok .nx (ρ.set i (some (.ins g (ns ++ [f]) (xs ++ [d])))) else .bad
    | _ => .bad
  | .tput i a e => bnd (ev Γ e) fun x => bnd (esc x) fun d => bnd (isOdt i) fun _ => bnd (ev Γ a) fun y => bnd (esc y) fun k => fun ρ => match k, ρ.sl[i]? with
    | .tup ts, some (some (.odt ks ds)) => (match keysOf ts with
      | some kk => if ks.length < lineN ∧ ks.length = ds.length then .ok .nx (ρ.set i (some (.odt ((putT (ks.zip ds) kk d).map (·.1)) ((putT (ks.zip ds) kk d).map (·.2))))) else .bad
      | none => .bad)
    | _, _ => .bad
  | .tryb body gb c => hndB Γ.xb gb c (evSs body)
  | .try_ body hs => hndF (fun g => (Γ.exf g).isSome) hs (evSs body)
def evSs : List S → M Fl
  | [] => ret .nx
  | s :: ss => seqF (evS s) (evSs ss)
end
/-- a def: its slots (parameters first), its body -/
def runDef (n : Nat) (body : List S) : Fn := fun ds p => match evSs Γ body ⟨ds.map (fun d => some (.frz d)) ++ List.replicate (n - ds.length) none, p⟩ with
  | .ok (.ret d) ρ => .ok d ρ.pen
  | .ok .nx ρ => .ok .non ρ.pen
  | .ok _ _ => .bad
  | .err g ns xs ρ => .err g ns xs ρ.pen
  | .bad => .bad
/-- an __init__: slot 0 is the instance that is made -/
def runInit (g n : Nat) (body : List S) : Fn := fun ds p => match evSs Γ body ⟨some (.ins g [] []) :: (ds.map (fun d => some (.frz d)) ++ List.replicate (n - 1 - ds.length) none), p⟩ with
  | .ok .nx ρ => (match ρ.sl[0]? with
    | some (some (O.ins h ns xs)) => .ok (.obj h ns xs) ρ.pen
    | _ => .bad)
  | .err g ns xs ρ => .err g ns xs ρ.pen
  | _ => .bad
end DL

set_option Elab.async false
set_option linter.all false
set_option maxRecDepth 100000
/-! DL4: how the interpreter's states and the abstract heap agree. -/
namespace DL
open PySem PySem.Spec PyProof.Rows L2

/-- a def's entry: where the pen stands, the region and the heap that it got -/
structure Cf where
  P : Addr
  R0 : Hp
  H0 : Hp
/-- the slots, each with the addresses that it owns -/
structure Slots (G : Gx) (P : Addr) (H R : Hp) (sl : List (Option O)) (σ : L2.St) (fps : List (List Addr)) : Prop where
  l1 : sl.length = σ.length
  l2 : fps.length = σ.length
  at_ : ∀ (i : Nat) (o : O), sl[i]? = some (some o) → ∃ v f, σ[i]? = some (some v) ∧ fps[i]? = some f ∧ RO G P H R o v f
structure Dis (fps : List (List Addr)) : Prop where
  nd : ∀ (i : Nat) (f : List Addr), fps[i]? = some f → f.Nodup
  ds : ∀ (i j : Nat) (f g : List Addr) (a : Addr), i ≠ j → fps[i]? = some f → fps[j]? = some g → a ∈ f → a ∉ g
def penKs (c : Addr) (p : Pen) : List (Key × V) := [(.inr "cells", .ref c), (.inr "at", .int p.at_), (.inr "digits", .int p.digits), (.inr "count", .int p.count), (.inr "fold", .int p.fold)]
/-- what the lambdas see stands in the cells -/
def EnvOk (G : Gx) (P : Addr) (R : Hp) (p : Pen) : Prop := ∀ (j : Nat) (d : D), p.env[j]? = some (some d) → ∃ v, G.nm.cv[j]? = some (some v) ∧ Rep G P R d v
def PenOk (G : Gx) (P : Addr) (H R : Hp) (p : Pen) : Prop := ∃ c, H P = some (.dK (penKs c p)) ∧ SqL G.K R c (p.cells.map V.int) ∧ EnvOk G P R p
theorem EnvOk.mono {G : Gx} {P : Addr} {R R' : Hp} {p : Pen} (h : EnvOk G P R p) (e : Same R R') : EnvOk G P R' p := fun j d hj => by
  obtain ⟨v, h1, h2⟩ := h j d hj
  exact ⟨v, h1, h2.mono e⟩
/-- what is owned is no table and none of the objects that are known but as such -/
def Kn (o : HO) : Prop := (∀ ps, o ≠ .tbl ps) ∧ (∀ φ, o ≠ .ext φ) ∧ ∀ xs, o ≠ .tup xs
/-- an address that is owned: of this def, in no region, not the pen -/
structure Mine (c : Cf) (R H : Hp) (a : Addr) : Prop where
  r : R a = none
  h : H a ≠ none
  h0 : c.H0 a = none
  p : a ≠ c.P
  k : ∀ u, H a = some u → Kn u
/-- of the region: the pen is not in it, nor any table -/
structure Pr (R : Hp) (P : Addr) : Prop where
  p : R P = none
  t : ∀ a ps, R a ≠ some (.tbl ps)
structure Sim (G : Gx) (c : Cf) (R H : Hp) (σ : L2.St) (ρ : Env) (fps : List (List Addr)) : Prop where
  same : Same R H
  base : Same c.R0 R
  keep : SX c.P c.H0 H
  sl : Slots G c.P H R ρ.sl σ fps
  dis : Dis fps
  out : ∀ (i : Nat) (f : List Addr) (a : Addr), fps[i]? = some f → a ∈ f → Mine c R H a
  grow : ∀ a, R a ≠ none → c.R0 a ≠ none ∨ New c.H0 a
  pen : PenOk G c.P H R ρ.pen
  pr : Pr R c.P
  tab : LamX.Tabs G.nm.T H
/-- a value of the interpreter, and the value that stands for it -/
def VR (G : Gx) (c : Cf) (R H : Hp) (fps : List (List Addr)) (v : Val) (x : V) : Prop := match v.src with
  | none => ∃ f : List Addr, RO G c.P H R v.o x f ∧ f.Nodup ∧ ∀ a ∈ f, Mine c R H a ∧ ∀ (i : Nat) (g : List Addr), fps[i]? = some g → a ∉ g
  | some i => ∃ f g : List Addr, RO G c.P H R v.o x f ∧ f.Nodup ∧ fps[i]? = some g ∧ ∀ a ∈ f, a ∈ g

theorem getElem?_set_cases {α : Type} {l : List α} {i j : Nat} {x y : α} (h : (l.set i x)[j]? = some y) : (i = j ∧ y = x ∧ i < l.length) ∨ (i ≠ j ∧ l[j]? = some y) := by
  by_cases e : i = j
  · subst e
    by_cases hl : i < l.length
    · rw [List.getElem?_set_self hl] at h; cases h; exact .inl ⟨rfl, rfl, hl⟩
    · rw [List.getElem?_eq_none (by simpa using hl)] at h; cases h
  · rw [List.getElem?_set_ne e] at h; exact .inr ⟨e, h⟩

section
variable {G : Gx} {c : Cf} {R R' H H' : Hp} {σ : L2.St} {ρ : Env} {fps : List (List Addr)} {P : Addr}
mutual
theorem RO.kind {P : Addr} : ∀ (o : O) (v : V) (fp : List Addr), RO G P H R o v fp → ∀ a ∈ fp, ∃ u, H a = some u ∧ Kn u
  | .frz d, v, fp, h, a, ha => by
    simp only [RO] at h
    rw [h.2] at ha; cases ha
  | .own os, v, fp, h, a, ha => by
    simp only [RO] at h
    obtain ⟨p, xs, fq, rfl, h2, rfl, h4⟩ := h
    rcases List.mem_cons.mp ha with rfl | ha
    · exact ⟨_, h2, fun _ z => (nomatch z), fun _ z => (nomatch z), fun _ z => (nomatch z)⟩
    · exact ROL.kind os xs fq h4 a ha
  | .ins g ns ds, v, fp, h, a, ha => by
    simp only [RO] at h
    obtain ⟨p, dx, fs, rfl, _, h2, h3, h4, h5, rfl⟩ := h
    simp only [List.mem_cons, List.not_mem_nil, or_false] at ha
    rcases ha with rfl | rfl
    · exact ⟨_, h2, fun _ z => (nomatch z), fun _ z => (nomatch z), fun _ z => (nomatch z)⟩
    · exact ⟨_, h3, fun _ z => (nomatch z), fun _ z => (nomatch z), fun _ z => (nomatch z)⟩
  | .odt ks ds, v, fp, h, a, ha => by
    simp only [RO] at h
    obtain ⟨p, kvs, rfl, h2, h3, h4, rfl⟩ := h
    simp only [List.mem_cons, List.not_mem_nil, or_false] at ha
    rw [ha]
    exact ⟨_, h2, fun _ z => (nomatch z), fun _ z => (nomatch z), fun _ z => (nomatch z)⟩
theorem ROL.kind {P : Addr} : ∀ (os : List O) (xs : List V) (fp : List Addr), ROL G P H R os xs fp → ∀ a ∈ fp, ∃ u, H a = some u ∧ Kn u
  | [], xs, fp, h, a, ha => by
    simp only [ROL] at h
    rw [h.2] at ha; cases ha
  | o :: os, xs, fp, h, a, ha => by
    simp only [ROL] at h
    obtain ⟨y, ys, f1, f2, rfl, rfl, h3, h4⟩ := h
    rcases List.mem_append.mp ha with ha | ha
    · exact RO.kind o y f1 h3 a ha
    · exact ROL.kind os ys f2 h4 a ha
end
mutual
theorem RO.live : ∀ (o : O) (v : V) (fp : List Addr), RO G P H R o v fp → ∀ a ∈ fp, H a ≠ none
  | .frz d, v, fp, h, a, ha => by
    simp only [RO] at h
    rw [h.2] at ha; cases ha
  | .own os, v, fp, h, a, ha => by
    simp only [RO] at h
    obtain ⟨p, xs, fq, rfl, h2, rfl, h4⟩ := h
    rcases List.mem_cons.mp ha with rfl | ha
    · rw [h2]; simp
    · exact ROL.live os xs fq h4 a ha
  | .ins g ns ds, v, fp, h, a, ha => by
    simp only [RO] at h
    obtain ⟨p, dx, fs, rfl, _, h2, h3, h4, h5, rfl⟩ := h
    simp only [List.mem_cons, List.not_mem_nil, or_false] at ha
    rcases ha with rfl | rfl
    · rw [h2]; simp
    · rw [h3]; simp
  | .odt ks ds, v, fp, h, a, ha => by
    simp only [RO] at h
    obtain ⟨p, kvs, rfl, h2, h3, h4, rfl⟩ := h
    simp only [List.mem_cons, List.not_mem_nil, or_false] at ha
    rw [ha, h2]; simp
theorem ROL.live : ∀ (os : List O) (xs : List V) (fp : List Addr), ROL G P H R os xs fp → ∀ a ∈ fp, H a ≠ none
  | [], xs, fp, h, a, ha => by
    simp only [ROL] at h
    rw [h.2] at ha; cases ha
  | o :: os, xs, fp, h, a, ha => by
    simp only [ROL] at h
    obtain ⟨y, ys, f1, f2, rfl, rfl, h3, h4⟩ := h
    rcases List.mem_append.mp ha with ha | ha
    · exact RO.live o y f1 h3 a ha
    · exact ROL.live os ys f2 h4 a ha
end
theorem SX.tupA {kvs : List (Key × V)} {a : Addr} {xs : List V} (e : SX P H H') (hp : H P = some (.dK kvs)) (h : H a = some (.tup xs)) : H' a = some (.tup xs) := e.at_ a _ (fun q => by rw [q, hp] at h; cases h) (fun _ z => nomatch z) h
theorem SX.sqL {K : PySem.W.Frag} {kvs : List (Key × V)} {a : Addr} {xs : List V} (e : SX P H H') (hp : H P = some (.dK kvs)) (h : SqL K H a xs) : SqL K H' a xs := by
  have n : ∀ {u}, H a = some u → (∀ z, u ≠ .dK z) → (∀ z, u ≠ .tbl z) → H' a = some u := fun {u} h z t => e.at_ a u (fun q => by rw [q, hp] at h; exact z _ (Option.some.inj h).symm) t h
  rcases h with (h | ⟨o, h⟩) | h
  · exact .inl (.inl (n h (fun z q => by cases q) (fun z q => by cases q)))
  · exact .inl (.inr ⟨o, n h (fun z q => by cases q) (fun z q => by cases q)⟩)
  · exact .inr h
mutual
theorem Rep.sx {kvs : List (Key × V)} (e : SX P H H') (hp : H P = some (.dK kvs)) : ∀ (d : D) (v : V), Rep G P H d v → Rep G P H' d v
  | .non, _, h => by simpa only [Rep] using h
  | .bl _, _, h => by simpa only [Rep] using h
  | .int _, _, h => by simpa only [Rep] using h
  | .str _, _, h => by simpa only [Rep] using h
  | .tup ds, v, h => by
    simp only [Rep] at h ⊢
    obtain ⟨a, xs, e1, e2, e3⟩ := h
    exact ⟨a, xs, e1, e.tupA hp e2, RepL.sx e hp ds xs e3⟩
  | .lst ds, v, h => by
    simp only [Rep] at h ⊢
    obtain ⟨a, xs, e1, e2, e3⟩ := h
    exact ⟨a, xs, e1, e.at_ _ _ (fun q => by rw [q, hp] at e2; cases e2) (fun z q => by cases q) e2, RepL.sx e hp ds xs e3⟩
  | .dct ks ds, v, h => by
    simp only [Rep] at h ⊢
    obtain ⟨a, kvs, e1, np, e2, e3, e4⟩ := h
    exact ⟨a, kvs, e1, np, e.at_ _ _ np (fun z q => by cases q) e2, e3, RepL.sx e hp ds _ e4⟩
  | .glo _, _, h => by simpa only [Rep] using h
  | .obj g ns ds, v, h => by
    simp only [Rep] at h ⊢
    obtain ⟨a, dx, fs, e1, e2, e3, e4⟩ := h
    exact ⟨a, dx, fs, e1, e2.keep fun b o q n t => e.at_ b o (fun z => by rw [z, hp] at q; exact n _ (Option.some.inj q).symm) t q, e3, RepL.sx e hp ds _ e4⟩
  | .pen, _, h => by simpa only [Rep] using h
  | .clo k, v, h => by
    simp only [Rep] at h ⊢
    obtain ⟨f, c', L, e1, np, e2, e3, e4, e5⟩ := h
    exact ⟨f, c', L, e1, np, e2, e.at_ _ _ np LamO.ne_tbl e3, e.at_ _ _ e5 LamX.codeO_ne e4, e5⟩
theorem RepL.sx {kvs : List (Key × V)} (e : SX P H H') (hp : H P = some (.dK kvs)) : ∀ (ds : List D) (xs : List V), RepL G P H ds xs → RepL G P H' ds xs
  | [], _, h => by simpa only [RepL] using h
  | d :: ds, xs, h => by
    simp only [RepL] at h ⊢
    obtain ⟨y, ys, e1, e2, e3⟩ := h
    exact ⟨y, ys, e1, Rep.sx e hp d y e2, RepL.sx e hp ds ys e3⟩
end
theorem RO.toRep (e : Same R H) {o : O} {v : V} {fp : List Addr} (h : RO G P H R o v fp) (t : o.hasT = false) : Rep G P H o.d v :=
  (RO.toFz e fp o v fp (fun _ ha => ha) (fun ks xs q => by rw [q] at t; simp [O.hasT] at t) h t).mono (Fz.within e)
theorem Slots.mono {sl : List (Option O)} (s : Slots G P H R sl σ fps) (e : Same R R') (k : ∀ (i : Nat) (f : List Addr) (a : Addr), fps[i]? = some f → a ∈ f → H' a = H a) : Slots G P H' R' sl σ fps :=
  ⟨s.l1, s.l2, fun i o h => by
    obtain ⟨v, f, h1, h2, h3⟩ := s.at_ i o h
    exact ⟨v, f, h1, h2, RO.mono e o v f (fun a ha => k i f a h2 ha) h3⟩⟩
theorem Slots.set {sl : List (Option O)} {o : O} {v : V} {f : List Addr} (s : Slots G P H R sl σ fps) (i : Nat) (h : RO G P H R o v f) : Slots G P H R (sl.set i (some o)) (σ.set i (some v)) (fps.set i f) :=
  ⟨by simp [s.l1], by simp [s.l2], fun j o' hj => by
    rcases getElem?_set_cases hj with ⟨e, e2, hl⟩ | ⟨e, hj⟩
    · subst e; cases e2
      exact ⟨v, f, by rw [List.getElem?_set_self (by rw [← s.l1]; exact hl)], by rw [List.getElem?_set_self (by rw [s.l2, ← s.l1]; exact hl)], h⟩
    · rw [List.getElem?_set_ne e, List.getElem?_set_ne e]
      exact s.at_ j o' hj⟩
theorem Slots.setNone {sl : List (Option O)} (s : Slots G P H R sl σ fps) (i : Nat) (x : Option V) : Slots G P H R (sl.set i none) (σ.set i x) (fps.set i []) :=
  ⟨by simp [s.l1], by simp [s.l2], fun j o' hj => by
    rcases getElem?_set_cases hj with ⟨e, e2, hl⟩ | ⟨e, hj⟩
    · cases e2
    · rw [List.getElem?_set_ne e, List.getElem?_set_ne e]
      exact s.at_ j o' hj⟩
/-- a slot holds the same, seen otherwise -/
theorem Slots.re {sl : List (Option O)} {o : O} {v : V} {f : List Addr} (s : Slots G P H R sl σ fps) (i : Nat) (hv : σ[i]? = some (some v)) (h : RO G P H R o v f) : Slots G P H R (sl.set i (some o)) σ (fps.set i f) := by
  have q := s.set (o := o) (v := v) (f := f) i h
  have e : σ.set i (some v) = σ := by
    obtain ⟨hl, e⟩ := List.getElem?_eq_some_iff.mp hv
    rw [← e]; exact List.set_getElem_self hl
  rw [e] at q; exact q
theorem Slots.snoc {sl : List (Option O)} {o : O} {v : V} {f : List Addr} (s : Slots G P H R sl σ fps) (h : RO G P H R o v f) : Slots G P H R (sl ++ [some o]) (σ ++ [some v]) (fps ++ [f]) :=
  ⟨by simp [s.l1], by simp [s.l2], fun j o' hj => by
    by_cases hl : j < sl.length
    · rw [List.getElem?_append_left hl] at hj
      rw [List.getElem?_append_left (by rw [← s.l1]; exact hl), List.getElem?_append_left (by rw [s.l2, ← s.l1]; exact hl)]
      exact s.at_ j o' hj
    · rw [List.getElem?_append_right (by omega)] at hj
      rw [List.getElem?_append_right (by rw [← s.l1]; omega), List.getElem?_append_right (by rw [s.l2, ← s.l1]; omega)]
      have : j - sl.length = 0 := by
        cases q : j - sl.length with
        | zero => rfl
        | succ n => rw [q] at hj; simp at hj
      rw [this] at hj
      have h1 : j - σ.length = 0 := by rw [← s.l1]; exact this
      have h2 : j - fps.length = 0 := by rw [s.l2, ← s.l1]; exact this
      rw [h1, h2]
      simp at hj; subst hj
      exact ⟨v, f, rfl, rfl, h⟩⟩
theorem Slots.snocNone {sl : List (Option O)} (s : Slots G P H R sl σ fps) (x : Option V) : Slots G P H R (sl ++ [none]) (σ ++ [x]) (fps ++ [[]]) :=
  ⟨by simp [s.l1], by simp [s.l2], fun j o' hj => by
    by_cases hl : j < sl.length
    · rw [List.getElem?_append_left hl] at hj
      rw [List.getElem?_append_left (by rw [← s.l1]; exact hl), List.getElem?_append_left (by rw [s.l2, ← s.l1]; exact hl)]
      exact s.at_ j o' hj
    · rw [List.getElem?_append_right (by omega)] at hj
      cases q : j - sl.length with
      | zero => rw [q] at hj; simp at hj
      | succ n => rw [q] at hj; simp at hj⟩
/-- the last slot away -/
theorem Slots.init {sl : List (Option O)} (s : Slots G P H R sl (σ ++ [x]) fps) : Slots G P H R sl.dropLast σ fps.dropLast :=
  ⟨by have := s.l1; simp at this ⊢; omega, by have := s.l2; simp at this ⊢; omega, fun j o' hj => by
    have l1 := s.l1
    have l2 := s.l2
    simp at l1 l2
    rw [List.getElem?_dropLast] at hj
    by_cases hl : j < sl.length - 1
    · rw [if_pos hl] at hj
      obtain ⟨v, f, h1, h2, h3⟩ := s.at_ j o' hj
      refine ⟨v, f, ?_, ?_, h3⟩
      · rw [List.getElem?_append_left (by omega)] at h1; exact h1
      · rw [List.getElem?_dropLast, if_pos (by omega)]; exact h2
    · rw [if_neg hl] at hj; cases hj⟩
theorem Dis.set (d : Dis fps) {f : List Addr} (i : Nat) (nd : f.Nodup) (n : ∀ a ∈ f, ∀ (j : Nat) (g : List Addr), j ≠ i → fps[j]? = some g → a ∉ g) : Dis (fps.set i f) :=
  ⟨fun j g hj => by
    rcases getElem?_set_cases hj with ⟨_, rfl, _⟩ | ⟨_, hj⟩
    · exact nd
    · exact d.nd j g hj,
  fun j k g h a ne hj hk ha hb => by
    rcases getElem?_set_cases hj with ⟨e, rfl, _⟩ | ⟨e, hj⟩
    · rcases getElem?_set_cases hk with ⟨e2, _, _⟩ | ⟨e2, hk⟩
      · exact ne (e.symm.trans e2)
      · exact n a ha k h (by omega) hk hb
    · rcases getElem?_set_cases hk with ⟨e2, q, _⟩ | ⟨e2, hk⟩
      · exact n a (q ▸ hb) j g (by omega) hj ha
      · exact d.ds j k g h a ne hj hk ha hb⟩
theorem Dis.snoc (d : Dis fps) {f : List Addr} (nd : f.Nodup) (n : ∀ a ∈ f, ∀ (j : Nat) (g : List Addr), fps[j]? = some g → a ∉ g) : Dis (fps ++ [f]) := by
  have key : ∀ {j : Nat} {g : List Addr}, (fps ++ [f])[j]? = some g → (j < fps.length ∧ fps[j]? = some g) ∨ (j = fps.length ∧ g = f) := fun {j g} hj => by
    by_cases hl : j < fps.length
    · rw [List.getElem?_append_left hl] at hj; exact .inl ⟨hl, hj⟩
    · rw [List.getElem?_append_right (by omega)] at hj
      cases q : j - fps.length with
      | zero => rw [q] at hj; simp at hj; exact .inr ⟨by omega, hj.symm⟩
      | succ n => rw [q] at hj; simp at hj
  refine ⟨fun j g hj => ?_, fun j k g h a ne hj hk ha hb => ?_⟩
  · rcases key hj with ⟨_, hj⟩ | ⟨_, rfl⟩
    · exact d.nd j g hj
    · exact nd
  · rcases key hj with ⟨_, hj⟩ | ⟨e1, rfl⟩
    · rcases key hk with ⟨_, hk⟩ | ⟨_, q⟩
      · exact d.ds j k g h a ne hj hk ha hb
      · exact n a (q ▸ hb) j g hj ha
    · rcases key hk with ⟨_, hk⟩ | ⟨e2, rfl⟩
      · exact n a ha k _ hk hb
      · exact ne (e1.trans e2.symm)
theorem Dis.init (d : Dis fps) : Dis fps.dropLast := by
  have key : ∀ {j : Nat} {g : List Addr}, fps.dropLast[j]? = some g → fps[j]? = some g := fun {j g} hj => by
    rw [List.getElem?_dropLast] at hj
    split at hj
    · exact hj
    · cases hj
  exact ⟨fun j g hj => d.nd j g (key hj), fun j k g h a ne hj hk => d.ds j k g h a ne (key hj) (key hk)⟩
theorem PenOk.mono {p : Pen} (h : PenOk G P H R p) (e : Same R R') (k : H' P = H P) : PenOk G P H' R' p := by
  obtain ⟨c, h1, h2, h3⟩ := h
  exact ⟨c, k.trans h1, e.seq h2, h3.mono e⟩
theorem Sim.notP (s : Sim G c R H σ ρ fps) {p : Addr} (hp : H p = none) : p ≠ c.P := fun e => by
  obtain ⟨_, h1, _⟩ := s.pen
  rw [← e, hp] at h1; cases h1
theorem Sim.h0 (s : Sim G c R H σ ρ fps) {p : Addr} (hp : H p = none) : c.H0 p = none := s.keep.free (s.notP hp) hp
theorem Sim.notFp (s : Sim G c R H σ ρ fps) {p : Addr} (hp : H p = none) : ∀ (i : Nat) (g : List Addr), fps[i]? = some g → p ∉ g := fun i g hg ha => (s.out i g p hg ha).h hp
/-- what was read stays so -/
theorem Sim.see (s : Sim G c R H σ ρ fps) (e : SX c.P H H') {d : D} {x : V} (r : Rep G c.P H d x) : Rep G c.P H' d x := by
  obtain ⟨_, hp, _⟩ := s.pen
  exact r.sx e hp
theorem Sim.seeL (s : Sim G c R H σ ρ fps) (e : SX c.P H H') {d : List D} {x : List V} (r : RepL G c.P H d x) : RepL G c.P H' d x := by
  obtain ⟨_, hp, _⟩ := s.pen
  exact r.sx e hp
/-- the region grows by what is not owned; the heap likewise -/
theorem Sim.step (s : Sim G c R H σ ρ fps) (e : Same R R') (same : Same R' H') (sx : SX c.P H H') (kf : ∀ (i : Nat) (f : List Addr) (a : Addr), fps[i]? = some f → a ∈ f → H' a = H a ∧ R' a = none) (g : ∀ a, R' a ≠ none → R a ≠ none ∨ New H a) (pr : Pr R' c.P)
    {p : Pen} (pen : PenOk G c.P H' R' p) (tab : LamX.Tabs G.nm.T H') : Sim G c R' H' σ { ρ with pen := p } fps where
  same := same
  base := s.base.trans e
  keep := s.keep.trans sx
  sl := s.sl.mono e fun i f a h1 h2 => (kf i f a h1 h2).1
  dis := s.dis
  out := fun i f a h1 h2 => ⟨(kf i f a h1 h2).2, by rw [(kf i f a h1 h2).1]; exact (s.out i f a h1 h2).h, (s.out i f a h1 h2).h0, (s.out i f a h1 h2).p, by rw [(kf i f a h1 h2).1]; exact (s.out i f a h1 h2).k⟩
  grow := fun a hr => by
    rcases g a hr with h | h
    · exact s.grow a h
    · exact .inr (h.back s.keep fun z => by rw [z, pr.p] at hr; exact hr rfl)
  pen := pen
  pr := pr
  tab := tab
/-- a new object that never changes -/
theorem Sim.new (s : Sim G c R H σ ρ fps) {p : Addr} {o : HO} (hp : H p = none) (kt : ∀ ps, o ≠ .tbl ps := by intro ps z; cases z) : Sim G c (upd R p o) (upd H p o) σ ρ fps ∧ Same R (upd R p o) ∧ SX c.P H (upd H p o) := by
  have hR : R p = none := s.same.free hp
  have e : Same R (upd R p o) := fun a u h => by rw [upd_ne (ne_of_none h hR)]; exact h
  have e2 : Same H (upd H p o) := fun a u h => by rw [upd_ne (ne_of_none h hp)]; exact h
  refine ⟨s.step (p := ρ.pen) e (fun a u h => ?_) (Same.sx e2) (fun i f a h1 h2 => ?_) (fun a h => ?_) ?_ (s.pen.mono e (upd_ne (s.notP hp).symm)) (s.tab.ext e2), e, (Same.sx e2)⟩
  · by_cases q : a = p
    · subst q; rw [upd_same] at h ⊢; exact h
    · rw [upd_ne q] at h ⊢; exact s.same a u h
  · have n : a ≠ p := fun q => s.notFp hp i f h1 (q ▸ h2)
    exact ⟨upd_ne n, by rw [upd_ne n]; exact (s.out i f a h1 h2).r⟩
  · by_cases q : a = p
    · subst q; exact .inr (.inl hp)
    · rw [upd_ne q] at h; exact .inl h
  · exact ⟨by rw [upd_ne (s.notP hp).symm]; exact s.pr.p, fun a ps z => by
      by_cases q : a = p
      · rw [q, upd_same] at z; exact kt ps (Option.some.inj z)
      · rw [upd_ne q] at z; exact s.pr.t a ps z⟩
/-- a new object that is owned by what is worked at -/
theorem Sim.newO (s : Sim G c R H σ ρ fps) {p : Addr} {o : HO} (hp : H p = none) (kn : Kn o) : Sim G c R (upd H p o) σ ρ fps ∧ SX c.P H (upd H p o) ∧ Mine c R (upd H p o) p ∧ ∀ (i : Nat) (g : List Addr), fps[i]? = some g → p ∉ g := by
  have hR : R p = none := s.same.free hp
  have e2 : Same H (upd H p o) := fun a u h => by rw [upd_ne (ne_of_none h hp)]; exact h
  refine ⟨s.step (p := ρ.pen) (Same.refl R) (s.same.trans e2) (Same.sx e2) (fun i f a h1 h2 => ?_) (fun a h => .inl h) s.pr (s.pen.mono (Same.refl R) (upd_ne (s.notP hp).symm)) (s.tab.ext e2), (Same.sx e2), ⟨hR, by rw [upd_same]; simp, s.h0 hp, s.notP hp, fun u hu => by rw [upd_same] at hu; cases hu; exact kn⟩, s.notFp hp⟩
  exact ⟨upd_ne fun q => s.notFp hp i f h1 (q ▸ h2), (s.out i f a h1 h2).r⟩
/-- what is owned by nobody's slot is frozen -/
theorem Sim.fz (s : Sim G c R H σ ρ fps) {f : List Addr} (hf : ∀ a ∈ f, Mine c R H a ∧ ∀ (i : Nat) (g : List Addr), fps[i]? = some g → a ∉ g) : Sim G c (Fz R H f) H σ ρ fps ∧ Same R (Fz R H f) := by
  have e := Fz.same (f := f) s.same
  refine ⟨⟨Fz.within s.same, s.base.trans e, s.keep, s.sl.mono e fun _ _ _ _ _ => rfl, s.dis, fun i g a h1 h2 => ?_, fun a h => ?_, s.pen.mono e rfl, ?_, s.tab⟩, e⟩
  · have m := s.out i g a h1 h2
    exact ⟨by rw [Fz.not fun q => (hf a q).2 i g h1 h2]; exact m.r, m.h, m.h0, m.p, m.k⟩
  · by_cases q : a ∈ f
    · exact .inr (.inl (hf a q).1.h0)
    · rw [Fz.not q] at h; exact s.grow a h
  · exact ⟨by rw [Fz.not fun q => (hf _ q).1.p rfl]; exact s.pr.p, fun a ps z => by
      by_cases q : a ∈ f
      · rw [Fz.mem q] at z; exact ((hf a q).1.k _ z).1 ps rfl
      · rw [Fz.not q] at z; exact s.pr.t a ps z⟩
/-- a slot's own is frozen -/
theorem Sim.freeze (s : Sim G c R H σ ρ fps) {i : Nat} {ρ' : Env} (h : ρ.freeze i = some ρ') : ∃ f, fps[i]? = some f ∧ Sim G c (Fz R H f) H σ ρ' (fps.set i []) ∧ Same R (Fz R H f) := by
  unfold Env.freeze at h
  split at h
  · rename_i o ho
    split at h
    · cases h
    · rename_i ht
      cases h
      obtain ⟨v, f, h1, h2, h3⟩ := s.sl.at_ i o ho
      have e := Fz.same (f := f) s.same
      have hr := RO.toFz s.same f o v f (fun _ ha => ha) (fun ks xs q => by rw [q] at ht; simp [O.hasT] at ht) h3 (by simpa using ht)
      refine ⟨f, h2, ⟨Fz.within s.same, s.base.trans e, s.keep, ?_, s.dis.set i List.nodup_nil (fun a ha => nomatch ha), fun j g a hj ha => ?_, fun a ha => ?_, s.pen.mono e rfl, ?_, s.tab⟩, e⟩
      · exact (s.sl.mono e fun _ _ _ _ _ => rfl).re i h1 (by simp only [RO]; exact ⟨hr, trivial⟩)
      · rcases getElem?_set_cases hj with ⟨_, rfl, _⟩ | ⟨ne, hj⟩
        · cases ha
        · have m := s.out j g a hj ha
          exact ⟨by rw [Fz.not fun q => s.dis.ds i j f g a ne h2 hj q ha]; exact m.r, m.h, m.h0, m.p, m.k⟩
      · by_cases q : a ∈ f
        · exact .inr (.inl (s.out i f a h2 q).h0)
        · rw [Fz.not q] at ha; exact s.grow a ha
      · exact ⟨by rw [Fz.not fun q => (s.out i f _ h2 q).p rfl]; exact s.pr.p, fun a ps z => by
          by_cases q : a ∈ f
          · rw [Fz.mem q] at z; exact ((s.out i f a h2 q).k _ z).1 ps rfl
          · rw [Fz.not q] at z; exact s.pr.t a ps z⟩
  · cases h
theorem escO_ok (s : Sim G c R H σ ρ fps) {src : Option Nat} {o : O} {x : V} (r : VR G c R H fps ⟨src, o⟩ x) {d : D} {ρ' : Env} (h : escO src o ρ = .ok d ρ') : ∃ R' fps', Same R R' ∧ Sim G c R' H σ ρ' fps' ∧ Rep G c.P R' d x := by
  unfold escO at h
  split at h
  · cases h
  · rename_i ht
    have ht' : o.hasT = false := by simpa using ht
    have hno : ∀ ks xs, o ≠ .odt ks xs := fun ks xs q => by rw [q] at ht; simp [O.hasT] at ht
    cases src with
    | none =>
      obtain ⟨f, h1, h2, h3⟩ := r
      cases h
      obtain ⟨s', e⟩ := s.fz h3
      exact ⟨_, _, e, s', RO.toFz s.same f o x f (fun _ ha => ha) hno h1 ht'⟩
    | some i =>
      obtain ⟨f, g, h1, h2, h3, h4⟩ := r
      simp only at h
      split at h
      · rename_i ρ2 hf
        cases h
        obtain ⟨g', hg, s', e⟩ := s.freeze hf
        rw [h3] at hg; cases hg
        exact ⟨_, _, e, s', RO.toFz s.same g o x f h4 hno h1 ht'⟩
      · cases h
/-- what goes on as data -/
theorem esc_ok (s : Sim G c R H σ ρ fps) {v : Val} {x : V} (r : VR G c R H fps v x) {d : D} {ρ' : Env} (h : esc v ρ = .ok d ρ') : ∃ R' fps', Same R R' ∧ Sim G c R' H σ ρ' fps' ∧ Rep G c.P R' d x := by
  obtain ⟨src, o⟩ := v
  cases o with
  | frz d0 =>
    simp only [esc] at h
    cases h
    refine ⟨R, fps, Same.refl R, s, ?_⟩
    unfold VR at r
    cases src with
    | none => obtain ⟨f, h1, _⟩ := r; simp only [RO] at h1; exact h1.1
    | some i => obtain ⟨f, g, h1, _⟩ := r; simp only [RO] at h1; exact h1.1
  | own os => exact escO_ok s r h
  | ins g ns xs => exact escO_ok s r h
  | odt ks xs => exact escO_ok s r h
theorem VR.ro {v : Val} {x : V} (r : VR G c R H fps v x) : ∃ f, RO G c.P H R v.o x f := by
  unfold VR at r
  split at r
  · obtain ⟨f, h, _⟩ := r; exact ⟨f, h⟩
  · obtain ⟨f, g, h, _⟩ := r; exact ⟨f, h⟩
theorem VR.frz (src : Option Nat) {d : D} {x : V} (s : Sim G c R H σ ρ fps) (r : Rep G c.P R d x) : VR G c R H fps ⟨none, .frz d⟩ x := ⟨[], by simp only [RO]; exact ⟨r, trivial⟩, List.nodup_nil, fun _ ha => nomatch ha⟩
theorem vw_ok (s : Sim G c R H σ ρ fps) {v : Val} {x : V} (r : VR G c R H fps v x) {d : D} {ρ' : Env} (h : vw v ρ = .ok d ρ') : ρ' = ρ ∧ Rep G c.P H d x := by
  unfold vw at h
  split at h
  · cases h
  · rename_i ht
    cases h
    obtain ⟨f, q⟩ := r.ro
    exact ⟨rfl, q.toRep s.same (by simpa using ht)⟩
/-- what is kept: new things with what they own -/
theorem keep_ok (s : Sim G c R H σ ρ fps) {v : Val} {x : V} (r : VR G c R H fps v x) {o : O} {ρ' : Env} (h : keep v ρ = .ok o ρ') : ∃ R' fps', Same R R' ∧ Sim G c R' H σ ρ' fps' ∧ VR G c R' H fps' ⟨none, o⟩ x := by
  obtain ⟨src, o0⟩ := v
  unfold keep at h
  cases src with
  | none =>
    simp only at h
    cases h
    exact ⟨R, fps, Same.refl R, s, r⟩
  | some i =>
    simp only at h
    split at h
    · rename_i d ρ2 he
      cases h
      obtain ⟨R', fps', e, s', q⟩ := esc_ok s r he
      exact ⟨R', fps', e, s', VR.frz none s' q⟩
    · cases h
    · cases h
end
end DL

set_option Elab.async false
set_option linter.all false
set_option maxRecDepth 100000
/-! DL5: readings by the interpreter; what goes on behind a step; data as the library reads them. -/
namespace DL
open PySem PySem.Spec PyProof.Rows L2

abbrev gOf (X : Cx) (nm : Nm) : Gx := ⟨X.prog, X.w, X.K, X.mg, X.base, nm⟩

/-- behind a computation: W is what is wanted of an error -/
def Post (G : Gx) (W : WX) (c : Cf) (σ τ : L2.St) (R H : Hp) {α : Type} (k : α → Env → Hp → Hp → List (List Addr) → Prop) : Res Env α → Prop
  | .ok a ρ' => ∀ R' H' fps', Same R R' → SX c.P H H' → Sim G c R' H' (σ ++ τ) ρ' fps' → k a ρ' R' H' fps'
  | .err g ns xs ρ' => ∀ d fs R' H' fps', Same R R' → SX c.P H H' → Sim G c R' H' (σ ++ τ) ρ' fps' → R' d = some (.xd fs) → fs.map (·.1) = ns → RepL G c.P R' xs (fs.map (·.2)) → W (.ref (He.ga G.K (G.nm g))) (some d) σ H'
  | .bad => False
/-- the def's own slots, and what is kept behind them -/
def At (G : Gx) (W : WX) {α : Type} (m : M α) (k : Cf → L2.St → α → Env → Hp → Hp → List (List Addr) → Prop) (σ : L2.St) (H : Hp) : Prop :=
  ∃ c R ρ τ fps, Sim G c R H (σ ++ τ) ρ fps ∧ Post G W c σ τ R H (k c τ) (m ρ)

section
variable {G : Gx} {W : WX} {c : Cf} {σ τ : L2.St} {R R' H H' : Hp} {α β : Type} {ρ : Env} {fps : List (List Addr)}
theorem Post.mono {k : α → Env → Hp → Hp → List (List Addr) → Prop} {r : Res Env α} (h : Post G W c σ τ R H k r) (e : Same R R') (x : SX c.P H H') : Post G W c σ τ R' H' k r := by
  cases r with
  | ok a ρ' => exact fun R2 H2 f e2 x2 s => h R2 H2 f (e.trans e2) (x.trans x2) s
  | err g ns xs ρ' => exact fun d fs R2 H2 f e2 x2 s => h d fs R2 H2 f (e.trans e2) (x.trans x2) s
  | bad => exact h
theorem Post.imp {k k' : α → Env → Hp → Hp → List (List Addr) → Prop} {r : Res Env α} (h : Post G W c σ τ R H k r)
    (f : ∀ a ρ' R' H' fps', Same R R' → SX c.P H H' → Sim G c R' H' (σ ++ τ) ρ' fps' → k a ρ' R' H' fps' → k' a ρ' R' H' fps') : Post G W c σ τ R H k' r := by
  cases r with
  | ok a ρ' => exact fun R2 H2 fp e2 x2 s => f a ρ' R2 H2 fp e2 x2 s (h R2 H2 fp e2 x2 s)
  | err g ns xs ρ' => exact h
  | bad => exact h
theorem Post.bind {k : β → Env → Hp → Hp → List (List Addr) → Prop} {m : M α} {f : α → M β} (h : Post G W c σ τ R H k (bnd m f ρ)) :
    Post G W c σ τ R H (fun a ρ1 R1 H1 fp1 => Post G W c σ τ R1 H1 k (f a ρ1)) (m ρ) := by
  unfold bnd at h
  cases e : m ρ with
  | ok a ρ' => rw [e] at h; exact fun R2 H2 fp e2 x2 s => Post.mono h e2 x2
  | err g ns xs ρ' => rw [e] at h; exact h
  | bad => rw [e] at h; exact h
/-- a step that leaves the heap as it is -/
theorem Post.now {k : α → Env → Hp → Hp → List (List Addr) → Prop} {a : α} (h : Post G W c σ τ R H k (.ok a ρ)) (s : Sim G c R H (σ ++ τ) ρ fps) : k a ρ R H fps := h R H fps (Same.refl R) (SX.refl _ _) s
theorem lft_some {a : α} {ρ' : Env} {o : Option α} (h : lft o ρ = .ok a ρ') : o = some a ∧ ρ' = ρ := by
  cases o with
  | none => cases h
  | some b => cases h; exact ⟨rfl, rfl⟩
theorem Post.lftB {k : β → Env → Hp → Hp → List (List Addr) → Prop} {o : Option α} {f : α → M β} (h : Post G W c σ τ R H k (bnd (lft o) f ρ)) : ∃ a, o = some a ∧ Post G W c σ τ R H k (f a ρ) := by
  cases o with
  | none => exact h.elim
  | some b => exact ⟨b, rfl, h⟩
theorem Post.lft1 {k : α → Env → Hp → Hp → List (List Addr) → Prop} {o : Option α} (h : Post G W c σ τ R H k (DL.lft o ρ)) : ∃ a, o = some a ∧ Post G W c σ τ R H k (.ok a ρ) := by
  cases o with
  | none => exact h.elim
  | some b => exact ⟨b, rfl, h⟩
theorem esc_noerr {v : Val} {g : Nat} {ns : List Str} {xs : List D} {ρ' : Env} (e : DL.esc v ρ = .err g ns xs ρ') : False := by
  obtain ⟨src, o⟩ := v
  have key : escO src o ρ = .err g ns xs ρ' → False := fun e => by
    unfold escO at e
    split at e
    · cases e
    · cases src with
      | none => cases e
      | some i =>
        cases q : ρ.freeze i with
        | none => simp only [q] at e; cases e
        | some u => simp only [q] at e; cases e
  cases o with
  | frz d => cases e
  | own _ => exact key e
  | ins _ _ _ => exact key e
  | odt _ _ => exact key e
theorem Post.esc {k : β → Env → Hp → Hp → List (List Addr) → Prop} {v : Val} {x : V} {f : D → M β} (s : Sim G c R H (σ ++ τ) ρ fps) (r : VR G c R H fps v x) (h : Post G W c σ τ R H k (bnd (esc v) f ρ)) :
    ∃ d ρ' R' fps', Same R R' ∧ Sim G c R' H (σ ++ τ) ρ' fps' ∧ Rep G c.P R' d x ∧ Post G W c σ τ R' H k (f d ρ') := by
  unfold bnd at h
  cases e : DL.esc v ρ with
  | ok d ρ' =>
    rw [e] at h
    obtain ⟨R', fps', h1, h2, h3⟩ := esc_ok s r e
    exact ⟨d, ρ', R', fps', h1, h2, h3, Post.mono h h1 (SX.refl _ _)⟩
  | err g ns xs ρ' => exact (esc_noerr e).elim
  | bad => rw [e] at h; exact h.elim
theorem Post.vw {k : β → Env → Hp → Hp → List (List Addr) → Prop} {v : Val} {x : V} {f : D → M β} (s : Sim G c R H (σ ++ τ) ρ fps) (r : VR G c R H fps v x) (h : Post G W c σ τ R H k (bnd (vw v) f ρ)) :
    ∃ d, Rep G c.P H d x ∧ Post G W c σ τ R H k (f d ρ) := by
  unfold bnd at h
  cases e : DL.vw v ρ with
  | ok d ρ' =>
    rw [e] at h
    obtain ⟨rfl, h2⟩ := vw_ok s r e
    exact ⟨d, h2, h⟩
  | err g ns xs ρ' => unfold DL.vw at e; split at e <;> cases e
  | bad => rw [e] at h; exact h.elim
theorem Post.int {k : β → Env → Hp → Hp → List (List Addr) → Prop} {v : Val} {x : V} {f : Int → M β} (r : VR G c R H fps v x) (h : Post G W c σ τ R H k (bnd (vInt v) f ρ)) :
    ∃ i, x = .int i ∧ Post G W c σ τ R H k (f i ρ) := by
  obtain ⟨src, o⟩ := v
  have key : ∀ d, o = .frz d → Rep G c.P R d x := fun d e => by
    obtain ⟨g, q⟩ := r.ro
    simp only [e, RO] at q
    exact q.1
  unfold bnd vInt at h
  cases o with
  | frz d =>
    cases d with
    | int i =>
      have q := key _ rfl
      simp only [Rep] at q
      exact ⟨i, q, h⟩
    | _ => exact h.elim
  | own _ => exact h.elim
  | ins _ _ _ => exact h.elim
  | odt _ _ => exact h.elim
theorem Post.rd {k : β → Env → Hp → Hp → List (List Addr) → Prop} {i : Nat} {f : Val → M β} (s : Sim G c R H (σ ++ τ) ρ fps) (hi : i < σ.length) (h : Post G W c σ τ R H k (bnd (rd i) f ρ)) :
    ∃ o x, ρ.sl[i]? = some (some o) ∧ σ[i]? = some (some x) ∧ VR G c R H fps ⟨some i, o⟩ x ∧ Post G W c σ τ R H k (f ⟨some i, o⟩ ρ) := by
  unfold bnd DL.rd at h
  cases e : ρ.sl[i]? with
  | none => rw [e] at h; exact h.elim
  | some u =>
    rw [e] at h
    cases u with
    | none => exact h.elim
    | some o =>
      obtain ⟨v, f, h1, h2, h3⟩ := s.sl.at_ i o e
      rw [List.getElem?_append_left hi] at h1
      exact ⟨o, v, rfl, h1, ⟨f, f, h3, s.dis.nd i f h2, h2, fun _ ha => ha⟩, h⟩

/-! ### readings -/
variable (G W)
def tE (Γ : Gam) (a : E) : TE := fun σ H Q => At G W (ev Γ a) (fun c _ v _ R' H' fps' => ∀ x, VR G c R' H' fps' v x → Q x H') σ H
def tT (Γ : Gam) (a : E) : TT := fun σ H Q => At G W (evT Γ a) (fun _ _ b _ _ H' _ => Q b H') σ H
def tTs (Γ : Gam) (a : List E) : TT := fun σ H Q => At G W (evTs Γ a) (fun _ _ b _ _ H' _ => Q b H') σ H
def tAs (Γ : Gam) (es : List E) : TA := fun σ H Q => At G W (evs Γ es) (fun c _ ds _ R' H' _ => ∀ xs, RepL G c.P R' ds xs → Q xs H') σ H
def tAv (Γ : Gam) (es : List E) : TA := fun σ H Q => At G W (evv Γ es) (fun c _ ds _ R' H' _ => ∀ xs, RepL G c.P H' ds xs → Q xs H') σ H
variable {G W}
/-- a part of what is computed, first -/
theorem At.part {m : M α} {f : α → M β} {k : Cf → L2.St → β → Env → Hp → Hp → List (List Addr) → Prop} {k' : Cf → L2.St → α → Env → Hp → Hp → List (List Addr) → Prop} (h : At G W (bnd m f) k σ H)
    (g : ∀ c τ a ρ1 R1 H1 fp1, Sim G c R1 H1 (σ ++ τ) ρ1 fp1 → Post G W c σ τ R1 H1 (k c τ) (f a ρ1) → k' c τ a ρ1 R1 H1 fp1) : At G W m k' σ H := by
  obtain ⟨c, R, ρ, τ, fps, s, h⟩ := h
  exact ⟨c, R, ρ, τ, fps, s, (Post.bind h).imp fun a ρ' R' H' fps' _ _ s' q => g c τ a ρ' R' H' fps' s' q⟩
theorem At.of {m : M α} {k : Cf → L2.St → α → Env → Hp → Hp → List (List Addr) → Prop} (s : Sim G c R H (σ ++ τ) ρ fps) (h : Post G W c σ τ R H (k c τ) (m ρ)) : At G W m k σ H := ⟨c, R, ρ, τ, fps, s, h⟩
/-- the same, where what follows leans on what was known before -/
theorem At.ofPart {m : M α} {f : α → M β} {k : β → Env → Hp → Hp → List (List Addr) → Prop} {k' : Cf → L2.St → α → Env → Hp → Hp → List (List Addr) → Prop} (s : Sim G c R H (σ ++ τ) ρ fps) (h : Post G W c σ τ R H k (bnd m f ρ))
    (g : ∀ a ρ1 R1 H1 fp1, Same R R1 → SX c.P H H1 → Sim G c R1 H1 (σ ++ τ) ρ1 fp1 → Post G W c σ τ R1 H1 k (f a ρ1) → k' c τ a ρ1 R1 H1 fp1) : At G W m k' σ H :=
  ⟨c, R, ρ, τ, fps, s, (Post.bind h).imp fun a ρ' R' H' fps' e x s' q => g a ρ' R' H' fps' e x s' q⟩
end

/-! ### frozen results -/
section
variable {G : Gx} {W : WX} {c : Cf} {σ τ : L2.St} {R R' H H' : Hp} {ρ : Env} {fps : List (List Addr)} {Q : VK}
abbrev kE (G : Gx) (Q : VK) (c : Cf) (v : Val) (ρ' : Env) (R' H' : Hp) (fps' : List (List Addr)) : Prop := ∀ x, VR G c R' H' fps' v x → Q x H'
theorem done_frz (s : Sim G c R H (σ ++ τ) ρ fps) {d : D} {x : V} (h : Post G W c σ τ R H (fun v ρ' R' H' fps' => ∀ x, VR G c R' H' fps' v x → Q x H') (.ok ⟨none, .frz d⟩ ρ)) (r : Rep G c.P R d x) : Q x H :=
  h R H fps (Same.refl R) (SX.refl _ _) s x (VR.frz none s r)
/-- a new object that never changes is the answer -/
theorem done_new (s : Sim G c R H (σ ++ τ) ρ fps) {d : D} {p : Addr} {o : HO} (h : Post G W c σ τ R H (fun v ρ' R' H' fps' => ∀ x, VR G c R' H' fps' v x → Q x H') (.ok ⟨none, .frz d⟩ ρ)) (hp : H p = none) (r : ∀ R', Same R R' → R' p = some o → Rep G c.P R' d (.ref p)) (kt : ∀ ps, o ≠ .tbl ps := by intro ps z; cases z) : Q (.ref p) (upd H p o) := by
  obtain ⟨s', e, sx⟩ := s.new (o := o) hp kt
  exact h _ _ _ e sx s' _ (VR.frz none s' (r _ e upd_same))
theorem rol_frz : ∀ {ds : List D} {xs : List V}, RepL G c.P R ds xs → ROL G c.P H R (ds.map O.frz) xs []
  | [], xs, h => by simp only [RepL] at h; subst h; simp only [List.map_nil, ROL]; exact ⟨trivial, trivial⟩
  | d :: ds, xs, h => by
    simp only [RepL] at h
    obtain ⟨y, ys, rfl, h2, h3⟩ := h
    simp only [List.map_cons, ROL]
    exact ⟨y, ys, [], [], rfl, rfl, by simp only [RO]; exact ⟨h2, trivial⟩, rol_frz h3⟩
/-- a new list is the answer -/
theorem done_list (s : Sim G c R H (σ ++ τ) ρ fps) {ds : List D} {xs : List V} {p : Addr} (h : Post G W c σ τ R H (fun v ρ' R' H' fps' => ∀ x, VR G c R' H' fps' v x → Q x H') (.ok ⟨none, .own (ds.map O.frz)⟩ ρ)) (hp : H p = none) (r : RepL G c.P R ds xs) : Q (.ref p) (upd H p (.lst xs)) := by
  obtain ⟨s', sx, m, n⟩ := s.newO (o := .lst xs) hp ⟨fun _ z => (nomatch z), fun _ z => (nomatch z), fun _ z => (nomatch z)⟩
  refine h _ _ _ (Same.refl R) sx s' _ ⟨[p], ?_, by simp, fun a ha => ?_⟩
  · simp only [RO]
    exact ⟨p, xs, [], rfl, upd_same, rfl, rol_frz r⟩
  · simp only [List.mem_cons, List.not_mem_nil, or_false] at ha
    subst ha; exact ⟨m, n⟩
end
end DL

set_option Elab.async false
set_option linter.all false
set_option maxRecDepth 100000
/-! DL6: data as the library reads them. -/
namespace DL
open PySem PySem.Spec PyProof.Rows L2

theorem D.pys_eq : ∀ ds : List D, D.pys ds = ds.map D.py
  | [] => rfl
  | d :: ds => by simp only [D.pys, List.map_cons, D.pys_eq ds]
theorem D.plains_eq : ∀ ds : List D, D.plains ds = ds.all D.plain
  | [] => rfl
  | d :: ds => by simp only [D.plains, List.all_cons, D.plains_eq ds]
theorem D.shows_eq : ∀ ds : List D, D.shows ds = ds.all D.show
  | [] => rfl
  | d :: ds => by simp only [D.shows, List.all_cons, D.shows_eq ds]
mutual
theorem D.show_of_plain : ∀ d : D, d.plain = true → d.show = true
  | .non, _ => rfl
  | .bl _, _ => rfl
  | .int _, _ => rfl
  | .str _, _ => rfl
  | .tup xs, h => by simp only [D.plain] at h; simp only [D.show]; exact D.shows_of_plains xs h
  | .lst xs, h => by simp only [D.plain] at h; simp only [D.show]; exact D.shows_of_plains xs h
  | .dct _ _, h => by simp [D.plain] at h
  | .glo _, h => by simp [D.plain] at h
  | .obj _ _ _, h => by simp [D.plain] at h
  | .pen, h => by simp [D.plain] at h
  | .clo _, h => by simp [D.plain] at h
theorem D.shows_of_plains : ∀ ds : List D, D.plains ds = true → D.shows ds = true
  | [], _ => rfl
  | d :: ds, h => by
    simp only [D.plains, Bool.and_eq_true] at h
    simp only [D.shows, Bool.and_eq_true]
    exact ⟨D.show_of_plain d h.1, D.shows_of_plains ds h.2⟩
end
mutual
theorem D.py_plain : ∀ d : D, d.plain = true → d.py.plain = true
  | .non, _ => rfl
  | .bl _, _ => rfl
  | .int _, _ => rfl
  | .str _, _ => rfl
  | .tup xs, h => by simp only [D.plain] at h; simp only [D.py, PyData.plain]; exact D.pys_plain xs h
  | .lst xs, h => by simp only [D.plain] at h; simp only [D.py, PyData.plain]; exact D.pys_plain xs h
  | .dct _ _, h => by simp [D.plain] at h
  | .glo _, h => by simp [D.plain] at h
  | .obj _ _ _, h => by simp [D.plain] at h
  | .pen, h => by simp [D.plain] at h
  | .clo _, h => by simp [D.plain] at h
theorem D.pys_plain : ∀ ds : List D, D.plains ds = true → PyData.plainAll (D.pys ds) = true
  | [], _ => rfl
  | d :: ds, h => by
    simp only [D.plains, Bool.and_eq_true] at h
    simp only [D.pys, PyData.plainAll, Bool.and_eq_true]
    exact ⟨D.py_plain d h.1, D.pys_plain ds h.2⟩
end
section
variable {X : Cx} {nm : Nm} {pins : List (Addr × Obj)} {σ : L2.St} {H : Hp} {s : Shared} {P : Addr}
theorem readsAll_pairs {kvs : List (Key × V)} {vs : List (Key × Value)} (r : KV kvs vs) : ∀ {ds : List PyData} {as : List Addr}, ReadsAll s.heap (vs.map (·.2)) ds as → PyProof.V.PairsRead s.heap keyPy vs ((vs.map fun p => keyPy p.1).zip ds) as := by
  intro ds as
  induction r generalizing ds as with
  | nil => intro h; cases h; exact .nil
  | cons r t ih =>
    intro h
    rename_i p q ps qs
    cases h with
    | cons h1 h2 => exact .cons h1 (ih h2)
/-- the table of modules is of the written part: nothing of ours stands there -/
theorem sys_free (I : Inv X pins σ H s) (h : (X.K.lookup sysModules).isSome = true) {o : HO} (e : H sysModules = some o) : False := by
  obtain ⟨ob, h⟩ := Option.isSome_iff_exists.mp h
  have := (I.bs _ _ (I.ok.mod.kin _ _ h)).2
  rw [e] at this; cases this
mutual
theorem Rep.readsN (I : Inv X pins σ H s) : ∀ (d : D) (v : V) (u : Value), d.show = true → Rep (gOf X nm) P H d v → RelV v u → ∃ as, Reads s.heap u d.py as ∧ ((d.noL = true ∨ (X.K.lookup sysModules).isSome = true) → sysModules ∉ as)
  | .non, v, u, _, h, r => by
    simp only [Rep] at h; subst h
    cases r; exact ⟨_, Reads.none, fun _ => by simp⟩
  | .bl b, v, u, _, h, r => by
    simp only [Rep] at h; subst h
    cases r; exact ⟨_, Reads.bool b, fun _ => by simp⟩
  | .int i, v, u, _, h, r => by
    simp only [Rep] at h; subst h
    obtain ⟨t, rfl⟩ := r; exact ⟨_, Reads.int i t, fun _ => by simp⟩
  | .str x, v, u, _, h, r => by
    simp only [Rep] at h; subst h
    obtain ⟨t, rfl⟩ := r; exact ⟨_, Reads.str x t, fun _ => by simp⟩
  | .lst ds, v, u, hp, h, r => by
    simp only [Rep] at h
    obtain ⟨a, xs, rfl, hs, ha⟩ := h
    cases r
    obtain ⟨its, rv, ⟨o, n, ho, hc, _, hd⟩, _⟩ := I.list (SqL.of hs)
    obtain ⟨as, hr, hn⟩ := RepL.readsN I ds xs its (by simpa only [D.show] using hp) ha rv
    simp only [D.py]
    refine ⟨_, Reads.list ho hc hd hr, fun z => ?_⟩
    rcases z with z | z
    · simp [D.noL] at z
    · simp only [List.mem_cons, not_or]
      exact ⟨fun e => sys_free I z (e ▸ hs), hn (.inr z)⟩
  | .tup ds, v, u, hp, h, r => by
    simp only [Rep] at h
    obtain ⟨a, xs, rfl, hs, ha⟩ := h
    cases r
    obtain ⟨its, rv, ⟨o, ho, hc, n, hd⟩, _⟩ := I.tuple (SqT.of hs)
    obtain ⟨as, hr, hn⟩ := RepL.readsN I ds xs its (by simpa only [D.show] using hp) ha rv
    simp only [D.py]
    exact ⟨_, Reads.tuple ho hc hd hr, fun z => hn (z.imp_left fun z => by simpa only [D.noL] using z)⟩
  | .dct ks ds, v, u, hp, h, r => by
    simp only [Rep] at h
    obtain ⟨a, kvs, rfl, np, hs, hk, ha⟩ := h
    cases r
    simp only [D.show, Bool.and_eq_true] at hp
    obtain ⟨hz, hsys, vs, kv, hd⟩ := I.hok a _ hs
    have rv : Vals (kvs.map (·.2)) (vs.map (·.2)) := by
      clear hd hs hk ha hz
      induction kv with
      | nil => exact .nil
      | cons r t ih => exact .cons r.2 ih
    obtain ⟨as, hr, hn⟩ := RepL.readsN I ds _ _ hp.2 ha rv
    have pr := readsAll_pairs kv hr
    have ek : vs.map (fun p => keyPy p.1) = ks.map keyPy := by
      rw [← hk]
      clear hd hs hk ha hz pr rv hr
      induction kv with
      | nil => rfl
      | cons r t ih => simp only [List.map_cons, ih, r.1]
    rw [ek] at pr
    simp only [D.py]
    refine ⟨_, PyProof.V.reads_dictOf (knd := mixKind X.prog X.w) (fun k key hkk => ?_) hd pr, fun z => ?_⟩
    rotate_left
    · have q := hn (z.imp_left fun z => by simpa only [D.noL] using z)
      simp only [List.mem_cons, not_or]
      exact ⟨fun e => (beq_eq_false_iff_ne.mp hsys) e.symm, q⟩
    rcases keyIs_shape hkk with ⟨i, t, rfl, rfl⟩ | ⟨x, t, rfl, rfl⟩
    · exact Reads.int i t
    · exact Reads.str x t
  | .glo _, _, _, hp, _, _ => by simp [D.show] at hp
  | .obj _ _ _, _, _, hp, _, _ => by simp [D.show] at hp
  | .pen, _, _, hp, _, _ => by simp [D.show] at hp
  | .clo _, _, _, hp, _, _ => by simp [D.show] at hp
theorem RepL.readsN (I : Inv X pins σ H s) : ∀ (ds : List D) (vs : List V) (us : List Value), D.shows ds = true → RepL (gOf X nm) P H ds vs → Vals vs us → ∃ as, ReadsAll s.heap us (D.pys ds) as ∧ ((D.noLs ds = true ∨ (X.K.lookup sysModules).isSome = true) → sysModules ∉ as)
  | [], vs, us, _, h, r => by
    simp only [RepL] at h; subst h
    cases r; exact ⟨_, ReadsAll.nil, fun _ => by simp⟩
  | d :: ds, vs, us, hp, h, r => by
    simp only [RepL] at h
    obtain ⟨y, ys, rfl, h2, h3⟩ := h
    simp only [D.shows, Bool.and_eq_true] at hp
    cases r with
    | cons r1 r2 =>
      obtain ⟨as, q1, n1⟩ := Rep.readsN I d _ _ hp.1 h2 r1
      obtain ⟨bs, q2, n2⟩ := RepL.readsN I ds _ _ hp.2 h3 r2
      simp only [D.pys]
      refine ⟨_, ReadsAll.cons q1 q2, fun z => ?_⟩
      simp only [List.mem_append, not_or]
      rcases z with z | z
      · simp only [D.noLs, Bool.and_eq_true] at z
        exact ⟨n1 (.inl z.1), n2 (.inl z.2)⟩
      · exact ⟨n1 (.inr z), n2 (.inr z)⟩
end
theorem Rep.reads (I : Inv X pins σ H s) (d : D) (v : V) (u : Value) (p : d.show = true) (h : Rep (gOf X nm) P H d v) (r : RelV v u) : ∃ as, Reads s.heap u d.py as :=
  let ⟨as, q, _⟩ := Rep.readsN I d v u p h r
  ⟨as, q⟩
theorem RepL.reads (I : Inv X pins σ H s) (ds : List D) (vs : List V) (us : List Value) (p : D.shows ds = true) (h : RepL (gOf X nm) P H ds vs) (r : Vals vs us) : ∃ as, ReadsAll s.heap us (D.pys ds) as :=
  let ⟨as, q, _⟩ := RepL.readsN I ds vs us p h r
  ⟨as, q⟩
end
theorem hasDictAll_false : ∀ ds : List D, (∀ d ∈ ds, d.py.hasDict = false) → PyData.hasDictAll (D.pys ds) = false
  | [], _ => by simp only [D.pys, PyData.hasDictAll]
  | d :: ds, h => by
    simp only [D.pys, PyData.hasDictAll, Bool.or_eq_false_iff]
    exact ⟨h d (by simp), hasDictAll_false ds fun e he => h e (by simp [he])⟩
mutual
theorem D.noDict : ∀ d : D, d.plain = true → d.py.hasDict = false
  | .non, _ => by simp only [D.py, PyData.hasDict]
  | .bl _, _ => by simp only [D.py, PyData.hasDict]
  | .int _, _ => by simp only [D.py, PyData.hasDict]
  | .str _, _ => by simp only [D.py, PyData.hasDict]
  | .tup xs, h => by simp only [D.plain] at h; simp only [D.py, PyData.hasDict]; exact D.noDicts xs h
  | .lst xs, h => by simp only [D.plain] at h; simp only [D.py, PyData.hasDict]; exact D.noDicts xs h
  | .dct _ _, h => by simp [D.plain] at h
  | .glo _, h => by simp [D.plain] at h
  | .obj _ _ _, h => by simp [D.plain] at h
  | .pen, h => by simp [D.plain] at h
  | .clo _, h => by simp [D.plain] at h
theorem D.noDicts : ∀ ds : List D, D.plains ds = true → PyData.hasDictAll (D.pys ds) = false
  | [], _ => by simp only [D.pys, PyData.hasDictAll]
  | d :: ds, h => by
    simp only [D.plains, Bool.and_eq_true] at h
    simp only [D.pys, PyData.hasDictAll, Bool.or_eq_false_iff]
    exact ⟨D.noDict d h.1, D.noDicts ds h.2⟩
end
end DL

set_option Elab.async false
set_option linter.all false
set_option maxRecDepth 100000
/-! DL7: operators, comparisons. -/
namespace DL
open PySem PySem.Spec PyProof.Rows L2
theorem tuple_mulS (l : Addr) (items : Array Value) (n : Nat) (dd : Option Addr) (sl : Array (Option Value)) (x : Int) (u : Tok) (c0 : (decide (x < -(2 ^ 63)) || decide (x ≥ 2 ^ 63)) = false) (c1 : (items.isEmpty || x == 1) = true) :
    Meets (Builtin.«tuple.__mul__» ⟨[.ref l, .int x u], []⟩) (fun _ R s => s.heap.get? l = some { cls := .type "tuple", dict := dd, data := .seq items n, slots := sl } ∧
      R (.ok (.ret (Value.ref l))) s) :=
  .of_wp fun prog w A R s h => by
    obtain ⟨hp, g, d, tk, os⟩ := s
    obtain ⟨hl, h⟩ := h
    have f1 := AutoSeq1.idx_int
    wp_walk using wpAny_loadPart' hl
    repeat (first
      | (refine wpAny_ite_false (decide_eq_false (by rw [c0]; exact Bool.false_ne_true)) ?_; wp_walk using wpAny_loadPart' hl)
      | (refine wpAny_ite_true (decide_eq_true c1) ?_; wp_walk using wpAny_loadPart' hl))
    exact ⟨_, rfl, h⟩
theorem tuple_mul0 (l : Addr) (items : Array Value) (n : Nat) (dd : Option Addr) (sl : Array (Option Value)) (x : Int) (u : Tok) (c0 : (decide (x < -(2 ^ 63)) || decide (x ≥ 2 ^ 63)) = false) (c1 : (items.isEmpty || x == 1) = false) (c2 : (decide (x ≤ 0) || items.isEmpty) = true) :
    Meets (Builtin.«tuple.__mul__» ⟨[.ref l, .int x u], []⟩) (fun _ R s => s.heap.get? l = some { cls := .type "tuple", dict := dd, data := .seq items n, slots := sl } ∧
      R (.ok (.ret (Value.ref s.heap.objs.size))) { s with heap := s.heap.push { cls := Value.type "tuple", data := Data.seq #[] }, toks := s.toks }) :=
  .of_wp fun prog w A R s h => by
    obtain ⟨hp, g, d, tk, os⟩ := s
    obtain ⟨hl, h⟩ := h
    have f1 := AutoSeq1.idx_int
    wp_walk using wpAny_loadPart' hl
    repeat (first
      | (refine wpAny_ite_false (decide_eq_false (by rw [c0]; exact Bool.false_ne_true)) ?_; wp_walk using wpAny_loadPart' hl)
      | (refine wpAny_ite_false (decide_eq_false (by rw [c1]; exact Bool.false_ne_true)) ?_; wp_walk using wpAny_loadPart' hl)
      | (refine wpAny_ite_true (decide_eq_true c2) ?_; wp_walk using wpAny_loadPart' hl))
    exact ⟨_, rfl, h⟩

def rRepTA (K : PySem.W.Frag) : R2 := fun x y H Q => ∃ l k xs, x = .ref l ∧ y = .int k ∧ SqT K H l xs ∧ -(2 ^ 62) < k ∧ k < 2 ^ 62 ∧ ((xs.isEmpty || k == 1) = true → Q (.ref l) H) ∧ ((xs.isEmpty || k == 1) = false → k ≤ 0 → ∀ p, H p = none → Q (.ref p) (upd H p (.tup []))) ∧
  ((xs.isEmpty || k == 1) = false → ¬ k ≤ 0 → k ≤ 1000 ∧ xs.length ≤ 1000 ∧ ∀ p, H p = none → Q (.ref p) (upd H p (.tup (List.replicate k.toNat xs).flatten)))
theorem op_repTA {X : Cx} : OpR X (binaryOp .Mult) (rRepTA X.K) := by
  intro pins s σ H x y v u Q I rx ry h
  obtain ⟨l, k, xs, rfl, rfl, hT, k1, k2, q1, q2, q3⟩ := h
  have ry0 := ry
  have rx0 := rx
  cases rx
  obtain ⟨t, rfl⟩ := ry
  obtain ⟨its, r, ⟨⟨cls, dd, data, sl⟩, ho, hc, n, hd⟩, hs⟩ := I.tuple hT
  simp only at hc hd
  subst hc hd
  have hle : its.length = xs.length := r.length.symm
  have he : its.toArray.isEmpty = xs.isEmpty := by
    cases xs with
    | nil => cases its with
      | nil => rfl
      | cons _ _ => simp at hle
    | cons _ _ => cases its with
      | nil => simp at hle
      | cons _ _ => rfl
  have c0 : (decide (k < -(2 ^ 63)) || decide (k ≥ 2 ^ 63)) = false := by
    rw [decide_eq_false (by omega), decide_eq_false (by omega)] <;> rfl
  cases c1 : (xs.isEmpty || k == 1) with
  | true =>
    have c1' : (its.toArray.isEmpty || k == 1) = true := by rw [he]; exact c1
    refine wpAny_binaryOp_repeat_ref (T := "tuple") (U := "int") (by decide) ⟨_, ho, rfl⟩ (fun s' => typeIs_int s' k t) noFill_tuple_mul F.fills_int_mul F.slot_int_rmul repeat_tuple F.slot_int_index.lookup
      (call_meets F.slot_int_rmul (typeIs_int s k t) F.entry_int_rmul (F.args_int_rmul_2 _ _) (int_rmul_tuple k t l its.toArray n dd sl)
        ⟨ho, rfl, ⟨_, ho, rfl⟩, call_meets F.slot_tuple_mul ⟨_, ho, rfl⟩ F.entry_tuple_mul (F.args_tuple_mul_2 _ _) (tuple_mulS l its.toArray n dd sl k t c0 c1') ⟨ho, ?_⟩⟩)
    exact ⟨.ref l, H, I, rfl, q1 c1⟩
  | false =>
    have c1' : (its.toArray.isEmpty || k == 1) = false := by rw [he]; exact c1
    by_cases kz : k ≤ 0
    · have c2 : (decide (k ≤ 0) || its.toArray.isEmpty) = true := by rw [decide_eq_true kz]; rfl
      refine wpAny_binaryOp_repeat_ref (T := "tuple") (U := "int") (by decide) ⟨_, ho, rfl⟩ (fun s' => typeIs_int s' k t) noFill_tuple_mul F.fills_int_mul F.slot_int_rmul repeat_tuple F.slot_int_index.lookup
        (call_meets F.slot_int_rmul (typeIs_int s k t) F.entry_int_rmul (F.args_int_rmul_2 _ _) (int_rmul_tuple k t l its.toArray n dd sl)
          ⟨ho, rfl, ⟨_, ho, rfl⟩, call_meets F.slot_tuple_mul ⟨_, ho, rfl⟩ F.entry_tuple_mul (F.args_tuple_mul_2 _ _) (tuple_mul0 l its.toArray n dd sl k t c0 c1' c2) ⟨ho, ?_⟩⟩)
      refine ⟨.ref s.heap.objs.size, _, I.laid (t' := s.toks) (o := .tup []) (fun b ob q => Heap.get?_push_of_some _ q) (Nat.le_refl _) ?_, rfl, q2 c1 kz _ (I.hok.fresh (Nat.le_refl _))⟩
      exact ⟨Nat.zero_le _, [], .nil, IsTup.new _ _⟩
    · obtain ⟨h1, h2, q⟩ := q3 c1 kz
      have c1a := c1
      rw [Bool.or_eq_false_iff] at c1a
      have ne1 : k ≠ 1 := fun e => by rw [e] at c1a; simp at c1a
      exact op_repT pins s σ H _ _ _ _ Q I rx0 ry0 ⟨l, k, xs, rfl, rfl, hT, fun e => by rw [e] at c1a; simp at c1a, by omega, h1, h2, q⟩

theorem lineN_eq : sizeLine = lineN := by rw [sizeLine_eq]; rfl
/-- the answer's continuation -/
abbrev Fin (G : Gx) (W : WX) (c : Cf) (σ τ : L2.St) (R H : Hp) (Q : VK) (r : Res Env Val) : Prop := Post G W c σ τ R H (fun v ρ' R' H' fps' => ∀ x, VR G c R' H' fps' v x → Q x H') r
def rBin (G : Gx) (op : Operator) : R2 := fun x y H Q => ∃ W c R σ τ ρ fps dx dy o, Sim G c R H (σ ++ τ) ρ fps ∧ Rep G c.P R dx x ∧ Rep G c.P R dy y ∧ binD op dx dy = some o ∧ Fin G W c σ τ R H Q (.ok ⟨none, o⟩ ρ)
theorem intOk_lt {i : Int} (h : intOk i = true) : i.natAbs < 2 ^ 8000 := of_decide_eq_true h
theorem small_lt {i : Int} (h : small64 i = true) : i.natAbs < 2 ^ 64 := of_decide_eq_true h
theorem RepL.flat {G : Gx} {P : Addr} {H : Hp} {ds : List D} {xs : List V} (h : RepL G P H ds xs) : ∀ n, RepL G P H (rep ds n) (List.replicate n xs).flatten
  | 0 => by unfold rep; simpa using RepL.nil
  | n + 1 => by
    have e : rep ds (n + 1) = ds ++ rep ds n := by unfold rep; rw [List.replicate_succ, List.flatten_cons]
    rw [e, List.replicate_succ, List.flatten_cons]
    exact h.append (h.flat n)
section
variable {X : Cx} {nm : Nm}
theorem op_bin {op : Operator} : OpR X (binaryOp op) (rBin (gOf X nm) op) := by
  intro pins s σ0 H x y v u Q I rx ry h
  obtain ⟨W, c, R, σ, τ, ρ, fps, dx, dy, o, S, hx, hy, hb, k⟩ := h
  unfold binD at hb
  split at hb
  · -- ints +
    simp only [Rep] at hx hy; cases hb
    exact op_add pins s σ0 H x y v u Q I rx ry ⟨_, _, hx, hy, done_frz S k (by simp only [Rep])⟩
  · -- texts +
    simp only [Rep] at hx hy
    split at hb
    · rename_i hl
      cases hb
      exact op_add_str pins s σ0 H x y v u Q I rx ry ⟨_, _, hx, hy, by rw [lineN_eq]; exact hl, done_frz S k (by simp only [Rep])⟩
    · cases hb
  · -- tuples +
    rename_i xs ys
    simp only [Rep] at hx hy
    obtain ⟨a, us, rfl, ha, hus⟩ := hx
    obtain ⟨b, ws, rfl, hb', hws⟩ := hy
    split at hb
    · rename_i hl
      cases hb
      refine op_catA pins s σ0 H _ _ v u Q I rx ry ⟨a, b, us, ws, rfl, rfl, Same.sqT S.same ha, Same.sqT S.same hb', by rw [lineN_eq, ← hus.length, ← hws.length]; exact hl, fun e => ?_, fun ne e => ?_, fun n1 n2 p hp => ?_⟩
      · subst e
        have q := hus.length
        have q2 : xs = [] := List.eq_nil_of_length_eq_zero (by simpa using q)
        subst q2
        exact done_frz S k (by simp only [Rep]; exact ⟨b, ws, rfl, hb', hws⟩)
      · subst e
        have q := hws.length
        have q2 : ys = [] := List.eq_nil_of_length_eq_zero (by simpa using q)
        subst q2
        exact done_frz S k (by simp only [Rep]; exact ⟨a, us, rfl, ha, by simpa using hus⟩)
      · exact done_new S k hp fun R' e hR => by simp only [Rep]; exact ⟨p, _, rfl, hR, (hus.mono e).append (hws.mono e)⟩
    · cases hb
  · -- lists +
    simp only [Rep] at hx hy
    obtain ⟨a, us, rfl, ha, hus⟩ := hx
    obtain ⟨b, ws, rfl, hb', hws⟩ := hy
    split at hb
    · rename_i hl
      cases hb
      exact op_cat pins s σ0 H _ _ v u Q I rx ry ⟨a, b, us, ws, rfl, rfl, S.same _ _ ha, S.same _ _ hb', by rw [lineN_eq, ← hus.length, ← hws.length]; exact hl, fun p hp => done_list S k hp (hus.append hws)⟩
    · cases hb
  · simp only [Rep] at hx hy; cases hb
    exact op_sub pins s σ0 H x y v u Q I rx ry ⟨_, _, hx, hy, done_frz S k (by simp only [Rep])⟩
  · -- ints *
    simp only [Rep] at hx hy
    split at hb
    · rename_i hl
      cases hb
      rw [Bool.or_eq_true, Bool.or_eq_true, Bool.and_eq_true] at hl
      rcases hl with (hl | hl) | ⟨h1, h2⟩
      · exact op_mul pins s σ0 H x y v u Q I rx ry ⟨_, _, hx, hy, .inl (by have := small_lt hl; omega), done_frz S k (by simp only [Rep])⟩
      · exact op_mul pins s σ0 H x y v u Q I rx ry ⟨_, _, hx, hy, .inr (by have := small_lt hl; omega), done_frz S k (by simp only [Rep])⟩
      · exact op_mulW pins s σ0 H x y v u Q I rx ry ⟨_, _, hx, hy, wide_mul (intOk_lt h1) (intOk_lt h2) (by decide) (by decide) (by decide), done_frz S k (by simp only [Rep])⟩
    · cases hb
  · -- list * int
    simp only [Rep] at hx hy
    obtain ⟨a, us, rfl, ha, hus⟩ := hx
    split at hb
    · rename_i hl
      cases hb
      exact op_rep pins s σ0 H _ y v u Q I rx ry ⟨a, _, us, rfl, hy, S.same _ _ ha, by omega, by omega, by rw [lineN_eq, ← hus.length]; exact hl.2.2, fun p hp => done_list S k hp (hus.flat _)⟩
    · cases hb
  · -- tuple * int
    rename_i xs k0
    simp only [Rep] at hx hy
    obtain ⟨a, us, rfl, ha, hus⟩ := hx
    have hempty : us.isEmpty = xs.isEmpty := by
      have q := hus.length
      cases us <;> cases xs <;> first | rfl | simp at q
    split at hb
    · rename_i hl
      have hl : -(2 ^ 62) < k0 ∧ k0 < 2 ^ 62 := hl
      refine op_repTA pins s σ0 H _ y v u Q I rx ry ⟨a, _, us, rfl, hy, Same.sqT S.same ha, hl.1, hl.2, fun c1 => ?_, fun c1 kz p hp => ?_, fun c1 kz => ?_⟩
      · rw [hempty] at c1
        rw [if_pos c1] at hb
        cases hb
        exact done_frz S k (by simp only [Rep]; exact ⟨a, us, rfl, ha, hus⟩)
      · rw [hempty] at c1
        rw [if_neg (by rw [c1]; exact Bool.false_ne_true), if_pos kz] at hb
        cases hb
        exact done_new S k hp fun R' e hR => by simp only [Rep]; exact ⟨p, _, rfl, hR, RepL.nil⟩
      · rw [hempty] at c1
        rw [if_neg (by rw [c1]; exact Bool.false_ne_true), if_neg kz] at hb
        split at hb
        · rename_i hz
          cases hb
          refine ⟨hz.1, by rw [← hus.length]; exact hz.2, fun p hp => ?_⟩
          exact done_new S k hp fun R' e hR => by simp only [Rep]; exact ⟨p, _, rfl, hR, (hus.flat _).mono e⟩
        · cases hb
    · cases hb
  · -- //
    simp only [Rep] at hx hy
    split at hb
    · rename_i hl
      cases hb
      exact op_fdivN pins s σ0 H x y v u Q I rx ry ⟨_, _, hx, hy, ⟨hl.1, hl.2⟩, done_frz S k (by simp only [Rep])⟩
    · split at hb
      · rename_i hl
        cases hb
        exact op_fdivW pins s σ0 H x y v u Q I rx ry ⟨_, _, hx, hy, wide_div hl.1 (intOk_lt hl.2) (by decide) (by decide), done_frz S k (by simp only [Rep])⟩
      · cases hb
  · simp only [Rep] at hx hy
    split at hb
    · rename_i hl
      cases hb
      exact op_modN pins s σ0 H x y v u Q I rx ry ⟨_, _, hx, hy, hl, done_frz S k (by simp only [Rep])⟩
    · cases hb
  · simp only [Rep] at hx hy
    split at hb
    · rename_i hl
      cases hb
      exact op_pow pins s σ0 H x y v u Q I rx ry ⟨_, _, hx, hy, ⟨hl.1, hl.2.1, small_lt hl.2.2⟩, done_frz S k (by simp only [Rep])⟩
    · cases hb
  · simp only [Rep] at hx hy
    split at hb
    · rename_i hl
      cases hb
      exact op_shl pins s σ0 H x y v u Q I rx ry ⟨_, _, hx, hy, ⟨hl.1, hl.2.1, small_lt hl.2.2⟩, done_frz S k (by simp only [Rep])⟩
    · cases hb
  · simp only [Rep] at hx hy
    split at hb
    · rename_i hl
      cases hb
      exact op_shr pins s σ0 H x y v u Q I rx ry ⟨_, _, hx, hy, hl, done_frz S k (by simp only [Rep])⟩
    · cases hb
  · simp only [Rep] at hx hy; cases hb
    exact op_and pins s σ0 H x y v u Q I rx ry ⟨_, _, hx, hy, done_frz S k (by simp only [Rep])⟩
  · simp only [Rep] at hx hy; cases hb
    exact op_or pins s σ0 H x y v u Q I rx ry ⟨_, _, hx, hy, done_frz S k (by simp only [Rep])⟩
  · simp only [Rep] at hx hy; cases hb
    exact op_xor pins s σ0 H x y v u Q I rx ry ⟨_, _, hx, hy, done_frz S k (by simp only [Rep])⟩
  · cases hb

/-! ### comparisons -/
def rCmp (G : Gx) (op : CmpOp) : R2 := fun x y H Q => ∃ P dx dy b, Rep G P H dx x ∧ Rep G P H dy y ∧ cmpD op dx dy = some b ∧ Q (.bl b) H
theorem okEq_of {d : D} (h : okEq d = true) : d.plain = true ∧ d.py.depth ≤ 40 := by
  unfold okEq at h
  rw [Bool.and_eq_true] at h
  exact ⟨h.1, of_decide_eq_true h.2⟩
theorem deep_of {d : D} (h : okEq d = true) : d.py.depth ≤ 40 := (okEq_of h).2
theorem depth_tup (xs : List D) : (D.tup xs).py.depth = PyData.depthAll (D.pys xs) + 1 := by simp only [D.py, PyData.depth]
theorem depth_lst (xs : List D) : (D.lst xs).py.depth = PyData.depthAll (D.pys xs) + 1 := by simp only [D.py, PyData.depth]
theorem okEq.reads {pins : List (Addr × Obj)} {σ : L2.St} {H : Hp} {s : Shared} {P : Addr} {d : D} {x : V} {v : Value} (I : Inv X pins σ H s) (h : okEq d = true) (r : Rep (gOf X nm) P H d x) (rx : RelV x v) : ∃ as, Reads s.heap v d.py as :=
  Rep.reads I d x v (D.show_of_plain d (okEq_of h).1) r rx
theorem any_pys (x : PyData) (ys : List D) : (D.pys ys).any (fun y => PyData.eqv y x) = ys.any fun y => PyData.eqv y.py x := by
  rw [D.pys_eq, List.any_map]; rfl
theorem op_cmp {op : CmpOp} (hu : X.A.units + 64 < cLine) : OpR X (compareOp op) (rCmp (gOf X nm) op) := by
  intro pins s σ H x y v u Q I rx ry h
  obtain ⟨P, dx, dy, b, hx, hy, hb, k⟩ := h
  unfold cmpD at hb
  split at hb
  · split at hb
    · rename_i hl
      rw [Bool.and_eq_true] at hl
      cases hb
      obtain ⟨as, r1⟩ := okEq.reads I hl.1 hx rx
      obtain ⟨bs, r2⟩ := okEq.reads I hl.2 hy ry
      have := deep_of hl.1
      exact SeqAt.eq_plain r1 r2 (D.py_plain _ (okEq_of hl.1).1) (D.py_plain _ (okEq_of hl.2).1) (by omega) ⟨.bl _, H, I, rfl, k⟩
    · cases hb
  · split at hb
    · rename_i hl
      rw [Bool.and_eq_true] at hl
      cases hb
      obtain ⟨as, r1⟩ := okEq.reads I hl.1 hx rx
      obtain ⟨bs, r2⟩ := okEq.reads I hl.2 hy ry
      have := deep_of hl.1
      exact SeqAt.ne_plain r1 r2 (D.py_plain _ (okEq_of hl.1).1) (D.py_plain _ (okEq_of hl.2).1) (by omega) ⟨.bl _, H, I, rfl, k⟩
    · cases hb
  · simp only [Rep] at hx hy; cases hb
    exact op_lt pins s σ H x y v u Q I rx ry ⟨_, _, hx, hy, k⟩
  · simp only [Rep] at hx hy; cases hb
    exact op_le pins s σ H x y v u Q I rx ry ⟨_, _, hx, hy, k⟩
  · simp only [Rep] at hx hy; cases hb
    exact op_gt pins s σ H x y v u Q I rx ry ⟨_, _, hx, hy, k⟩
  · simp only [Rep] at hx hy; cases hb
    exact op_ge pins s σ H x y v u Q I rx ry ⟨_, _, hx, hy, k⟩
  · split at hb
    · rename_i hl
      simp only [Bool.and_eq_true] at hl
      cases hb
      obtain ⟨as, r1⟩ := okEq.reads I hl.1.1.1 hx rx
      obtain ⟨bs, r2⟩ := okEq.reads I hl.1.1.2 hy ry
      have := deep_of hl.1.1.1
      exact W.lt_data r1 r2 hl.1.2 (fun e => by
        have q := hl.2
        have z := (okEq_of hl.1.1.1).1
        cases dx <;> simp [D.py] at e <;> simp [isNon] at q <;> simp [D.plain] at z) (by omega) ⟨.bl _, H, I, rfl, k⟩
    · cases hb
  · simp only [Rep] at hx hy; cases hb
    exact op_is_bl pins s σ H x y v u Q I rx ry ⟨_, _, hx, hy, k⟩
  · simp only [Rep] at hx hy; cases hb
    exact op_isnot_bl pins s σ H x y v u Q I rx ry ⟨_, _, hx, hy, k⟩
  · split at hb
    · rename_i hl
      rw [Bool.and_eq_true] at hl
      cases hb
      obtain ⟨as, r1⟩ := okEq.reads I hl.1 hx rx
      obtain ⟨bs, r2⟩ := okEq.reads I hl.2 hy ry
      have h1 := deep_of hl.1
      have hp := D.py_plain _ (okEq_of hl.2).1
      simp only [D.py, PyData.plain] at hp r2
      refine SeqAt.in_tuple_data r2 r1 hp (D.py_plain _ (okEq_of hl.1).1) (by omega) ?_
      rw [any_pys]
      exact ⟨.bl _, H, I, rfl, k⟩
    · cases hb
  · split at hb
    · rename_i hl
      rw [Bool.and_eq_true] at hl
      cases hb
      obtain ⟨as, r1⟩ := okEq.reads I hl.1 hx rx
      obtain ⟨bs, r2⟩ := okEq.reads I hl.2 hy ry
      have h1 := deep_of hl.1
      have hp := D.py_plain _ (okEq_of hl.2).1
      simp only [D.py, PyData.plain] at hp r2
      refine SeqAt.in_list_data r2 r1 hp (D.py_plain _ (okEq_of hl.1).1) (by omega) ?_
      rw [any_pys]
      exact ⟨.bl _, H, I, rfl, k⟩
    · cases hb
  · split at hb
    · rename_i hl
      rw [Bool.and_eq_true] at hl
      cases hb
      obtain ⟨as, r1⟩ := okEq.reads I hl.1 hx rx
      obtain ⟨bs, r2⟩ := okEq.reads I hl.2 hy ry
      have h1 := deep_of hl.1
      have hp := D.py_plain _ (okEq_of hl.2).1
      simp only [D.py, PyData.plain] at hp r2
      refine SeqAt.notIn_tuple_data r2 r1 hp (D.py_plain _ (okEq_of hl.1).1) (by omega) ?_
      rw [any_pys]
      exact ⟨.bl _, H, I, rfl, k⟩
    · cases hb
  · split at hb
    · rename_i hl
      rw [Bool.and_eq_true] at hl
      cases hb
      obtain ⟨as, r1⟩ := okEq.reads I hl.1 hx rx
      obtain ⟨bs, r2⟩ := okEq.reads I hl.2 hy ry
      have h1 := deep_of hl.1
      have hp := D.py_plain _ (okEq_of hl.2).1
      simp only [D.py, PyData.plain] at hp r2
      refine SeqAt.notIn_list_data r2 r1 hp (D.py_plain _ (okEq_of hl.1).1) (by omega) ?_
      rw [any_pys]
      exact ⟨.bl _, H, I, rfl, k⟩
    · cases hb
  · cases hb
end
end DL

set_option Elab.async false
set_option linter.all false
set_option maxRecDepth 100000
/-! DL8: built-ins. -/
namespace DL
open PySem PySem.Spec PyProof.Rows L2

structure Rm (X : Cx) (L : Nat) : Prop where
  room : Room L X.A
  gd : X.A.guards = some []
  calm : X.calm = true
/-- built-ins on what is read; on what goes on as data -/
def rBi (G : Gx) (b : B) : List V → Hp → VK → Prop := fun xs H Q => ∃ W c R σ τ ρ fps ds o, Sim G c R H (σ ++ τ) ρ fps ∧ RepL G c.P H ds xs ∧ biD b ds = some o ∧ Fin G W c σ τ R H Q (.ok ⟨none, o⟩ ρ)
def rBe (G : Gx) (b : B) : List V → Hp → VK → Prop := fun xs H Q => ∃ W c R σ τ ρ fps ds o, Sim G c R H (σ ++ τ) ρ fps ∧ RepL G c.P R ds xs ∧ biE b ds = some o ∧ Fin G W c σ τ R H Q (.ok ⟨none, o⟩ ρ)

theorem RepL.one {G : Gx} {P : Addr} {H : Hp} {d : D} {xs : List V} (h : RepL G P H [d] xs) : ∃ x, xs = [x] ∧ Rep G P H d x := by
  simp only [RepL] at h
  obtain ⟨y, ys, rfl, h2, rfl⟩ := h
  exact ⟨y, rfl, h2⟩
theorem RepL.two {G : Gx} {P : Addr} {H : Hp} {d e : D} {xs : List V} (h : RepL G P H [d, e] xs) : ∃ x y, xs = [x, y] ∧ Rep G P H d x ∧ Rep G P H e y := by
  simp only [RepL] at h
  obtain ⟨y, ys, rfl, h2, z, zs, rfl, h3, rfl⟩ := h
  exact ⟨y, z, rfl, h2, h3⟩
theorem intsOf_eq : ∀ {xs : List D} {ns : List Int}, intsOf xs = some ns → xs = ns.map D.int
  | [], ns, h => by simp [intsOf] at h; subst h; rfl
  | d :: ds, ns, h => by
    cases d <;> simp only [intsOf, Option.map_eq_some_iff] at h
    case int i =>
      obtain ⟨a, h1, rfl⟩ := h
      rw [intsOf_eq h1]; rfl
    all_goals cases h
theorem repL_ints {G : Gx} {P : Addr} {H : Hp} : ∀ {ns : List Int} {xs : List V}, RepL G P H (ns.map D.int) xs → xs = ns.map V.int
  | [], xs, h => by simp only [List.map_nil, RepL] at h; rw [h]; rfl
  | n :: ns, xs, h => by
    simp only [List.map_cons, RepL, Rep] at h
    obtain ⟨y, ys, rfl, rfl, h3⟩ := h
    rw [repL_ints h3]; rfl
theorem ints_repL {G : Gx} {P : Addr} {H : Hp} : ∀ (ns : List Int), RepL G P H (ns.map D.int) (ns.map V.int)
  | [] => RepL.nil
  | n :: ns => RepL.cons (by simp only [Rep]) (ints_repL ns)
theorem rng_eq1 {ds xs : List D} (h : rngD false ds = some xs) : ∃ j : Int, ds = [.int j] ∧ -(2 ^ 62) ≤ j ∧ j < 2 ^ 62 ∧ xs = (List.range j.toNat).map fun (k : Nat) => D.int (0 + k) := by
  unfold rngD at h
  split at h
  · split at h
    · rename_i hl
      cases h
      exact ⟨_, rfl, hl.1, hl.2, rfl⟩
    · cases h
  · rename_i q; exact (nomatch q)
  · cases h
theorem rng_eq2 {ds xs : List D} (h : rngD true ds = some xs) : ∃ i j : Int, ds = [.int i, .int j] ∧ (-(2 ^ 62) ≤ i ∧ i < 2 ^ 62 ∧ -(2 ^ 62) ≤ j ∧ j < 2 ^ 62) ∧ xs = (List.range (j - i).toNat).map fun (k : Nat) => D.int (i + k) := by
  unfold rngD at h
  split at h
  · rename_i q; exact (nomatch q)
  · split at h
    · rename_i hl
      cases h
      exact ⟨_, _, rfl, hl, rfl⟩
    · cases h
  · cases h
section
variable {X : Cx} {nm : Nm} {L : Nat}
theorem call_lenD : CallR X (.builtin "len") (rBi (gOf X nm) .len) := by
  intro pins s σ0 H xs us Q I r h
  obtain ⟨W, c, R, σ, τ, ρ, fps, ds, o, S, hx, hb, k⟩ := h
  change lenD ds = some o at hb
  unfold lenD at hb
  split at hb
  · obtain ⟨x, rfl, h1⟩ := hx.one
    simp only [Rep] at h1
    split at hb
    · rename_i hl
      cases hb
      exact call_len_str pins s σ0 H _ us Q I r ⟨_, by rw [h1], by rw [lineN_eq]; exact hl, done_frz S k (by simp only [Rep])⟩
    · cases hb
  · obtain ⟨x, rfl, h1⟩ := hx.one
    simp only [Rep] at h1
    obtain ⟨a, ys, rfl, ha, hys⟩ := h1
    cases hb
    exact call_len_seq pins s σ0 H _ us Q I r ⟨a, ys, rfl, .inr (SqT.of ha), by rw [← hys.length]; exact done_frz S k (by simp only [Rep])⟩
  · obtain ⟨x, rfl, h1⟩ := hx.one
    simp only [Rep] at h1
    obtain ⟨a, ys, rfl, ha, hys⟩ := h1
    cases hb
    exact call_len_seq pins s σ0 H _ us Q I r ⟨a, ys, rfl, .inl (SqL.of ha), by rw [← hys.length]; exact done_frz S k (by simp only [Rep])⟩
  · cases hb
theorem call_sumD (m : Rm X L) : CallR X (.builtin "sum") (rBi (gOf X nm) .sum) := by
  intro pins s σ0 H xs us Q I r h
  obtain ⟨W, c, R, σ, τ, ρ, fps, ds, o, S, hx, hb, k⟩ := h
  change sumD ds = some o at hb
  unfold sumD at hb
  split at hb
  · rename_i ys
    obtain ⟨x, rfl, h1⟩ := hx.one
    simp only [Rep] at h1
    obtain ⟨a, zs, rfl, ha, hzs⟩ := h1
    rw [Option.map_eq_some_iff] at hb
    obtain ⟨ns, e, rfl⟩ := hb
    rw [intsOf_eq e] at hzs
    have ez := repL_ints hzs
    subst ez
    exact cr_sum m.calm pins s σ0 H _ us Q I r ⟨a, ns, rfl, SqL.of ha, done_frz S k (by simp only [Rep])⟩
  · cases hb
theorem truth_py {d : D} {b : Bool} (h : truthD d = some b) (p : d.plain = true) : d.py.truthy = b := by
  cases d with
  | str x =>
    simp only [truthD] at h
    split at h
    · cases h
      show ((x.length : Int) != 0) = (x.length != 0)
      rw [Bool.eq_iff_iff]; simp
    · cases h
  | tup xs => simp only [truthD] at h; cases h; simp only [D.py, PyData.truthy, D.pys_eq]; cases xs <;> rfl
  | lst xs => simp only [truthD] at h; cases h; simp only [D.py, PyData.truthy, D.pys_eq]; cases xs <;> rfl
  | non => simp only [truthD] at h; cases h; rfl
  | bl b => simp only [truthD] at h; cases h; rfl
  | int i => simp only [truthD] at h; cases h; rfl
  | _ => simp [D.plain] at p
theorem rep_len {pins : List (Addr × Obj)} {σ : L2.St} {H : Hp} {s : Shared} {P : Addr} {ds : List D} {x : V} (I : Inv X pins σ H s) : Rep (gOf X nm) P H (.tup ds) x ∨ Rep (gOf X nm) P H (.lst ds) x → ds.length ≤ lineN := by
  intro h
  rcases h with h | h
  · simp only [Rep] at h
    obtain ⟨a, xs, rfl, ha, hxs⟩ := h
    obtain ⟨_, _, _, hz⟩ := I.tuple (SqT.of ha)
    rw [hxs.length, ← lineN_eq]; exact hz
  · simp only [Rep] at h
    obtain ⟨a, xs, rfl, ha, hxs⟩ := h
    obtain ⟨_, _, _, hz⟩ := I.list (SqL.of ha)
    rw [hxs.length, ← lineN_eq]; exact hz
theorem fits_py {pins : List (Addr × Obj)} {σ : L2.St} {H : Hp} {s : Shared} {P : Addr} {d : D} {b : Bool} {x : V} (I : Inv X pins σ H s) (h : truthD d = some b) (r : Rep (gOf X nm) P H d x) : d.py.fits63 := by
  have l63 : (lineN : Int) < 2 ^ 63 := by decide
  cases d with
  | str x =>
    simp only [truthD] at h
    split at h
    · show (x.length : Int) < 2 ^ 63
      omega
    · cases h
  | tup xs => have := rep_len I (.inl r); show ((D.pys xs).length : Int) < 2 ^ 63; rw [D.pys_eq, List.length_map]; omega
  | lst xs => have := rep_len I (.inr r); show ((D.pys xs).length : Int) < 2 ^ 63; rw [D.pys_eq, List.length_map]; omega
  | dct ks xs => simp [truthD] at h
  | _ => trivial
theorem truths_py {pins : List (Addr × Obj)} {σ : L2.St} {H : Hp} {s : Shared} {P : Addr} (I : Inv X pins σ H s) : ∀ {ds : List D} {bs : List Bool} {xs : List V}, truthsD ds = some bs → RepL (gOf X nm) P H ds xs →
    D.plains ds = true ∧ (∀ x ∈ D.pys ds, x.fits63) ∧ (D.pys ds).map PyData.truthy = bs
  | [], bs, xs, h, r => by simp only [truthsD] at h; cases h; exact ⟨rfl, fun x hx => by simp [D.pys] at hx, rfl⟩
  | d :: ds, bs, xs, h, r => by
    simp only [truthsD] at h
    simp only [RepL] at r
    obtain ⟨y, ys, rfl, r1, r2⟩ := r
    split at h
    · rename_i b bs' e1 e2
      split at h
      · rename_i hp
        cases h
        obtain ⟨p1, p2, p3⟩ := truths_py I e2 r2
        have hpl := (okEq_of hp).1
        refine ⟨by simp only [D.plains, hpl, p1, Bool.and_self], fun x hx => ?_, ?_⟩
        · simp only [D.pys, List.mem_cons] at hx
          rcases hx with rfl | hx
          · exact fits_py I e1 r1
          · exact p2 x hx
        · simp only [D.pys, List.map_cons, p3, truth_py e1 hpl]
      · cases h
    · cases h
theorem call_allD (m : Rm X L) : CallR X (.builtin "all") (rBi (gOf X nm) .all) := by
  intro pins s σ0 H xs us Q I r h
  obtain ⟨W, c, R, σ, τ, ρ, fps, ds, o, S, hx, hb, k⟩ := h
  change allD ds = some o at hb
  unfold allD at hb
  split at hb
  · rename_i ys
    obtain ⟨x, rfl, h1⟩ := hx.one
    simp only [Rep] at h1
    obtain ⟨a, zs, rfl, ha, hzs⟩ := h1
    rw [Option.map_eq_some_iff] at hb
    obtain ⟨bs, e, rfl⟩ := hb
    obtain ⟨p1, p2, p3⟩ := truths_py I e hzs
    obtain ⟨its, rv, pl, hz⟩ := I.list (SqL.of ha)
    obtain ⟨as, hr⟩ := RepL.reads I _ _ _ (D.shows_of_plains _ p1) hzs rv
    rw [Vals.ref1 r]
    refine PySem.W.all_list_data m.room.hd pl.isList hr (D.pys_plain _ p1) p2 fun h' tk kp => ?_
    have e2 : (D.pys ys).all PyData.truthy = bs.all id := by rw [← p3, List.all_map]; rfl
    rw [e2]
    exact ⟨.bl _, H, I.kept kp, rfl, done_frz S k (by simp only [Rep])⟩
  · rename_i ys
    obtain ⟨x, rfl, h1⟩ := hx.one
    simp only [Rep] at h1
    obtain ⟨a, zs, rfl, ha, hzs⟩ := h1
    rw [Option.map_eq_some_iff] at hb
    obtain ⟨bs, e, rfl⟩ := hb
    obtain ⟨p1, p2, p3⟩ := truths_py I e hzs
    obtain ⟨its, rv, pl, hz⟩ := I.tuple (SqT.of ha)
    obtain ⟨as, hr⟩ := RepL.reads I _ _ _ (D.shows_of_plains _ p1) hzs rv
    rw [Vals.ref1 r]
    refine PySem.W.all_tuple_data m.room.hd pl hr (D.pys_plain _ p1) p2 fun h' tk kp => ?_
    have e2 : (D.pys ys).all PyData.truthy = bs.all id := by rw [← p3, List.all_map]; rfl
    rw [e2]
    exact ⟨.bl _, H, I.kept kp, rfl, done_frz S k (by simp only [Rep])⟩
  · cases hb
theorem call_anyD (m : Rm X L) : CallR X (.builtin "any") (rBi (gOf X nm) .any) := by
  intro pins s σ0 H xs us Q I r h
  obtain ⟨W, c, R, σ, τ, ρ, fps, ds, o, S, hx, hb, k⟩ := h
  change anyD ds = some o at hb
  unfold anyD at hb
  split at hb
  · rename_i ys
    obtain ⟨x, rfl, h1⟩ := hx.one
    simp only [Rep] at h1
    obtain ⟨a, zs, rfl, ha, hzs⟩ := h1
    rw [Option.map_eq_some_iff] at hb
    obtain ⟨bs, e, rfl⟩ := hb
    obtain ⟨p1, p2, p3⟩ := truths_py I e hzs
    obtain ⟨its, rv, pl, hz⟩ := I.list (SqL.of ha)
    obtain ⟨as, hr⟩ := RepL.reads I _ _ _ (D.shows_of_plains _ p1) hzs rv
    rw [Vals.ref1 r]
    refine PySem.W.any_list_data m.room.hd pl.isList hr (D.pys_plain _ p1) p2 fun h' tk kp => ?_
    have e2 : (D.pys ys).any PyData.truthy = bs.any id := by rw [← p3, List.any_map]; rfl
    rw [e2]
    exact ⟨.bl _, H, I.kept kp, rfl, done_frz S k (by simp only [Rep])⟩
  · rename_i ys
    obtain ⟨x, rfl, h1⟩ := hx.one
    simp only [Rep] at h1
    obtain ⟨a, zs, rfl, ha, hzs⟩ := h1
    rw [Option.map_eq_some_iff] at hb
    obtain ⟨bs, e, rfl⟩ := hb
    obtain ⟨p1, p2, p3⟩ := truths_py I e hzs
    obtain ⟨its, rv, pl, hz⟩ := I.tuple (SqT.of ha)
    obtain ⟨as, hr⟩ := RepL.reads I _ _ _ (D.shows_of_plains _ p1) hzs rv
    rw [Vals.ref1 r]
    refine PySem.W.any_tuple_data m.room.hd pl hr (D.pys_plain _ p1) p2 fun h' tk kp => ?_
    have e2 : (D.pys ys).any PyData.truthy = bs.any id := by rw [← p3, List.any_map]; rfl
    rw [e2]
    exact ⟨.bl _, H, I.kept kp, rfl, done_frz S k (by simp only [Rep])⟩
  · cases hb
theorem call_absD : CallR X (.builtin "abs") (rBi (gOf X nm) .abs) := by
  intro pins s σ0 H xs us Q I r h
  obtain ⟨W, c, R, σ, τ, ρ, fps, ds, o, S, hx, hb, k⟩ := h
  change absD ds = some o at hb
  unfold absD at hb
  split at hb
  · obtain ⟨x, rfl, h1⟩ := hx.one
    simp only [Rep] at h1
    cases hb
    exact call_abs pins s σ0 H _ us Q I r ⟨_, by rw [h1], done_frz S k (by simp only [Rep])⟩
  · cases hb
theorem call_min2D (m : Rm X L) : CallR X (.builtin "min") (rBi (gOf X nm) .min2) := by
  intro pins s σ0 H xs us Q I r h
  obtain ⟨W, c, R, σ, τ, ρ, fps, ds, o, S, hx, hb, k⟩ := h
  change min2D ds = some o at hb
  unfold min2D at hb
  split at hb
  · obtain ⟨x, y, rfl, h1, h2⟩ := hx.two
    simp only [Rep] at h1 h2
    cases hb
    exact call_min2 m.calm pins s σ0 H _ us Q I r ⟨_, _, by rw [h1, h2], done_frz S k (by simp only [Rep])⟩
  · cases hb
theorem call_max2D (m : Rm X L) : CallR X (.builtin "max") (rBi (gOf X nm) .max2) := by
  intro pins s σ0 H xs us Q I r h
  obtain ⟨W, c, R, σ, τ, ρ, fps, ds, o, S, hx, hb, k⟩ := h
  change max2D ds = some o at hb
  unfold max2D at hb
  split at hb
  · obtain ⟨x, y, rfl, h1, h2⟩ := hx.two
    simp only [Rep] at h1 h2
    cases hb
    exact call_max2 m.calm pins s σ0 H _ us Q I r ⟨_, _, by rw [h1, h2], done_frz S k (by simp only [Rep])⟩
  · cases hb
theorem maxL_ok : ∀ (ns : List Int) (m : Int), maxL m ns ∈ m :: ns ∧ ∀ y ∈ m :: ns, y ≤ maxL m ns
  | [], m => ⟨by simp [maxL], fun y hy => by simp at hy; subst hy; exact Int.le_refl _⟩
  | n :: ns, m => by
    obtain ⟨h1, h2⟩ := maxL_ok ns (if m < n then n else m)
    rw [maxL]
    refine ⟨?_, fun y hy => ?_⟩
    · rcases List.mem_cons.mp h1 with h | h
      · rw [h]; split <;> simp
      · exact List.mem_cons_of_mem _ (List.mem_cons_of_mem _ h)
    · have t := h2 _ (List.mem_cons_self ..)
      rcases List.mem_cons.mp hy with rfl | hy
      · refine Int.le_trans ?_ t
        split <;> omega
      · rcases List.mem_cons.mp hy with rfl | hy
        · refine Int.le_trans ?_ t
          split <;> omega
        · exact h2 y (List.mem_cons_of_mem _ hy)
theorem minL_ok : ∀ (ns : List Int) (m : Int), minL m ns ∈ m :: ns ∧ ∀ y ∈ m :: ns, minL m ns ≤ y
  | [], m => ⟨by simp [minL], fun y hy => by simp at hy; subst hy; exact Int.le_refl _⟩
  | n :: ns, m => by
    obtain ⟨h1, h2⟩ := minL_ok ns (if n < m then n else m)
    rw [minL]
    refine ⟨?_, fun y hy => ?_⟩
    · rcases List.mem_cons.mp h1 with h | h
      · rw [h]; split <;> simp
      · exact List.mem_cons_of_mem _ (List.mem_cons_of_mem _ h)
    · have t := h2 _ (List.mem_cons_self ..)
      rcases List.mem_cons.mp hy with rfl | hy
      · refine Int.le_trans t ?_
        split <;> omega
      · rcases List.mem_cons.mp hy with rfl | hy
        · refine Int.le_trans t ?_
          split <;> omega
        · exact h2 y (List.mem_cons_of_mem _ hy)
theorem call_max1D (m : Rm X L) : CallR X (.builtin "max") (rBi (gOf X nm) .max1) := by
  intro pins s σ0 H xs us Q I r h
  obtain ⟨W, c, R, σ, τ, ρ, fps, ds, o, S, hx, hb, k⟩ := h
  change max1D ds = some o at hb
  unfold max1D at hb
  split at hb
  · obtain ⟨x, rfl, h1⟩ := hx.one
    simp only [Rep] at h1
    obtain ⟨a, zs, rfl, ha, hzs⟩ := h1
    rw [Option.bind_eq_some_iff] at hb
    obtain ⟨ns, e, hb⟩ := hb
    cases ns with
    | nil => cases hb
    | cons n ns =>
      cases hb
      rw [intsOf_eq e] at hzs
      have ez := repL_ints hzs
      subst ez
      obtain ⟨q1, q2⟩ := maxL_ok ns n
      refine cr_max m.calm pins s σ0 H _ us Q I r ⟨a, n :: ns, rfl, SqL.of ha, by simp, fun z hz hle => ?_⟩
      have : z = maxL n ns := Int.le_antisymm (q2 z hz) (hle _ q1)
      rw [this]
      exact done_frz S k (by simp only [Rep])
  · cases hb
theorem call_min1D (m : Rm X L) : CallR X (.builtin "min") (rBi (gOf X nm) .min1) := by
  intro pins s σ0 H xs us Q I r h
  obtain ⟨W, c, R, σ, τ, ρ, fps, ds, o, S, hx, hb, k⟩ := h
  change min1D ds = some o at hb
  unfold min1D at hb
  split at hb
  · obtain ⟨x, rfl, h1⟩ := hx.one
    simp only [Rep] at h1
    obtain ⟨a, zs, rfl, ha, hzs⟩ := h1
    rw [Option.bind_eq_some_iff] at hb
    obtain ⟨ns, e, hb⟩ := hb
    cases ns with
    | nil => cases hb
    | cons n ns =>
      cases hb
      rw [intsOf_eq e] at hzs
      have ez := repL_ints hzs
      subst ez
      obtain ⟨q1, q2⟩ := minL_ok ns n
      refine cr_min m.calm pins s σ0 H _ us Q I r ⟨a, n :: ns, rfl, SqL.of ha, by simp, fun z hz hle => ?_⟩
      have : z = minL n ns := Int.le_antisymm (hle _ q1) (q2 z hz)
      rw [this]
      exact done_frz S k (by simp only [Rep])
  · cases hb
theorem call_intD : CallR X (.type "int") (rBi (gOf X nm) .int) := by
  intro pins s σ0 H xs us Q I r h
  obtain ⟨W, c, R, σ, τ, ρ, fps, ds, o, S, hx, hb, k⟩ := h
  change intD ds = some o at hb
  unfold intD at hb
  split at hb
  · obtain ⟨x, rfl, h1⟩ := hx.one
    simp only [Rep] at h1
    cases hb
    exact call_int1 pins s σ0 H _ us Q I r (.inl ⟨_, by rw [h1], done_frz S k (by simp only [Rep])⟩)
  · obtain ⟨x, rfl, h1⟩ := hx.one
    simp only [Rep] at h1
    cases hb
    exact call_int1 pins s σ0 H _ us Q I r (.inr ⟨_, by rw [h1], done_frz S k (by simp only [Rep])⟩)
  · cases hb
theorem call_gcdD : CallR X (.builtin "math.gcd") (rBi (gOf X nm) .gcd) := by
  intro pins s σ0 H xs us Q I r h
  obtain ⟨W, c, R, σ, τ, ρ, fps, ds, o, S, hx, hb, k⟩ := h
  change gcdD ds = some o at hb
  unfold gcdD at hb
  split at hb
  · obtain ⟨x, y, rfl, h1, h2⟩ := hx.two
    simp only [Rep] at h1 h2
    cases hb
    exact cr_gcd pins s σ0 H _ us Q I r ⟨_, _, by rw [h1, h2], done_frz S k (by simp only [Rep])⟩
  · cases hb
/-! ### repr -/
theorem call_reprD (m : Rm X L) (hS : (X.K.lookup sysModules).isSome = true) : CallR X (.builtin "repr") (rBi (gOf X nm) .repr) := by
  intro pins s σ0 H xs us Q I r h
  obtain ⟨W, c, R, σ, τ, ρ, fps, ds, o, S, hx, hb, k⟩ := h
  change reprD ds = some o at hb
  unfold reprD at hb
  split at hb
  · rename_i d
    obtain ⟨x, rfl, h1⟩ := hx.one
    split at hb
    · rename_i hok
      cases hb
      unfold okRepr at hok
      simp only [Bool.and_eq_true] at hok
      obtain ⟨⟨⟨p1, p2⟩, p3⟩, p4⟩ := hok
      have p3 : d.py.depth ≤ 40 := of_decide_eq_true p3
      have p4 : d.py.shown.length + 64 ≤ lineN := of_decide_eq_true p4
      obtain ⟨u, rfl, rx⟩ := vals1 r
      have k' := done_frz S k (x := .str d.py.shown) (by simp only [Rep])
      have un := m.room.un
      have hzl := lineN_eq
      have leaf : ∀ {y : Str}, d.py.shown = y → y.length ≤ sizeLine := fun {y} e => by rw [← e]; omega
      have ref : ∀ {a : Addr}, x = .ref a → wpAny (model X.prog X.w) X.A (call (.builtin "repr") [u]) (EP X pins σ0 Q) X.xe s := fun {a} e => by
        subst e
        cases rx
        obtain ⟨as, hr, hn⟩ := Rep.readsN I d _ _ p1 h1 rfl
        refine PySem.repr_of_reads' hr p2 (fun hd => hn (.inr hS)) m.gd (by omega) (fun _ _ e => e) (fun h' u tk kp => ⟨.str d.py.shown, H, I.kept kp, ⟨_, rfl⟩, k'⟩) (by omega)
      cases d with
      | non =>
        simp only [Rep] at h1; subst h1; cases rx
        exact P.repr_of_none ⟨.str "None", H, I.tok _, ⟨_, rfl⟩, k'⟩
      | bl b =>
        simp only [Rep] at h1; subst h1; cases rx
        exact P.repr_of_bool ⟨.str (if b then "True" else "False"), H, I.tok _, ⟨_, rfl⟩, k'⟩
      | int i =>
        simp only [Rep] at h1; subst h1
        obtain ⟨t, rfl⟩ := rx
        simp only [D.py, PyData.showable] at p2
        exact P.repr_of_int (of_decide_eq_true p2) ⟨.str (toString i), H, I.tok _, ⟨_, rfl⟩, k'⟩
      | str y =>
        simp only [Rep] at h1; subst h1
        obtain ⟨t, rfl⟩ := rx
        exact P.repr_of_str ⟨.str (reprText y), H, I.tok _, ⟨_, rfl⟩, k'⟩ (leaf rfl)
      | tup ys => simp only [Rep] at h1; obtain ⟨a, _, e, _⟩ := h1; exact ref e
      | lst ys => simp only [Rep] at h1; obtain ⟨a, _, e, _⟩ := h1; exact ref e
      | dct ks ys => simp only [Rep] at h1; obtain ⟨a, _, e, _⟩ := h1; exact ref e
      | _ => simp [D.show] at p1
    · cases hb
  · cases hb
end
end DL

set_option Elab.async false
set_option linter.all false
set_option maxRecDepth 100000
/-! DL9: tuple, list, sorted, min, max, isinstance. -/
namespace DL
open PySem PySem.Spec PyProof.Rows L2
/-! ### sorted of a tuple: its items in a new list, then as of a list -/
section
variable {prog : Program} {w : World} {A : Around} {E : Value → Shared → Prop} {s : Shared}
theorem tup_collect {t : Addr} {us : List Value} {Q : List Value → Shared → Prop} (hT : IsTup s.heap t us.toArray) (small : us.length ≤ sizeLine)
    (k : Q us { s with heap := (s.heap.push (seqObj "list" #[] 0)).update s.heap.objs.size (Obj.mapSeq (· ++ us.toArray)) }) : wpAny (model prog w) A (collect (.ref t)) Q E s := by
  obtain ⟨ob, hob, hcl, nn, hdat⟩ := hT
  have new : (s.heap.push (seqObj "list" #[] 0)).get? s.heap.objs.size = some (seqObj "list" #[] 0) := Heap.get?_push_size _ rfl
  have old : (s.heap.push (seqObj "list" #[] 0)).get? t = some ob := Heap.get?_push_of_some _ hob
  unfold collect
  refine wpAny_bind (wpAny_runValue (codeAny_builtin entry_proto_collect' ?_))
  show wpAny (model prog w) _ (newList [] >>= fun L => again (.builtin "list.__iadd__" ⟨[L, .ref t], []⟩)) _ _ s
  refine wpAny_bind (wpAny_newList (wpAny_pure ⟨Code.quiet_builtin _ (by decide +kernel), codeAny_builtin entry_list_iadd' ?_⟩))
  show wpAny (model prog w) _ (Builtin.List.listExtendWith (.ref s.heap.objs.size) (.ref t) (.ref s.heap.objs.size)) _ _ ⟨s.heap.push (seqObj "list" #[] 0), s.gens, s.drawn, s.toks, s.os⟩
  unfold Builtin.List.listExtendWith
  refine wpAny_bind (wpAny_typeOf (T := "tuple") ⟨ob, old, hcl⟩ ?_)
  have tt : (Value.type "tuple" == Value.type "tuple") = true := rfl
  rw [if_pos (show (_ || _ || (Value.type "tuple" == Value.type "tuple")) = true by rw [tt, Bool.or_true])]
  refine wpAny_bind (listItems_at old hdat ?_)
  refine wpAny_bind (listItems_at (xs := #[]) (n := 0) new rfl ?_)
  rw [if_neg (show ¬ (!(#[] : Array Value).isEmpty && _) = true by simp)]
  have z : (#[] ++ us.toArray).size ≤ sizeLine + 1 := by simp; omega
  refine wpAny_bind (listUpdate_at (f := (· ++ us.toArray)) new rfl ?_ (Nat.zero_le _) z)
  refine wpAny_pure ?_
  have got := get?_update_seq new (· ++ us.toArray)
  show wpAny (model prog w) A (load s.heap.objs.size >>= fun ob => match ob.data with
    | .seq ys _ => pure ys.toList
    | _ => unsupported "internal:collect") Q E ⟨(s.heap.push (seqObj "list" #[] 0)).update s.heap.objs.size (Obj.mapSeq (· ++ us.toArray)), s.gens, s.drawn, s.toks, s.os⟩
  refine wpAny_bind (wpAny_load got ?_)
  have e : ((#[] : Array Value) ++ us.toArray).toList = us := by simp
  show wpAny (model prog w) _ (pure ((#[] : Array Value) ++ us.toArray).toList) Q E _
  rw [e]
  exact wpAny_pure k
open PySem.W in
theorem tup_sorted {β : Type} {Rl : Value → β → Prop} {enc : β → PyData} {t : Addr} {us : List Value} {bs : List β} {Q : Value → Shared → Prop} (hT : IsTup s.heap t us.toArray) (e : EachIs Rl us bs)
    (er : EachIs (fun v b => ∃ as, Reads s.heap v (enc b) as) us bs) (hal : AllAlike (bs.map enc)) (hk : Sortable (bs.map enc)) (hL : bs.length ≤ sizeLine) (hu : ∀ b ∈ bs, A.units + 2 + (enc b).depth < cLine)
    (k : ∀ out, out.length = bs.length → EachIs Rl out (bs.mergeSort (dataLe false enc)) → Q (.ref (s.heap.objs.size + 1)) { s with heap := sortedAll s.heap us (List.toArray out) }) :
    wpAny (model prog w) A (call (.builtin "sorted") [.ref t]) Q E s := by
  have small : us.length ≤ sizeLine := by rw [e.length]; exact hL
  have er2 : EachIs (fun v b => ∃ as, Reads (sortingHeap (copyHeap s.heap us) (s.heap.objs.size + 1) us) v (enc b) as) us bs := er.mono fun _ _ ⟨as, r⟩ => ⟨as, PyProof.Rows.Reads.keeps (fun _ _ => sorting_copy_old) r⟩
  have S : SortsAt prog w A.in1.in1 { s with heap := sortingHeap (copyHeap s.heap us) (s.heap.objs.size + 1) us } _ us := SortsAt.data (each_map (R := fun v d => ∃ as, Reads (sortingHeap (copyHeap s.heap us) (s.heap.objs.size + 1) us) v d as) enc er2) hal hk (bound_map hu)
  have fin := k _ (by rw [sortVals_length false rfl]; exact e.length) (sortVals_data false e er2 hal)
  refine call_function_entry_kw kind_sorted plain_sorted entry_sorted (args_sorted1 _) ?_
  unfold Builtin.«sorted»
  refine wpAny_bind (m := checkCount "sorted" 1 1 _) (wpAny_pure ?_)
  refine wpAny_bind (tup_collect hT small ?_)
  refine wpAny_bind (wpAny_newList ?_ small)
  have sz : ((s.heap.push (seqObj "list" #[] 0)).update s.heap.objs.size (Obj.mapSeq (· ++ us.toArray))).objs.size = s.heap.objs.size + 1 := (Heap.size_update ..).trans (size_push' ..)
  show wpAny (model prog w) _ _ _ _ ⟨copyHeap s.heap us, s.gens, s.drawn, s.toks, s.os⟩
  rw [sz]
  refine wpAny_bind (wpAny_holding (wpAny_call_entry_kw slot_list_sort ⟨_, copyHeap_at s.heap us, rfl⟩ entry_list_sort ?bd (args_list_sort _)))
  case bd =>
    refine wpAny_mono (list_sort_vals (P := fun f s' => f = .done (.ret .none) ∧ Q (.ref (s.heap.objs.size + 1)) s') (s := ⟨copyHeap s.heap us, s.gens, s.drawn, s.toks, s.os⟩) (copyHeap_at s.heap us) S small ⟨rfl, fin⟩) (fun f s' hf => ?_) fun _ _ z => z
    obtain ⟨rfl, q⟩ := hf
    exact ⟨_, rfl, wpAny_pure ⟨_, rfl, q⟩⟩
end
section
variable {X : Cx} {nm : Nm} {L : Nat}
theorem call_tupleD : CallR X (.type "tuple") (rBe (gOf X nm) .tuple) := by
  intro pins s σ0 H xs us Q I r h
  obtain ⟨W, c, R, σ, τ, ρ, fps, ds, o, S, hx, hb, k⟩ := h
  change tupleD ds = some o at hb
  unfold tupleD at hb
  split at hb
  · rename_i d
    obtain ⟨x, rfl, h1⟩ := hx.one
    rw [Option.map_eq_some_iff] at hb
    obtain ⟨ys, e, rfl⟩ := hb
    unfold itemsD at e
    split at e
    · cases e
      simp only [Rep] at h1
      obtain ⟨a, zs, rfl, ha, hzs⟩ := h1
      exact call_tuple_of pins s σ0 H _ us Q I r ⟨a, zs, rfl, .inr ⟨Same.sqT S.same ha, done_frz S k (by simp only [Rep]; exact ⟨a, zs, rfl, ha, hzs⟩)⟩⟩
    · cases e
      simp only [Rep] at h1
      obtain ⟨a, zs, rfl, ha, hzs⟩ := h1
      exact call_tuple_of pins s σ0 H _ us Q I r ⟨a, zs, rfl, .inl ⟨SqL.of (S.same _ _ ha), fun p hp => done_new S k hp fun R' e hR => by simp only [Rep]; exact ⟨p, _, rfl, hR, hzs.mono e⟩⟩⟩
    · cases e
  · cases hb
theorem call_listD : CallR X (.type "list") (rBe (gOf X nm) .list) := by
  intro pins s σ0 H xs us Q I r h
  obtain ⟨W, c, R, σ, τ, ρ, fps, ds, o, S, hx, hb, k⟩ := h
  change listD ds = some o at hb
  unfold listD at hb
  split at hb
  · rename_i d
    obtain ⟨x, rfl, h1⟩ := hx.one
    rw [Option.map_eq_some_iff] at hb
    obtain ⟨ys, e, rfl⟩ := hb
    unfold itemsD at e
    split at e
    · cases e
      simp only [Rep] at h1
      obtain ⟨a, zs, rfl, ha, hzs⟩ := h1
      exact call_list_of pins s σ0 H _ us Q I r ⟨a, zs, rfl, .inr (Same.sqT S.same ha), fun p hp => done_list S k hp hzs⟩
    · cases e
      simp only [Rep] at h1
      obtain ⟨a, zs, rfl, ha, hzs⟩ := h1
      exact call_list_of pins s σ0 H _ us Q I r ⟨a, zs, rfl, .inl (SqL.of (S.same _ _ ha)), fun p hp => done_list S k hp hzs⟩
    · cases e
  · cases hb
/-! ### items that are alike -/
theorem alike_head {d : D} {ds : List D} (h : alikeD (d :: ds) = true) : okEq d = true ∧ W.alike d.py d.py = true ∧ (∀ e ∈ ds, W.alike d.py e.py = true ∧ W.alike e.py d.py = true) ∧ isNon d = false ∧ alikeD ds = true := by
  simp only [alikeD, Bool.and_eq_true, List.all_eq_true, Bool.not_eq_true'] at h
  exact ⟨h.1.1.1.1, h.1.1.1.2, h.1.1.2, h.1.2, h.2⟩
theorem alike_mem : ∀ {ds : List D}, alikeD ds = true → ∀ d ∈ ds, okEq d = true ∧ isNon d = false
  | [], _, d, hd => by cases hd
  | e :: ds, h, d, hd => by
    obtain ⟨h1, _, _, h4, h5⟩ := alike_head h
    rcases List.mem_cons.mp hd with rfl | hd
    · exact ⟨h1, h4⟩
    · exact alike_mem h5 d hd
theorem alike_all : ∀ {ds : List D}, alikeD ds = true → ∀ d ∈ ds, ∀ e ∈ ds, W.alike d.py e.py = true
  | [], _, d, hd => by cases hd
  | f :: ds, h, d, hd => fun e he => by
    obtain ⟨h1, h2, h3, h4, h5⟩ := alike_head h
    rcases List.mem_cons.mp hd with rfl | hd
    · rcases List.mem_cons.mp he with rfl | he
      · exact h2
      · exact (h3 e he).1
    · rcases List.mem_cons.mp he with e2 | he
      · rw [e2]; exact (h3 d hd).2
      · exact alike_all h5 d hd e he
theorem alike_plains : ∀ {ds : List D}, alikeD ds = true → D.plains ds = true
  | [], _ => rfl
  | d :: ds, h => by
    obtain ⟨h1, _, _, _, h5⟩ := alike_head h
    simp only [D.plains, (okEq_of h1).1, alike_plains h5, Bool.and_self]
theorem alike_depth : ∀ {ds : List D}, alikeD ds = true → PyData.depthAll (D.pys ds) ≤ 40
  | [], _ => by simp only [D.pys, PyData.depthAll]; omega
  | d :: ds, h => by
    obtain ⟨h1, _, _, _, h5⟩ := alike_head h
    have := deep_of h1
    have := alike_depth h5
    simp only [D.pys, PyData.depthAll]
    omega
theorem py_notNone {d : D} (p : d.plain = true) (h : isNon d = false) : d.py ≠ .none := fun e => by
  cases d <;> simp [D.py] at e <;> simp [isNon] at h <;> simp [D.plain] at p
theorem alike_AllAlike {ds : List D} (h : alikeD ds = true) : PySem.W.AllAlike (ds.map D.py) := by
  intro a ha b hb
  obtain ⟨d, hd, rfl⟩ := List.mem_map.mp ha
  obtain ⟨e, he, rfl⟩ := List.mem_map.mp hb
  exact alike_all h d hd e he
theorem sortable_of {ds : List D} (ha : alikeD ds = true) (h : sortableD ds = true) : PySem.W.Sortable (ds.map D.py) := by
  unfold sortableD at h
  rw [Bool.or_eq_true, List.all_eq_true, List.all_eq_true] at h
  rcases h with h | h
  · refine .inl fun a ha => ?_
    obtain ⟨d, hd, rfl⟩ := List.mem_map.mp ha
    have q := h d hd
    split at q
    · rename_i x r
      simp only [D.py, D.pys]
      exact ⟨_, _, rfl⟩
    · cases q
  · refine .inr fun a hm => ?_
    obtain ⟨d, hd, rfl⟩ := List.mem_map.mp hm
    have q := h d hd
    have p := (okEq_of (alike_mem ha d hd).1).1
    refine ⟨py_notNone p (alike_mem ha d hd).2, fun xs e => ?_⟩
    cases d <;> simp [D.py] at e <;> simp at q <;> simp [D.plain] at p
theorem each_rep {pins : List (Addr × Obj)} {σ : L2.St} {H R : Hp} {s : Shared} {P : Addr} (I : Inv X pins σ H s) (e : Same R H) : ∀ {ds : List D} {xs : List V} {us : List Value}, D.plains ds = true → RepL (gOf X nm) P R ds xs → Vals xs us →
    PySem.W.EachIs (fun v d => ∃ x, RelV x v ∧ Rep (gOf X nm) P R d x) us ds ∧ PySem.W.EachIs (fun v d => ∃ as, Reads s.heap v d.py as) us ds
  | [], xs, us, _, h, r => by simp only [RepL] at h; subst h; cases r; exact ⟨.nil, .nil⟩
  | d :: ds, xs, us, p, h, r => by
    simp only [RepL] at h
    obtain ⟨y, ys, rfl, h2, h3⟩ := h
    simp only [D.plains, Bool.and_eq_true] at p
    cases r with
    | cons r1 r2 =>
      obtain ⟨q1, q2⟩ := each_rep I e p.2 h3 r2
      exact ⟨.cons ⟨y, r1, h2⟩ q1, .cons (Rep.reads I d y _ (D.show_of_plain d p.1) (h2.mono e) r1) q2⟩
theorem each_back {R : Hp} {P : Addr} : ∀ {ds : List D} {us : List Value}, PySem.W.EachIs (fun v d => ∃ x, RelV x v ∧ Rep (gOf X nm) P R d x) us ds → ∃ xs, Vals xs us ∧ RepL (gOf X nm) P R ds xs
  | [], _, h => by cases h; exact ⟨[], .nil, RepL.nil⟩
  | d :: ds, _, h => by
    cases h with
    | cons h1 h2 =>
      obtain ⟨x, r, q⟩ := h1
      obtain ⟨xs, r2, q2⟩ := each_back h2
      exact ⟨x :: xs, .cons r r2, RepL.cons q q2⟩
theorem call_sortedDD (m : Rm X L) : CallR X (.builtin "sorted") (rBe (gOf X nm) .sorted) := by
  intro pins s σ0 H xs us Q I r h
  obtain ⟨W, c, R, σ, τ, ρ, fps, ds, o, S, hx, hb, k⟩ := h
  change sortedD ds = some o at hb
  unfold sortedD at hb
  split at hb
  · rename_i d
    obtain ⟨x, rfl, h1⟩ := hx.one
    rw [Option.bind_eq_some_iff] at hb
    obtain ⟨ys, e, hb⟩ := hb
    split at hb
    · rename_i hl
      rw [Bool.and_eq_true] at hl
      cases hb
      have un := m.room.un
      have main : ∀ {a : Addr} {zs : List V} {its : List Value}, x = .ref a → RepL (gOf X nm) c.P R ys zs → Vals zs its → zs.length ≤ sizeLine → (s.heap.IsList a its.toArray ∨ IsTup s.heap a its.toArray) → wpAny (model X.prog X.w) X.A (call (.builtin "sorted") us) (EP X pins σ0 Q) X.xe s := by
        intro a zs its ex hzs rv hz pl
        subst ex
        rw [Vals.ref1 r]
        obtain ⟨q1, q2⟩ := each_rep I S.same (alike_plains hl.1) hzs rv
        have fin : ∀ out : List Value, out.length = ys.length → PySem.W.EachIs (fun v d => ∃ x, RelV x v ∧ Rep (gOf X nm) c.P R d x) out (ys.mergeSort (PySem.W.dataLe false D.py)) → EP X pins σ0 Q (.ref (s.heap.objs.size + 1)) { s with heap := sortedAll s.heap its out.toArray } := fun out hout e1 => by
          obtain ⟨ws, rw1, rw2⟩ := each_back e1
          obtain ⟨n, ho⟩ := sortedAll_at s.heap its out.toArray
          have hn : H (s.heap.objs.size + 1) = none := I.hok.fresh (Nat.le_succ _)
          refine ⟨.ref (s.heap.objs.size + 1), _, I.laid (t' := s.toks) (o := .lst ws) (fun b ob q => sortedAll_old q) (Nat.le_succ _) ?_, rfl, done_list S k hn rw2⟩
          exact ⟨by rw [← rw2.length, List.length_mergeSort, hzs.length]; exact hz, out, n, rw1, ho⟩
        rcases pl with pl | pl
        · exact PySem.W.sorted_data pl q1 q2 (alike_AllAlike hl.1) (sortable_of hl.1 hl.2) (by rw [hzs.length]; exact hz) (fun b hb => by have := deep_of (alike_mem hl.1 b hb).1; omega) fin
        · exact tup_sorted pl q1 q2 (alike_AllAlike hl.1) (sortable_of hl.1 hl.2) (by rw [hzs.length]; exact hz) (fun b hb => by have := deep_of (alike_mem hl.1 b hb).1; omega) fin
      unfold itemsD at e
      split at e
      · cases e
        simp only [Rep] at h1
        obtain ⟨a, zs, rfl, ha, hzs⟩ := h1
        obtain ⟨its, rv, pl, hz⟩ := I.tuple (Same.sqT S.same ha)
        exact main rfl hzs rv hz (.inr pl)
      · cases e
        simp only [Rep] at h1
        obtain ⟨a, zs, rfl, ha, hzs⟩ := h1
        obtain ⟨its, rv, pl, hz⟩ := I.list (SqL.of (S.same _ _ ha))
        exact main rfl hzs rv hz (.inl pl.isList)
      · cases e
    · cases hb
  · cases hb
end
end DL

set_option Elab.async false
set_option linter.all false
set_option maxRecDepth 100000
/-! DL10: expressions, form by form: what the interpreter tells is what the code does. -/
namespace DL
open PySem PySem.Spec PyProof.Rows L2

theorem _root_.L2.PE.weak {X : Cx} {e : Expr} {t t' : TE} (h : PE X e t) (f : ∀ σ H Q, σ.length = X.N.length → t' σ H Q → t σ H Q) : PE X e t' :=
  ⟨fun pins s σ H Q I q => h.run pins s σ H Q I (f σ H Q I.len q)⟩
theorem _root_.L2.PT.weak {X : Cx} {e : Expr} {t t' : TT} (h : PT X e t) (f : ∀ σ H Q, σ.length = X.N.length → t' σ H Q → t σ H Q) : PT X e t' :=
  ⟨fun pins s σ H Q I q => h.run pins s σ H Q I (f σ H Q I.len q)⟩
theorem _root_.L2.PA.weak {X : Cx} {e : List Expr} {t t' : TA} (h : PA X e t) (f : ∀ σ H Q, σ.length = X.N.length → t' σ H Q → t σ H Q) : PA X e t' :=
  ⟨fun pos pins s σ H Q I q => h.run pos pins s σ H Q I (f σ H Q I.len q)⟩

section
variable {X : Cx} {nm : Nm} {W : WX} {Γ : Gam} {a b cc ex ey ez : E} {e e1 e2 e3 : Expr} {pos pos' p2 : Pos}
abbrev pE (X : Cx) (nm : Nm) (W : WX) (Γ : Gam) (a : E) (e : Expr) : Prop := PE X e (tE (gOf X nm) W Γ a)

/-- reading at a slot -/
theorem rd_val {c : Cf} {R H : Hp} {σ τ : L2.St} {ρ : Env} {fps : List (List Addr)} {i : Nat} {v : Val} {ρ' : Env} (S : Sim (gOf X nm) c R H (σ ++ τ) ρ fps) (hi : i < σ.length) (h : rd i ρ = .ok v ρ') :
    ρ' = ρ ∧ v.src = some i ∧ ∃ x, σ[i]? = some (some x) ∧ VR (gOf X nm) c R H fps v x := by
  unfold rd at h
  cases e : ρ.sl[i]? with
  | none => rw [e] at h; cases h
  | some u =>
    rw [e] at h
    cases u with
    | none => cases h
    | some o =>
      cases h
      obtain ⟨v, f, h1, h2, h3⟩ := S.sl.at_ i o e
      rw [List.getElem?_append_left hi] at h1
      exact ⟨rfl, rfl, v, h1, ⟨f, f, h3, S.dis.nd i f h2, h2, fun _ ha => ha⟩⟩
theorem rd_noerr {i : Nat} {ρ : Env} {g : Nat} {ns : List Str} {xs : List D} {ρ' : Env} (e : rd i ρ = .err g ns xs ρ') : False := by
  unfold rd at e
  split at e <;> cases e
theorem x_v {i : Nat} {x : Str} (hN : X.N[i]? = some x) (hv : Vis X.env.scope x) (hd : (x == ("__debug__" : Str)) = false) (hcd : (x == ("__classdict__" : Str)) = false) : pE X nm W Γ (.v i) (.Name x pos) := by
  refine (pe_var hN hv hd hcd).weak fun σ H Q hl h => ?_
  have hi : i < σ.length := by rw [hl]; exact (List.getElem?_eq_some_iff.mp hN).1
  obtain ⟨c, R, ρ, τ, fps, S, h⟩ := h
  change Post _ _ _ _ _ _ _ _ (rd i ρ) at h
  cases e : rd i ρ with
  | ok v ρ' =>
    rw [e] at h
    obtain ⟨rfl, _, x, hx, r⟩ := rd_val S hi e
    exact ⟨x, hx, h.now S x r⟩
  | err g ns xs ρ' => exact (rd_noerr e).elim
  | bad => rw [e] at h; exact h.elim
theorem x_c {k : Cn} {v : V} (he : PE X e (tC v)) (r : ∀ P R, Rep (gOf X nm) P R k.d v) : pE X nm W Γ (.c k) e := by
  refine he.weak fun σ H Q hl h => ?_
  obtain ⟨c, R, ρ, τ, fps, S, h⟩ := h
  exact done_frz S h (r _ _)
theorem x_no {v : V} (he : PE X e (tC .non)) : pE X nm W Γ .no e := by
  refine he.weak fun σ H Q hl h => ?_
  obtain ⟨c, R, ρ, τ, fps, S, h⟩ := h
  exact done_frz S h (by simp only [Rep])
theorem x_gl {g : Nat} (he : PE X e (tC (.ref (He.ga X.K (nm g))))) : pE X nm W Γ (.gl g) e := by
  refine he.weak fun σ H Q hl h => ?_
  obtain ⟨c, R, ρ, τ, fps, S, h⟩ := h
  exact done_frz S h (by simp only [Rep])
/-- a module's constant -/
theorem x_kst {n : Nat} {v : V} (he : PE X e (tC v)) (r : ∀ d, Γ.cst n = some d → ∀ P R, Rep (gOf X nm) P R d v) : pE X nm W Γ (.kst n) e := by
  refine he.weak fun σ H Q hl h => ?_
  obtain ⟨c, R, ρ, τ, fps, S, h⟩ := h
  change Post _ _ _ _ _ _ _ _ (bnd (lft (Γ.cst n)) frz ρ) at h
  obtain ⟨d, e, h⟩ := h.lftB
  exact done_frz S h (r d e _ _)

/-! ### two in a row -/
/-- both go on as data -/
theorem two_esc {f : D → D → M Val} {r : R2} {σ : L2.St} {H : Hp} {Q : VK} (h : At (gOf X nm) W (bnd (ev Γ a) fun x => bnd (esc x) fun x => bnd (ev Γ b) fun y => bnd (esc y) fun y => f x y) (fun c _ v _ R' H' fps' => ∀ x, VR (gOf X nm) c R' H' fps' v x → Q x H') σ H)
    (k : ∀ c R τ ρ fps dx dy x y H, Sim (gOf X nm) c R H (σ ++ τ) ρ fps → Rep (gOf X nm) c.P R dx x → Rep (gOf X nm) c.P R dy y → Fin (gOf X nm) W c σ τ R H Q (f dx dy ρ) → r x y H Q) :
    tOp r (tE (gOf X nm) W Γ a) (tE (gOf X nm) W Γ b) σ H Q := by
  refine h.part fun c τ vx ρ1 R1 H1 fp1 S1 h1 x rx => ?_
  obtain ⟨dx, ρ2, R2, fp2, e2, S2, rx2, h2⟩ := Post.esc S1 rx h1
  refine At.ofPart S2 h2 fun vy ρ3 R3 H3 fp3 e3 _ S3 h3 y ry => ?_
  obtain ⟨dy, ρ4, R4, fp4, e4, S4, ry4, h4⟩ := Post.esc S3 ry h3
  exact k c R4 τ ρ4 fp4 dx dy x y H3 S4 (rx2.mono (e3.trans e4)) ry4 h4
theorem x_bin {op : Operator} (ha : pE X nm W Γ a e1) (hb : pE X nm W Γ b e2) : pE X nm W Γ (.bin op a b) (.BinOp e1 op e2 pos) := by
  refine (pe_op (op_bin (nm := nm)) ha hb).weak fun σ H Q hl h => ?_
  refine two_esc h fun c R τ ρ fps dx dy x y H1 S rx ry q => ?_
  obtain ⟨o, eo, q⟩ := q.lft1
  rw [Option.map_eq_some_iff] at eo
  obtain ⟨o', eo, rfl⟩ := eo
  exact ⟨W, c, R, σ, τ, ρ, fps, dx, dy, o', S, rx, ry, eo, q⟩
theorem x_neg (ha : pE X nm W Γ a e1) : pE X nm W Γ (.neg a) (.UnaryOp .USub e1 pos) := by
  refine (pe_un un_neg ha).weak fun σ H Q hl h => ?_
  refine h.part fun c τ vx ρ1 R1 H1 fp1 S1 h1 x rx => ?_
  obtain ⟨i, rfl, h2⟩ := Post.int rx h1
  exact ⟨i, rfl, done_frz S1 h2 (by simp only [Rep])⟩
theorem cmpO_see {op : CmpOp} {d : D} {o : O} {t : Bool} (h : cmpO op d o = some t) : o.hasT = false ∧ cmpD op d o.d = some t := by
  unfold cmpO at h
  split at h
  · cases h
  · split at h
    · cases h
    · rename_i ht
      exact ⟨by simpa using ht, h⟩
theorem x_cmp {op : CmpOp} (hu : X.A.units + 64 < cLine) (hm : behindInMarks op e2 = false) (ha : pE X nm W Γ a e1) (hb : pE X nm W Γ b e2) : pE X nm W Γ (.cmp op a b) (.Compare e1 [op] [e2] pos) := by
  refine (pe_cmpR (op_cmp (nm := nm) hu) ha hb hm).weak fun σ H Q hl h => ?_
  refine h.part fun c τ vx ρ1 R1 H1 fp1 S1 h1 x rx => ?_
  obtain ⟨dx, rx2, h2⟩ := Post.vw S1 rx h1
  refine At.ofPart S1 h2 fun vy ρ3 R3 H3 fp3 e3 sx3 S3 h3 y ry => ?_
  obtain ⟨t, et, h4⟩ := h3.lftB
  obtain ⟨ht, et⟩ := cmpO_see et
  obtain ⟨f, ro⟩ := ry.ro
  exact ⟨c.P, dx, vy.o.d, t, S1.see sx3 rx2, ro.toRep S3.same ht, et, done_frz S3 h4 (by simp only [Rep])⟩
theorem x_cmp2 {o1 o2 : CmpOp} (hu : X.A.units + 64 < cLine) (hm : lastMarks [o1, o2] [e2, e3] = false) (ha : pE X nm W Γ a e1) (hb : pE X nm W Γ b e2) (hc : pE X nm W Γ cc e3) : pE X nm W Γ (.cmp2 o1 o2 a b cc) (.Compare e1 [o1, o2] [e2, e3] pos) := by
  refine (pe_chain (op_cmp (nm := nm) hu) (op_cmp (nm := nm) hu) ha hb hc hm).weak fun σ H Q hl h => ?_
  refine h.part fun c τ vx ρ1 R1 H1 fp1 S1 h1 x rx => ?_
  obtain ⟨dx, rx2, h2⟩ := Post.vw S1 rx h1
  refine At.ofPart S1 h2 fun vy ρ3 R3 H3 fp3 e3 sx3 S3 h3 y ry => ?_
  obtain ⟨dy, ry2, h4⟩ := Post.vw S3 ry h3
  obtain ⟨t, et, h5⟩ := h4.lftB
  refine ⟨c.P, dx, dy, t, S1.see sx3 rx2, ry2, et, t, rfl, ?_⟩
  cases t with
  | false => exact done_frz S3 h5 (by simp only [Rep])
  | true =>
    refine At.ofPart S3 h5 fun vz ρ6 R6 H6 fp6 e6 sx6 S6 h6 z rz => ?_
    obtain ⟨dz, rz2, h7⟩ := Post.vw S6 rz h6
    obtain ⟨u, eu, h8⟩ := h7.lftB
    exact ⟨c.P, dy, dz, u, S3.see sx6 ry2, rz2, eu, done_frz S6 h8 (by simp only [Rep])⟩
theorem rep_non {G : Gx} {P : Addr} {H : Hp} {d : D} {x : V} (r : Rep G P H d x) : decide (x = V.non) = isNon d := by
  cases d <;> simp only [Rep] at r <;> first | (subst r; rfl) | (obtain ⟨a, _, rfl, _⟩ := r; rfl) | (obtain ⟨a, _, _, rfl, _⟩ := r; rfl) | exact r.elim
theorem x_isN {j : Nat} (ha : pE X nm W Γ a e1) : pE X nm W Γ (.isN a) (.Compare e1 [.Is] [.Constant .none j p2] pos) := by
  refine (pe_cmp (pc_isN ha) (nomark _)).weak fun σ H Q hl h => ?_
  refine h.part fun c τ vx ρ1 R1 H1 fp1 S1 h1 x rx => ?_
  obtain ⟨dx, rx2, h2⟩ := Post.vw S1 rx h1
  rw [rep_non rx2]
  exact done_frz S1 h2 (by simp only [Rep])
theorem x_notN {j : Nat} (ha : pE X nm W Γ a e1) : pE X nm W Γ (.notN a) (.Compare e1 [.IsNot] [.Constant .none j p2] pos) := by
  refine (pe_cmp (pc_notN ha) (nomark _)).weak fun σ H Q hl h => ?_
  refine h.part fun c τ vx ρ1 R1 H1 fp1 S1 h1 x rx => ?_
  obtain ⟨dx, rx2, h2⟩ := Post.vw S1 rx h1
  rw [rep_non rx2]
  exact done_frz S1 h2 (by simp only [Rep])
end
end DL

set_option Elab.async false
set_option linter.all false
set_option maxRecDepth 100000
/-! DL11: expressions, continued: what is known of the text; lists of items; truth; and, or, not. -/
namespace DL
open PySem PySem.Spec PyProof.Rows L2

/-! ### of the text alone -/
def noStar : Expr → Bool
  | .Starred _ _ => false
  | _ => true
def noSlice : Expr → Bool
  | .Slice _ _ _ _ => false
  | _ => true
def noSup : Expr → Bool
  | .Call _ [] [] _ => false
  | _ => true
def plainT : Expr → Bool
  | .UnaryOp _ _ _ | .BoolOp _ _ _ | .IfExp _ _ _ _ | .Compare _ _ _ _ => false
  | _ => true
theorem star_of {e : Expr} {es : List Expr} {env : PySem.Env} (h : noStar e = true) : starEach (e :: es) env = (false, eval e env) :: starEach es env := by
  cases e <;> first | rfl | cases h
theorem stars_of {env : PySem.Env} {pos : Pos} : ∀ {es : List Expr}, es.all noStar = true → (backTo pos (starEach es env)).any (·.1) = false
  | [], _ => rfl
  | e :: es, h => by
    simp only [List.all_cons, Bool.and_eq_true] at h
    rw [star_of h.1]
    have q := stars_of (env := env) (pos := pos) h.2
    unfold backTo at q ⊢
    rw [List.map_cons, List.any_cons, q]; rfl
theorem ix_of {e : Expr} (h : noSlice e = true) : ∀ o i, subscripted e false o i = operate [o, i] (getItem o i) := by
  intro o i
  cases e <;> first | rfl | cases h
theorem ab_of {o : Expr} {f : Str} {env : PySem.Env} {w : Sem Value} (h : noSup o = true) : attributeBase o f env w = w := by
  unfold attributeBase
  split
  · rename_i id p1 p2
    exact absurd h (by simp [noSup])
  · rfl
theorem true_of {e : Expr} {env : PySem.Env} (h : plainT e = true) : ∀ whole, isTrue e env whole = (do let v ← whole; standAt e.pos; holding [v] (truthy v)) := by
  intro w
  cases e <;> first | rfl | cases h
theorem whole_of {op : BoolOp} {es : List Expr} {p : Pos} {env : PySem.Env} {w w' : Sem Value} : isTrue (.BoolOp op es p) env w = isTrue (.BoolOp op es p) env w' := rfl

section
variable {X : Cx} {nm : Nm} {W : WX} {Γ : Gam} {a b cc ex ey ez : E} {as : List E} {e e1 e2 e3 : Expr} {es rest : List Expr} {pos pos' p2 : Pos}
abbrev pAs (X : Cx) (nm : Nm) (W : WX) (Γ : Gam) (as : List E) (es : List Expr) : Prop := PA X es (tAs (gOf X nm) W Γ as)
abbrev pAv (X : Cx) (nm : Nm) (W : WX) (Γ : Gam) (as : List E) (es : List Expr) : Prop := PA X es (tAv (gOf X nm) W Γ as)
abbrev pT (X : Cx) (nm : Nm) (W : WX) (Γ : Gam) (a : E) (e : Expr) : Prop := PT X e (tT (gOf X nm) W Γ a)
theorem s_nil : pAs X nm W Γ [] [] := by
  refine pa_nil.weak fun σ H Q hl h => ?_
  obtain ⟨c, R, ρ, τ, fps, S, h⟩ := h
  exact Post.now h S [] RepL.nil
theorem s_cons (hs : noStar e = true) (ha : pE X nm W Γ a e) (hr : pAs X nm W Γ as es) : pAs X nm W Γ (a :: as) (e :: es) := by
  refine (pa_cons ha hr (star_of hs)).weak fun σ H Q hl h => ?_
  refine h.part fun c τ vx ρ1 R1 H1 fp1 S1 h1 x rx => ?_
  obtain ⟨dx, ρ2, R2, fp2, e2, S2, rx2, h2⟩ := Post.esc S1 rx h1
  refine At.ofPart S2 h2 fun ds ρ3 R3 H3 fp3 e3 _ S3 h3 xs rs => ?_
  exact Post.now h3 S3 (x :: xs) (RepL.cons (rx2.mono e3) rs)
theorem v_nil : pAv X nm W Γ [] [] := by
  refine pa_nil.weak fun σ H Q hl h => ?_
  obtain ⟨c, R, ρ, τ, fps, S, h⟩ := h
  exact Post.now h S [] RepL.nil
theorem v_cons (hs : noStar e = true) (ha : pE X nm W Γ a e) (hr : pAv X nm W Γ as es) : pAv X nm W Γ (a :: as) (e :: es) := by
  refine (pa_cons ha hr (star_of hs)).weak fun σ H Q hl h => ?_
  refine h.part fun c τ vx ρ1 R1 H1 fp1 S1 h1 x rx => ?_
  obtain ⟨dx, rx2, h2⟩ := Post.vw S1 rx h1
  refine At.ofPart S1 h2 fun ds ρ3 R3 H3 fp3 e3 sx S3 h3 xs rs => ?_
  exact Post.now h3 S3 (x :: xs) (RepL.cons (S1.see sx rx2) rs)
theorem x_tup {k : Nat} (h : pAs X nm W Γ as es) : pE X nm W Γ (.tup as) (.Tuple es k pos) := by
  refine (pe_tup h).weak fun σ H Q hl h => ?_
  refine h.part fun c τ ds ρ1 R1 H1 fp1 S1 h1 xs rx => ?_
  by_cases z : ds.length ≤ lineN
  · rw [if_pos z] at h1
    refine ⟨by rw [← rx.length, lineN_eq]; exact z, fun p hp => done_new S1 h1 hp fun R' e hR => ?_⟩
    simp only [Rep]
    exact ⟨p, xs, rfl, hR, rx.mono e⟩
  · rw [if_neg z] at h1; exact h1.elim
theorem x_lst (h : pAs X nm W Γ as es) : pE X nm W Γ (.lst as) (.List es pos) := by
  refine (pe_lst h).weak fun σ H Q hl h => ?_
  refine h.part fun c τ ds ρ1 R1 H1 fp1 S1 h1 xs rx => ?_
  by_cases z : ds.length ≤ lineN
  · rw [if_pos z] at h1
    exact ⟨by rw [← rx.length, lineN_eq]; exact z, fun p hp => done_list S1 h1 hp rx⟩
  · rw [if_neg z] at h1; exact h1.elim

/-! ### truth -/
theorem truV_of {P : Addr} {H : Hp} {d : D} {t : Bool} {x : V} (h : truthD d = some t) (r : Rep (gOf X nm) P H d x) : TruV X.K x H t := by
  have ee : ∀ {ds : List D} {xs : List V}, RepL (gOf X nm) P H ds xs → (!ds.isEmpty) = !xs.isEmpty := fun {ds xs} q => by
    cases ds with
    | nil => simp only [RepL] at q; subst q; rfl
    | cons d ds => simp only [RepL] at q; obtain ⟨y, ys, rfl, _⟩ := q; rfl
  cases d with
  | non => simp only [Rep] at r; subst r; simp only [truthD] at h; cases h; rfl
  | bl k => simp only [Rep] at r; subst r; simp only [truthD] at h; cases h; rfl
  | int i => simp only [Rep] at r; subst r; simp only [truthD] at h; cases h; rfl
  | str y =>
    simp only [Rep] at r; subst r
    simp only [truthD] at h
    split at h
    · rename_i z
      cases h
      refine ⟨by rw [lineN_eq]; exact z, ?_⟩
      rw [bne, bne]
      congr 1
      rw [Bool.eq_iff_iff, beq_iff_eq, beq_iff_eq]
      omega
    · cases h
  | tup ds =>
    simp only [Rep] at r
    obtain ⟨p, xs, rfl, e2, e3⟩ := r
    simp only [truthD] at h; cases h
    exact .inr (.inl ⟨xs, SqT.of e2, ee e3⟩)
  | lst ds =>
    simp only [Rep] at r
    obtain ⟨p, xs, rfl, e2, e3⟩ := r
    simp only [truthD] at h; cases h
    exact .inl ⟨xs, SqL.of e2, ee e3⟩
  | _ => simp only [truthD] at h; cases h
theorem Post.truth {G : Gx} {c : Cf} {σ τ : L2.St} {R H : Hp} {ρ : Env} {fps : List (List Addr)} {β : Type} {k : β → Env → Hp → Hp → List (List Addr) → Prop} {v : Val} {x : V} {f : Bool → M β} (S : Sim G c R H (σ ++ τ) ρ fps) (r : VR G c R H fps v x)
    (h : Post G W c σ τ R H k (bnd (DL.truth v) f ρ)) : ∃ d t, Rep G c.P H d x ∧ truthD d = some t ∧ Post G W c σ τ R H k (f t ρ) := by
  have h' : Post G W c σ τ R H k (bnd (DL.vw v) (fun d => bnd (lft (truthD d)) f) ρ) := by
    have e : bnd (DL.truth v) f ρ = bnd (DL.vw v) (fun d => bnd (lft (truthD d)) f) ρ := by
      unfold DL.truth bnd
      cases DL.vw v ρ <;> rfl
    rw [← e]; exact h
  obtain ⟨d, rd, h2⟩ := Post.vw S r h'
  obtain ⟨t, et, h3⟩ := h2.lftB
  exact ⟨d, t, rd, et, h3⟩
/-- a test that is an expression's truth -/
theorem t_tv (hp : plainT e = true) (ha : pE X nm W Γ a e) : pT X nm W Γ (.tv a) e := by
  refine (pt_truth ha (true_of hp)).weak fun σ H Q hl h => ?_
  refine h.part fun c τ vx ρ1 R1 H1 fp1 S1 h1 x rx => ?_
  have e : truth vx ρ1 = bnd (truth vx) ret ρ1 := by
    unfold bnd
    cases truth vx ρ1 <;> rfl
  rw [e] at h1
  obtain ⟨d, t, rd, et, h2⟩ := Post.truth S1 rx h1
  exact ⟨t, truV_of et rd, Post.now h2 S1⟩
theorem bl_truth {c : Cf} {R H : Hp} {σ τ : L2.St} {ρ : Env} {fps : List (List Addr)} {t : Bool} {Q : Bool → Hp → Prop} (S : Sim (gOf X nm) c R H (σ ++ τ) ρ fps)
    (h : Post (gOf X nm) W c σ τ R H (fun b _ _ H' _ => Q b H') (truth ⟨none, .frz (.bl t)⟩ ρ)) : Q t H := by
  have h' : Post (gOf X nm) W c σ τ R H (fun b _ _ H' _ => Q b H') (.ok t ρ) := h
  exact Post.now h' S
/-- a test that is a comparison: what it tells is a bool -/
theorem t_cmp {op : CmpOp} (hu : X.A.units + 64 < cLine) (hm : behindInMarks op e2 = false) (ha : pE X nm W Γ a e1) (hb : pE X nm W Γ b e2) : pT X nm W Γ (.tv (.cmp op a b)) (.Compare e1 [op] [e2] pos) := by
  refine (pt_cmpR (op_cmp (nm := nm) hu) ha hb hm).weak fun σ H Q hl h => ?_
  have h0 : At (gOf X nm) W (bnd (ev Γ a) fun x => bnd (vw x) fun x => bnd (ev Γ b) fun y => bnd (lft (cmpO op x y.o)) fun t => truth ⟨none, .frz (.bl t)⟩) (fun _ _ b _ _ H' _ => Q b H') σ H := by
    obtain ⟨c, R, ρ, τ, fps, S, h⟩ := h
    refine ⟨c, R, ρ, τ, fps, S, ?_⟩
    have e : evT Γ (.tv (.cmp op a b)) ρ = bnd (ev Γ a) (fun x => bnd (vw x) fun x => bnd (ev Γ b) fun y => bnd (lft (cmpO op x y.o)) fun t => truth ⟨none, .frz (.bl t)⟩) ρ := by
      show bnd (bnd (ev Γ a) fun x => bnd (vw x) fun x => bnd (ev Γ b) fun y => bnd (lft (cmpO op x y.o)) fun t => frz (.bl t)) truth ρ = _
      unfold bnd
      cases ev Γ a ρ with
      | ok x ρ1 =>
        dsimp only
        cases vw x ρ1 with
        | ok d ρ2 =>
          dsimp only
          cases ev Γ b ρ2 with
          | ok y ρ3 =>
            dsimp only
            cases cmpO op d y.o <;> rfl
          | _ => rfl
        | _ => rfl
      | _ => rfl
    rw [← e]; exact h
  refine h0.part fun c τ vx ρ1 R1 H1 fp1 S1 h1 x rx => ?_
  obtain ⟨dx, rx2, h2⟩ := Post.vw S1 rx h1
  refine At.ofPart S1 h2 fun vy ρ3 R3 H3 fp3 e3 sx3 S3 h3 y ry => ?_
  obtain ⟨t, et, h4⟩ := h3.lftB
  obtain ⟨ht, et⟩ := cmpO_see et
  obtain ⟨f, ro⟩ := ry.ro
  exact ⟨c.P, dx, vy.o.d, t, S1.see sx3 rx2, ro.toRep S3.same ht, et, t, rfl, bl_truth S3 h4⟩
theorem t_cmp2 {o1 o2 : CmpOp} (hu : X.A.units + 64 < cLine) (hm : lastMarks [o1, o2] [e2, e3] = false) (ha : pE X nm W Γ a e1) (hb : pE X nm W Γ b e2) (hc : pE X nm W Γ cc e3) : pT X nm W Γ (.tv (.cmp2 o1 o2 a b cc)) (.Compare e1 [o1, o2] [e2, e3] pos) := by
  refine (pt_chain (op_cmp (nm := nm) hu) (op_cmp (nm := nm) hu) ha hb hc hm).weak fun σ H Q hl h => ?_
  have h0 : At (gOf X nm) W (bnd (ev Γ a) fun x => bnd (vw x) fun x => bnd (ev Γ b) fun y => bnd (vw y) fun y => bnd (lft (cmpD o1 x y)) fun t =>
      if t = true then bnd (ev Γ cc) fun z => bnd (vw z) fun z => bnd (lft (cmpD o2 y z)) fun u => truth ⟨none, .frz (.bl u)⟩ else truth ⟨none, .frz (.bl false)⟩) (fun _ _ b _ _ H' _ => Q b H') σ H := by
    obtain ⟨c, R, ρ, τ, fps, S, h⟩ := h
    refine ⟨c, R, ρ, τ, fps, S, ?_⟩
    have e : evT Γ (.tv (.cmp2 o1 o2 a b cc)) ρ = bnd (ev Γ a) (fun x => bnd (vw x) fun x => bnd (ev Γ b) fun y => bnd (vw y) fun y => bnd (lft (cmpD o1 x y)) fun t =>
      if t = true then bnd (ev Γ cc) fun z => bnd (vw z) fun z => bnd (lft (cmpD o2 y z)) fun u => truth ⟨none, .frz (.bl u)⟩ else truth ⟨none, .frz (.bl false)⟩) ρ := by
      show bnd (bnd (ev Γ a) fun x => bnd (vw x) fun x => bnd (ev Γ b) fun y => bnd (vw y) fun y => bnd (lft (cmpD o1 x y)) fun t =>
        if t = true then bnd (ev Γ cc) fun z => bnd (vw z) fun z => bnd (lft (cmpD o2 y z)) fun u => frz (.bl u) else frz (.bl false)) truth ρ = _
      unfold bnd
      cases ev Γ a ρ with
      | ok x ρ1 =>
        dsimp only
        cases vw x ρ1 with
        | ok d ρ2 =>
          dsimp only
          cases ev Γ b ρ2 with
          | ok y ρ3 =>
            dsimp only
            cases vw y ρ3 with
            | ok d' ρ4 =>
              dsimp only
              cases cmpD o1 d d' with
              | none => rfl
              | some t =>
                cases t with
                | false => rfl
                | true =>
                  simp only [lft, ret, if_true]
                  cases ev Γ cc ρ4 with
                  | ok z ρ5 =>
                    dsimp only
                    cases vw z ρ5 with
                    | ok d6 ρ6 =>
                      dsimp only
                      cases cmpD o2 d' d6 <;> rfl
                    | _ => rfl
                  | _ => rfl
            | _ => rfl
          | _ => rfl
        | _ => rfl
      | _ => rfl
    rw [← e]; exact h
  refine h0.part fun c τ vx ρ1 R1 H1 fp1 S1 h1 x rx => ?_
  obtain ⟨dx, rx2, h2⟩ := Post.vw S1 rx h1
  refine At.ofPart S1 h2 fun vy ρ3 R3 H3 fp3 e3 sx3 S3 h3 y ry => ?_
  obtain ⟨dy, ry2, h4⟩ := Post.vw S3 ry h3
  obtain ⟨t, et, h5⟩ := h4.lftB
  refine ⟨c.P, dx, dy, t, S1.see sx3 rx2, ry2, et, t, rfl, ?_⟩
  cases t with
  | false => exact ⟨false, rfl, bl_truth S3 h5⟩
  | true =>
    refine At.ofPart S3 h5 fun vz ρ6 R6 H6 fp6 e6 sx6 S6 h6 z rz => ?_
    obtain ⟨dz, rz2, h7⟩ := Post.vw S6 rz h6
    obtain ⟨u, eu, h8⟩ := h7.lftB
    exact ⟨c.P, dy, dz, u, S3.see sx6 ry2, rz2, eu, u, rfl, bl_truth S6 h8⟩
/-! ### and, or, not -/
theorem t_and1 (ha : pT X nm W Γ a e1) (hb : pT X nm W Γ b e2) : pT X nm W Γ (.tand a b) (.BoolOp .And [e1, e2] pos) := by
  refine (pw_and ha (pw_and1 hb)).pt.weak fun σ H Q hl h => ?_
  refine h.part fun c τ t ρ1 R1 H1 fp1 S1 h1 => ?_
  cases t with
  | true => exact At.of S1 h1
  | false => exact Post.now h1 S1
theorem t_or1 (ha : pT X nm W Γ a e1) (hb : pT X nm W Γ b e2) : pT X nm W Γ (.tor a b) (.BoolOp .Or [e1, e2] pos) := by
  refine (pw_or ha (pw_or1 hb)).pt.weak fun σ H Q hl h => ?_
  refine h.part fun c τ t ρ1 R1 H1 fp1 S1 h1 => ?_
  cases t with
  | true => exact Post.now h1 S1
  | false => exact At.of S1 h1
theorem pw_of {op : BoolOp} {t : TT} (h : PT X (.BoolOp op es pos) t) : PW X (.BoolOp op es pos) t := ⟨fun whole pins s σ H Q I q => by
  have := h.run pins s σ H Q I q
  rw [whole_of (w' := whole)] at this
  exact this⟩
theorem t_and2 (ha : pT X nm W Γ a e1) (hb : pT X nm W Γ b (.BoolOp .And (e2 :: rest) pos)) : pT X nm W Γ (.tand a b) (.BoolOp .And (e1 :: e2 :: rest) pos) := by
  refine (pw_and ha (pw_of hb)).pt.weak fun σ H Q hl h => ?_
  refine h.part fun c τ t ρ1 R1 H1 fp1 S1 h1 => ?_
  cases t with
  | true => exact At.of S1 h1
  | false => exact Post.now h1 S1
theorem t_or2 (ha : pT X nm W Γ a e1) (hb : pT X nm W Γ b (.BoolOp .Or (e2 :: rest) pos)) : pT X nm W Γ (.tor a b) (.BoolOp .Or (e1 :: e2 :: rest) pos) := by
  refine (pw_or ha (pw_of hb)).pt.weak fun σ H Q hl h => ?_
  refine h.part fun c τ t ρ1 R1 H1 fp1 S1 h1 => ?_
  cases t with
  | true => exact Post.now h1 S1
  | false => exact At.of S1 h1
theorem t_not (ha : pT X nm W Γ a e1) : pT X nm W Γ (.tnot a) (.UnaryOp .Not e1 pos) := by
  refine (pt_not ha).weak fun σ H Q hl h => ?_
  refine h.part fun c τ t ρ1 R1 H1 fp1 S1 h1 => ?_
  exact Post.now h1 S1
/-- .. as values -/
theorem x_and (ha : pE X nm W Γ a e1) (hb : pE X nm W Γ b (.BoolOp .And (e2 :: rest) pos)) : pE X nm W Γ (.and a b) (.BoolOp .And (e1 :: e2 :: rest) pos) := by
  refine ⟨fun pins s σ H Q I h => ?_⟩
  have h0 := h.part (k' := fun c τ vx ρ1 R1 H1 fp1 => ∀ x, VR (gOf X nm) c R1 H1 fp1 vx x → ∃ t, TruV X.K x H1 t ∧ if t = true then tE (gOf X nm) W Γ b σ H1 Q else Q x H1) fun c τ vx ρ1 R1 H1 fp1 S1 h1 x rx => by
    obtain ⟨d, t, rd, et, h2⟩ := Post.truth S1 rx h1
    refine ⟨t, truV_of et rd, ?_⟩
    cases t with
    | true => exact At.of S1 h2
    | false =>
      obtain ⟨dx, ρ2, R2, fp2, e2, S2, rx2, h3⟩ := Post.esc S1 rx h2
      exact done_frz S2 h3 rx2
  refine BoolOp_and (thn (ha.run pins s σ H (fun x H1 => ∃ t, TruV X.K x H1 t ∧ if t = true then tE (gOf X nm) W Γ b σ H1 Q else Q x H1) I h0) fun v s1 ⟨x, H1, I1, r1, t, q1, q2⟩ => ?_)
  refine thn (tru_ok pins s1 σ H1 x v (fun t' H2 => t' = t ∧ H2 = H1) I1 r1 ⟨t, q1, rfl, rfl⟩) fun t' s2 ⟨H2, I2, e1, e2⟩ => ?_
  subst e1 e2
  cases t' with
  | true => exact hb.run pins s2 σ H2 Q I2 q2
  | false => exact ⟨x, H2, I2, r1, q2⟩
theorem x_or (ha : pE X nm W Γ a e1) (hb : pE X nm W Γ b (.BoolOp .Or (e2 :: rest) pos)) : pE X nm W Γ (.or a b) (.BoolOp .Or (e1 :: e2 :: rest) pos) := by
  refine ⟨fun pins s σ H Q I h => ?_⟩
  have h0 := h.part (k' := fun c τ vx ρ1 R1 H1 fp1 => ∀ x, VR (gOf X nm) c R1 H1 fp1 vx x → ∃ t, TruV X.K x H1 t ∧ if t = true then Q x H1 else tE (gOf X nm) W Γ b σ H1 Q) fun c τ vx ρ1 R1 H1 fp1 S1 h1 x rx => by
    obtain ⟨d, t, rd, et, h2⟩ := Post.truth S1 rx h1
    refine ⟨t, truV_of et rd, ?_⟩
    cases t with
    | false => exact At.of S1 h2
    | true =>
      obtain ⟨dx, ρ2, R2, fp2, e2, S2, rx2, h3⟩ := Post.esc S1 rx h2
      exact done_frz S2 h3 rx2
  refine BoolOp_or (thn (ha.run pins s σ H (fun x H1 => ∃ t, TruV X.K x H1 t ∧ if t = true then Q x H1 else tE (gOf X nm) W Γ b σ H1 Q) I h0) fun v s1 ⟨x, H1, I1, r1, t, q1, q2⟩ => ?_)
  refine thn (tru_ok pins s1 σ H1 x v (fun t' H2 => t' = t ∧ H2 = H1) I1 r1 ⟨t, q1, rfl, rfl⟩) fun t' s2 ⟨H2, I2, e1, e2⟩ => ?_
  subst e1 e2
  cases t' with
  | false => exact hb.run pins s2 σ H2 Q I2 q2
  | true => exact ⟨x, H2, I2, r1, q2⟩
theorem x_not (ha : pE X nm W Γ a e1) : pE X nm W Γ (.not (.tv a)) (.UnaryOp .Not e1 pos) := by
  refine ⟨fun pins s σ H Q I h => ?_⟩
  have h1 : At (gOf X nm) W (bnd (ev Γ a) fun x => bnd (truth x) fun t => frz (.bl (!t))) (fun c _ v _ R' H' fps' => ∀ x, VR (gOf X nm) c R' H' fps' v x → Q x H') σ H := by
    obtain ⟨c, R, ρ, τ, fps, S, h⟩ := h
    refine ⟨c, R, ρ, τ, fps, S, ?_⟩
    have e : ev Γ (.not (.tv a)) ρ = bnd (ev Γ a) (fun x => bnd (truth x) fun t => frz (.bl (!t))) ρ := by
      show bnd (bnd (ev Γ a) truth) (fun t => frz (.bl (!t))) ρ = _
      unfold bnd
      cases ev Γ a ρ <;> rfl
    rw [← e]; exact h
  have h0 := h1.part (k' := fun c τ vx ρ1 R1 H1 fp1 => ∀ x, VR (gOf X nm) c R1 H1 fp1 vx x → ∃ t, TruV X.K x H1 t ∧ Q (.bl (!t)) H1) fun c τ vx ρ1 R1 H1 fp1 S1 h1 x rx => by
    obtain ⟨d, t, rd, et, h2⟩ := Post.truth S1 rx h1
    exact ⟨t, truV_of et rd, done_frz S1 h2 (by simp only [Rep])⟩
  refine UnaryOp_ (thn (ha.run pins s σ H (fun x H1 => ∃ t, TruV X.K x H1 t ∧ Q (.bl (!t)) H1) I h0) fun v s1 ⟨x, H1, I1, r1, t, q1, q2⟩ => ?_)
  refine not_of (thn (tru_ok pins s1 σ H1 x v (fun t' H2 => t' = t ∧ H2 = H1) I1 r1 ⟨t, q1, rfl, rfl⟩) fun t' s2 ⟨H2, I2, e1, e2⟩ => ?_)
  subst e1 e2
  exact ⟨.bl (!t'), H2, I2, rfl, q2⟩
theorem x_ife (hc : pT X nm W Γ cc e3) (ha : pE X nm W Γ a e1) (hb : pE X nm W Γ b e2) : pE X nm W Γ (.ife cc a b) (.IfExp e3 e1 e2 pos) := by
  refine (pe_ifExp hc ha hb).weak fun σ H Q hl h => ?_
  refine h.part fun c τ t ρ1 R1 H1 fp1 S1 h1 => ?_
  cases t with
  | true => exact At.of S1 h1
  | false => exact At.of S1 h1
end
end DL

set_option Elab.async false
set_option linter.all false
set_option maxRecDepth 100000
/-! DL12: subscripts, slices, the pen, dict displays, built-ins. -/
namespace DL
open PySem PySem.Spec PyProof.Rows L2
section
variable {X : Cx} {nm : Nm} {W : WX} {Γ : Gam} {a b cc ex ey ez : E} {as : List E} {e e1 e2 e3 : Expr} {es rest : List Expr} {pos pos' p2 p3 : Pos}
theorem IxR.imp' {r r' : R2} (h : IxR X r) (f : ∀ x y H Q, r' x y H Q → r x y H Q) : IxR X r' := fun value slice pins s σ H x y v u Q I rx ry q hs => h value slice pins s σ H x y v u Q I rx ry (f x y H Q q) hs
theorem atI_repL {G : Gx} {P : Addr} {H : Hp} {ds : List D} {xs : List V} {k : Int} {d : D} (r : RepL G P H ds xs) (h : atI ds k = some d) : ∃ v, atI xs k = some v ∧ Rep G P H d v := by
  unfold atI at h ⊢
  rw [Option.bind_eq_some_iff] at h
  obtain ⟨j, e, h⟩ := h
  obtain ⟨v, h1, h2⟩ := r.get h
  exact ⟨v, by rw [← r.length, e]; exact h1, h2⟩
/-- a value's item, read in the region P, H -/
theorem ix_at {P : Addr} {R H : Hp} {d e : D} {x : V} {k : Int} {Q : VK} (same : Same R H) (r : Rep (gOf X nm) P R d x) (h : ixD d k = some e) (q : ∀ y, Rep (gOf X nm) P R e y → Q y H) : rIx X.K x (.int k) H Q := by
  unfold ixD at h
  split at h
  · simp only [Rep] at r
    obtain ⟨p, xs, rfl, hp, hx⟩ := r
    obtain ⟨v, hv, rv⟩ := atI_repL hx h
    exact .inr (.inl ⟨p, xs, _, v, rfl, rfl, Same.sqT same hp, hv, q v rv⟩)
  · simp only [Rep] at r
    obtain ⟨p, xs, rfl, hp, hx⟩ := r
    obtain ⟨v, hv, rv⟩ := atI_repL hx h
    exact .inl ⟨p, xs, _, v, rfl, rfl, SqL.of (same _ _ hp), hv, q v rv⟩
  · split at h
    · rename_i hl
      rw [Option.map_eq_some_iff] at h
      obtain ⟨c, hc, rfl⟩ := h
      simp only [Rep] at r
      subst r
      exact .inr (.inr ⟨_, _, c, rfl, rfl, by rw [lineN_eq]; exact hl, hc, q _ (by simp only [Rep])⟩)
    · cases h
  · cases h
theorem x_ix (hs : noSlice e2 = true) (ha : pE X nm W Γ a e1) (hb : pE X nm W Γ b e2) : pE X nm W Γ (.ix a b) (.Subscript e1 e2 pos) := by
  refine (pe_ix ix_seq ha hb (ix_of hs)).weak fun σ H Q hl h => ?_
  refine h.part fun c τ vx ρ1 R1 H1 fp1 S1 h1 x rx => ?_
  obtain ⟨dx, ρ2, R2, fp2, e2, S2, rx2, h2⟩ := Post.esc S1 rx h1
  refine At.ofPart S2 h2 fun vy ρ3 R3 H3 fp3 e3 _ S3 h3 y ry => ?_
  obtain ⟨k, rfl, h4⟩ := Post.int ry h3
  obtain ⟨o, eo, h5⟩ := h4.lft1
  rw [Option.map_eq_some_iff] at eo
  obtain ⟨d, ed, rfl⟩ := eo
  exact ix_at S3.same (rx2.mono e3) ed fun y ry => done_frz S3 h5 ry
/-- an item of what a slot owns -/
theorem rol_at {G : Gx} {P : Addr} {R H : Hp} : ∀ {os : List O} {xs : List V} {fp : List Addr} {j : Nat} {o : O}, ROL G P H R os xs fp → os[j]? = some o → ∃ v f l1 l2, xs[j]? = some v ∧ RO G P H R o v f ∧ fp = l1 ++ (f ++ l2)
  | [], xs, fp, j, o, h, e => by simp at e
  | o1 :: os, xs, fp, j, o, h, e => by
    simp only [ROL] at h
    obtain ⟨y, ys, f1, f2, rfl, rfl, h3, h4⟩ := h
    cases j with
    | zero => simp at e; subst e; exact ⟨y, f1, [], f2, rfl, h3, rfl⟩
    | succ j =>
      obtain ⟨v, f, l1, l2, a1, a2, rfl⟩ := rol_at (j := j) h4 (by simpa using e)
      exact ⟨v, f, f1 ++ l1, l2, by simpa using a1, a2, by simp⟩
theorem rol_len {G : Gx} {P : Addr} {R H : Hp} : ∀ {os : List O} {xs : List V} {fp : List Addr}, ROL G P H R os xs fp → os.length = xs.length
  | [], xs, fp, h => by simp only [ROL] at h; rw [h.1]; rfl
  | o :: os, xs, fp, h => by
    simp only [ROL] at h
    obtain ⟨y, ys, f1, f2, rfl, rfl, h3, h4⟩ := h
    simp [rol_len h4]
theorem atI_rol {G : Gx} {P : Addr} {R H : Hp} {os : List O} {xs : List V} {fp : List Addr} {k : Int} {o : O} (r : ROL G P H R os xs fp) (h : atI os k = some o) : ∃ v f l1 l2, atI xs k = some v ∧ RO G P H R o v f ∧ fp = l1 ++ (f ++ l2) := by
  unfold atI at h
  rw [Option.bind_eq_some_iff] at h
  obtain ⟨j, e, h⟩ := h
  obtain ⟨v, f, l1, l2, h1, h2, h3⟩ := rol_at r h
  exact ⟨v, f, l1, l2, by unfold atI; rw [← rol_len r, e]; exact h1, h2, h3⟩
/-- an item of what stands at a slot: seen there -/
theorem vr_at {c : Cf} {R H : Hp} {σ : L2.St} {ρ : Env} {fps : List (List Addr)} {i : Nat} {o o' : O} {x : V} {k : Int} (S : Sim (gOf X nm) c R H σ ρ fps) (r : VR (gOf X nm) c R H fps ⟨some i, o⟩ x) (h : ixO o k = some o') :
    ∀ Q : VK, (∀ y, VR (gOf X nm) c R H fps ⟨some i, o'⟩ y → Q y H) → rIx X.K x (.int k) H Q := by
  intro Q q
  obtain ⟨f, g, h1, h2, h3, h4⟩ := r
  cases o with
  | own os =>
    simp only [ixO] at h
    simp only [RO] at h1
    obtain ⟨p, xs, fq, rfl, hp, rfl, hx⟩ := h1
    obtain ⟨v, f', l1, l2, hv, rv, rfl⟩ := atI_rol hx h
    refine .inl ⟨p, xs, k, v, rfl, rfl, SqL.of hp, hv, q v ⟨f', g, rv, ?_, h3, fun a ha => h4 a (by simp [ha])⟩⟩
    have h2' := (List.nodup_cons.mp h2).2
    exact (List.nodup_append.mp ((List.nodup_append.mp h2').2.1)).1
  | frz d =>
    simp only [ixO, Option.map_eq_some_iff] at h
    obtain ⟨e, he, rfl⟩ := h
    simp only [RO] at h1
    exact ix_at S.same h1.1 he fun y ry => q y ⟨[], g, by simp only [RO]; exact ⟨ry, trivial⟩, List.nodup_nil, h3, fun _ z => nomatch z⟩
  | ins _ _ _ => simp only [ixO] at h; cases h
  | odt _ _ => simp only [ixO] at h; cases h
theorem x_v1 {i : Nat} {x : Str} (hN : X.N[i]? = some x) (hv : Vis X.env.scope x) (hd : (x == ("__debug__" : Str)) = false) (hcd : (x == ("__classdict__" : Str)) = false) (hs : noSlice e2 = true) (hb : pE X nm W Γ a e2) :
    pE X nm W Γ (.v1 i a) (.Subscript (.Name x p2) e2 pos) := by
  refine (pe_ix ix_seq (pe_var hN hv hd hcd) hb (ix_of hs)).weak fun σ H Q hl h => ?_
  have hi : i < σ.length := by rw [hl]; exact (List.getElem?_eq_some_iff.mp hN).1
  obtain ⟨c, R, ρ, τ, fps, S, h⟩ := h
  obtain ⟨o, x, _, hx, _, h0⟩ := Post.rd S hi h
  refine ⟨x, hx, At.ofPart S h0 fun vy ρ3 R3 H3 fp3 e3 _ S3 h3 y ry => ?_⟩
  obtain ⟨k, rfl, h4⟩ := Post.int ry h3
  obtain ⟨o2, x2, _, hx2, r2, h5⟩ := Post.rd S3 hi h4
  rw [hx2] at hx; cases hx
  obtain ⟨v', ev, h6⟩ := h5.lft1
  rw [Option.map_eq_some_iff] at ev
  obtain ⟨o', eo, rfl⟩ := ev
  exact vr_at S3 r2 eo Q fun y ry => Post.now h6 S3 y ry
theorem vr_own {c : Cf} {R H : Hp} {σ : L2.St} {ρ : Env} {fps : List (List Addr)} {i : Nat} {os : List O} {x : V} (S : Sim (gOf X nm) c R H σ ρ fps) (r : VR (gOf X nm) c R H fps ⟨some i, .own os⟩ x) :
    ∃ p xs, x = .ref p ∧ H p = some (.lst xs) ∧ p ≠ c.P ∧ ∀ k o', atI os k = some o' → ∃ v, atI xs k = some v ∧ VR (gOf X nm) c R H fps ⟨some i, o'⟩ v := by
  obtain ⟨f, g, h1, h2, h3, h4⟩ := r
  simp only [RO] at h1
  obtain ⟨p, xs, fq, rfl, hp, rfl, hx⟩ := h1
  refine ⟨p, xs, rfl, hp, (S.out i g p h3 (h4 p (by simp))).p, fun k o' h => ?_⟩
  obtain ⟨v, f', l1, l2, hv, rv, rfl⟩ := atI_rol hx h
  refine ⟨v, hv, f', g, rv, ?_, h3, fun a ha => h4 a (by simp [ha])⟩
  exact (List.nodup_append.mp ((List.nodup_append.mp (List.nodup_cons.mp h2).2).2.1)).1
theorem ixO_own {o : O} {k : Int} {os : List O} (h : ixO o k = some (.own os)) : ∃ ps, o = .own ps ∧ atI ps k = some (.own os) := by
  cases o with
  | own ps => exact ⟨ps, rfl, h⟩
  | frz d =>
    simp only [ixO, Option.map_eq_some_iff] at h
    obtain ⟨_, _, h⟩ := h; cases h
  | _ => simp only [ixO] at h; cases h
theorem x_v2 {i : Nat} {x : Str} (hN : X.N[i]? = some x) (hv : Vis X.env.scope x) (hd : (x == ("__debug__" : Str)) = false) (hcd : (x == ("__classdict__" : Str)) = false) (hs : noSlice e2 = true) (hs3 : noSlice e3 = true) (ha : pE X nm W Γ a e2) (hb : pE X nm W Γ b e3) :
    pE X nm W Γ (.v2 i a b) (.Subscript (.Subscript (.Name x p2) e2 pos) e3 pos') := by
  refine (pe_ix ix_seq (pe_ix ix_seq (pe_var hN hv hd hcd) ha (ix_of hs)) hb (ix_of hs3)).weak fun σ H Q hl h => ?_
  have hi : i < σ.length := by rw [hl]; exact (List.getElem?_eq_some_iff.mp hN).1
  obtain ⟨c, R, ρ, τ, fps, S, h⟩ := h
  obtain ⟨o, x, _, hx, _, h0⟩ := Post.rd S hi h
  refine ⟨x, hx, At.ofPart S h0 fun vy ρ3 R3 H3 fp3 e3 _ S3 h3 y ry => ?_⟩
  obtain ⟨k, rfl, h4⟩ := Post.int ry h3
  obtain ⟨o2, x2, _, hx2, r2, h5⟩ := Post.rd S3 hi h4
  rw [hx2] at hx; cases hx
  dsimp only at h5
  cases eo : ixO o2 k with
  | none => rw [eo] at h5; exact h5.elim
  | some o' =>
    rw [eo] at h5
    cases o' with
    | frz d =>
      refine vr_at S3 r2 eo _ fun z rz => ?_
      refine At.ofPart S3 h5 fun vm ρ6 R6 H6 fp6 e6 _ S6 h6 m rm => ?_
      obtain ⟨m', rfl, h7⟩ := Post.int rm h6
      obtain ⟨v', ev, h8⟩ := h7.lft1
      rw [Option.map_eq_some_iff] at ev
      obtain ⟨d', ed, rfl⟩ := ev
      obtain ⟨f, q⟩ := rz.ro
      simp only [RO] at q
      exact ix_at S6.same (q.1.mono e6) ed fun y ry => done_frz S6 h8 ry
    | own os =>
      obtain ⟨ps, rfl, eps⟩ := ixO_own eo
      obtain ⟨p, xs, rfl, hp, np, items⟩ := vr_own S3 r2
      obtain ⟨z, hz, rz⟩ := items k _ eps
      refine .inl ⟨p, xs, k, z, rfl, rfl, SqL.of hp, hz, ?_⟩
      refine At.ofPart S3 h5 fun vm ρ6 R6 H6 fp6 e6 sx6 S6 h6 m rm => ?_
      obtain ⟨m', rfl, h7⟩ := Post.int rm h6
      obtain ⟨o7, x7, ho7, hx7, r7, h8⟩ := Post.rd S6 hi h7
      rw [hx7] at hx2; cases hx2
      dsimp only at h8
      cases eo7 : ixO o7 k with
      | none => rw [eo7] at h8; exact h8.elim
      | some o8 =>
        rw [eo7] at h8
        cases o8 with
        | own os8 =>
          obtain ⟨ps7, rfl, eps7⟩ := ixO_own eo7
          obtain ⟨p7, xs7, e7, hp7, _, items7⟩ := vr_own S6 r7
          cases e7
          have hh := sx6.at_ p _ np (fun _ z => by cases z) hp
          rw [hh] at hp7; cases hp7
          obtain ⟨z7, hz7, rz7⟩ := items7 k _ eps7
          rw [hz] at hz7; cases hz7
          obtain ⟨v', ev, h9⟩ := h8.lft1
          rw [Option.map_eq_some_iff] at ev
          obtain ⟨o9, e9, rfl⟩ := ev
          exact vr_at S6 rz7 e9 Q fun y ry => Post.now h9 S6 y ry
        | _ => exact h8.elim
    | _ => exact h5.elim
/-! ### slices -/
abbrev tO (G : Gx) (W : WX) (Γ : Gam) (a : E) : TO := fun σ H Q => At G W (prt a.isNo (ev Γ a)) (fun _ _ o _ _ H' _ => Q o H') σ H
theorem PO_weak {o : Option Expr} {t t' : TO} (h : PO X o t) (f : ∀ σ H Q, t' σ H Q → t σ H Q) : PO X o t' := ⟨fun pins s σ H Q I q => h.run pins s σ H Q I (f σ H Q q)⟩
theorem o_no : PO X none (tO (gOf X nm) W Γ .no) := PO_weak po_none fun σ H Q ⟨c, R, ρ, τ, fps, S, h⟩ => by
  have h' : Post (gOf X nm) W c σ τ R H (fun o _ _ H' _ => Q o H') (.ok none ρ) := h
  exact Post.now h' S
theorem o_some (hn : a.isNo = false) (ha : pE X nm W Γ a e) : PO X (some e) (tO (gOf X nm) W Γ a) := PO_weak (po_some ha) fun σ H Q h => by
  have h0 : At (gOf X nm) W (bnd (ev Γ a) fun x => bnd (vInt x) fun i => ret (some i)) (fun _ _ o _ _ H' _ => Q o H') σ H := by
    have e : prt a.isNo (ev Γ a) = bnd (ev Γ a) fun x => bnd (vInt x) fun i => ret (some i) := by rw [hn]; rfl
    rw [← e]; exact h
  refine h0.part fun c τ vx ρ1 R1 H1 fp1 S1 h1 x rx => ?_
  obtain ⟨i, rfl, h2⟩ := Post.int rx h1
  exact ⟨i, rfl, Post.now h2 S1⟩
theorem cut_repL {P : Addr} {H : Hp} {ds : List D} {xs : List V} (lo hi : Option Int) (r : RepL (gOf X nm) P H ds xs) : RepL (gOf X nm) P H (cutL ds lo hi) (cutV xs lo hi) := by
  unfold cutL cutV
  rw [r.length]
  exact (r.drop _).take _
theorem cut_whole {ds : List D} {lo hi : Option Int} (h : HT.sIx ds.length 0 lo = 0 ∧ HT.sIx ds.length ds.length hi = ds.length) : cutL ds lo hi = ds := by
  unfold cutL
  rw [h.1, h.2]
  simp
theorem x_slc {lo hi : E} {el eh : Option Expr} (ha : pE X nm W Γ a e1) (hlo : PO X el (tO (gOf X nm) W Γ lo)) (hhi : PO X eh (tO (gOf X nm) W Γ hi)) : pE X nm W Γ (.slc a lo hi) (.Subscript e1 (.Slice el eh none p2) pos) := by
  refine (pe_slice (sl_list.or sl_tupA) ha hlo hhi).weak fun σ H Q hl h => ?_
  refine h.part fun c τ vx ρ1 R1 H1 fp1 S1 h1 x rx => ?_
  obtain ⟨dx, ρ2, R2, fp2, e2, S2, rx2, h2⟩ := Post.esc S1 rx h1
  refine At.ofPart S2 h2 fun l ρ3 R3 H3 fp3 e3 _ S3 h3 => ?_
  refine At.ofPart S3 h3 fun u ρ4 R4 H4 fp4 e4 _ S4 h4 => ?_
  obtain ⟨v', ev, h5⟩ := h4.lft1
  rw [Option.map_eq_some_iff] at ev
  obtain ⟨o, eo, rfl⟩ := ev
  have rx4 := rx2.mono (e3.trans e4)
  unfold slcD at eo
  split at eo
  · cases eo
    simp only [Rep] at rx4
    obtain ⟨p, xs, rfl, hp, hx⟩ := rx4
    refine .inr ⟨p, xs, rfl, Same.sqT S4.same hp, fun hw => done_frz S4 h5 ?_, fun hw q hq => done_new S4 h5 hq fun R' e hR => ?_⟩
    · rw [cut_whole (by rw [hx.length]; exact hw)]
      simp only [Rep]
      exact ⟨p, xs, rfl, hp, hx⟩
    · simp only [Rep]
      exact ⟨q, _, rfl, hR, (cut_repL l u hx).mono e⟩
  · cases eo
    simp only [Rep] at rx4
    obtain ⟨p, xs, rfl, hp, hx⟩ := rx4
    exact .inl ⟨p, xs, rfl, SqL.of (S4.same _ _ hp), fun q hq => done_list S4 h5 hq (cut_repL l u hx)⟩
  · cases eo
/-! ### the pen -/
theorem isPen_ok {c : Cf} {R H : Hp} {σ τ : L2.St} {ρ : Env} {fps : List (List Addr)} {i : Nat} {β : Type} {k : β → Env → Hp → Hp → List (List Addr) → Prop} {f : Pen → M β} (S : Sim (gOf X nm) c R H (σ ++ τ) ρ fps) (hi : i < σ.length)
    (h : Post (gOf X nm) W c σ τ R H k (bnd (isPen i) f ρ)) : σ[i]? = some (some (.ref c.P)) ∧ Post (gOf X nm) W c σ τ R H k (f ρ.pen ρ) := by
  unfold bnd isPen at h
  cases e : ρ.sl[i]? with
  | none => rw [e] at h; exact h.elim
  | some u =>
    rw [e] at h
    cases u with
    | none => exact h.elim
    | some o =>
      cases o with
      | frz d =>
        cases d with
        | pen =>
          obtain ⟨v, f', h1, h2, h3⟩ := S.sl.at_ i _ e
          simp only [RO, Rep] at h3
          rw [List.getElem?_append_left hi, h3.1] at h1
          exact ⟨h1, h⟩
        | _ => exact h.elim
      | _ => exact h.elim
def PF.key : PF → Str
  | .count => "count" | .at_ => "at" | .digits => "digits" | .fold => "fold"
theorem pen_get {c : Addr} {p : Pen} (f : PF) : valV (penKs c p) (.inr f.key) = some (.int (penGet p f)) := by
  cases f <;> rfl
theorem x_pget {i : Nat} {x : Str} {f : PF} {y : Str} {j : Nat} (hu : X.A.units + 1 < cLine) (hN : X.N[i]? = some x) (hv : Vis X.env.scope x) (hd : (x == ("__debug__" : Str)) = false) (hcd : (x == ("__classdict__" : Str)) = false) (hy : y = f.key) :
    pE X nm W Γ (.pget i f) (.Subscript (.Name x p2) (.Constant (.str y) j p3) pos) := by
  subst hy
  refine (pe_dget hu (pe_var hN hv hd hcd) pe_str (ix_of rfl)).weak fun σ H Q hl h => ?_
  have hi : i < σ.length := by rw [hl]; exact (List.getElem?_eq_some_iff.mp hN).1
  obtain ⟨c, R, ρ, τ, fps, S, h⟩ := h
  obtain ⟨hx, h1⟩ := isPen_ok S hi h
  obtain ⟨cl, hP, _⟩ := S.pen
  refine ⟨_, hx, c.P, .int (penGet ρ.pen f), rfl, ?_, done_frz S h1 (by simp only [Rep])⟩
  have g := DGet.k (k := .inr f.key) hP
  rw [pen_get] at g
  exact g
theorem x_pcell {i : Nat} {x : Str} {j : Nat} (hu : X.A.units + 1 < cLine) (hN : X.N[i]? = some x) (hv : Vis X.env.scope x) (hd : (x == ("__debug__" : Str)) = false) (hcd : (x == ("__classdict__" : Str)) = false) (hs : noSlice e2 = true) (hb : pE X nm W Γ a e2) :
    pE X nm W Γ (.pcell i a) (.Subscript (.Subscript (.Name x p2) (.Constant (.str "cells") j p3) pos) e2 pos') := by
  refine (pe_ix ix_list (pe_dget hu (pe_var hN hv hd hcd) pe_str (ix_of rfl)) hb (ix_of hs)).weak fun σ H Q hl h => ?_
  have hi : i < σ.length := by rw [hl]; exact (List.getElem?_eq_some_iff.mp hN).1
  obtain ⟨c, R, ρ, τ, fps, S, h⟩ := h
  obtain ⟨hx, h1⟩ := isPen_ok S hi h
  obtain ⟨cl, hP, hc, _⟩ := S.pen
  refine ⟨_, hx, c.P, .ref cl, rfl, DGet.k (k := .inr "cells") hP, ?_⟩
  refine At.ofPart S h1 fun vy ρ3 R3 H3 fp3 e3 _ S3 h3 y ry => ?_
  obtain ⟨k, rfl, h4⟩ := Post.int ry h3
  obtain ⟨m, em, h6⟩ := h4.lftB
  refine ⟨cl, _, k, .int m, rfl, rfl, S3.same.seq (e3.seq hc), ?_, done_frz S3 h6 (by simp only [Rep])⟩
  unfold atI at em ⊢
  rw [Option.bind_eq_some_iff] at em ⊢
  obtain ⟨j, ej, em⟩ := em
  exact ⟨j, by rw [List.length_map]; exact ej, by rw [List.getElem?_map, em]; rfl⟩
theorem x_plen {i : Nat} {x : Str} {j : Nat} (hu : X.A.units + 1 < cLine) (hg : Gl X "len") (hm : X.mg "len" = none) (hN : X.N[i]? = some x) (hv : Vis X.env.scope x) (hd : (x == ("__debug__" : Str)) = false) (hcd : (x == ("__classdict__" : Str)) = false) {p4 p5 : Pos} :
    pE X nm W Γ (.plen i) (.Call (.Name "len" p4) [.Subscript (.Name x p2) (.Constant (.str "cells") j p3) pos] [] p5) := by
  refine (pe_callB (call_len_seq (X := X)) hg hm boot_len (pa_cons (pe_dget hu (pe_var hN hv hd hcd) pe_str (ix_of rfl)) pa_nil)).weak fun σ H Q hl h => ?_
  have hi : i < σ.length := by rw [hl]; exact (List.getElem?_eq_some_iff.mp hN).1
  obtain ⟨c, R, ρ, τ, fps, S, h⟩ := h
  obtain ⟨hx, h1⟩ := isPen_ok S hi h
  obtain ⟨cl, hP, hc, _⟩ := S.pen
  refine ⟨_, hx, c.P, .ref cl, rfl, DGet.k (k := .inr "cells") hP, ?_⟩
  exact ⟨cl, _, rfl, .inl (S.same.seq hc), by rw [List.length_map]; exact done_frz S h1 (by simp only [Rep])⟩
/-! ### a dict of texts, written down -/
theorem mergeK_nodup : ∀ {more kvs : List (Key × V)}, (kvs.map (·.1) ++ more.map (·.1)).Nodup → mergeK kvs more = kvs ++ more
  | [], kvs, _ => by simp [mergeK]
  | p :: more, kvs, h => by
    have hn : p.1 ∉ kvs.map (·.1) := fun hm => (List.nodup_append.mp h).2.2 _ hm _ (by simp) rfl
    have e : putK kvs p.1 p.2 = kvs ++ [p] := by
      refine putK_new p.2 ?_
      unfold valV
      rw [Option.map_eq_none_iff, List.find?_eq_none]
      intro x hx hc
      exact hn (List.mem_map.mpr ⟨x, hx, of_decide_eq_true hc⟩)
    have q := mergeK_nodup (more := more) (kvs := kvs ++ [p]) (by simpa using h)
    unfold mergeK at q ⊢
    rw [List.foldl_cons, e, q]
    simp
def Cn.v : Cn → V
  | .non => .non | .bl b => .bl b | .int i => .int i | .str x => .str x
theorem Cn.rep {G : Gx} {P : Addr} {R : Hp} (k : Cn) : Rep G P R k.d k.v := by cases k <;> simp only [Cn.d, Cn.v, Rep]
theorem cns_rep {G : Gx} {P : Addr} {R : Hp} : ∀ cs : List Cn, RepL G P R (cs.map Cn.d) (cs.map Cn.v)
  | [] => RepL.nil
  | k :: cs => RepL.cons k.rep (cns_rep cs)
theorem x_dct0 : pE X nm W Γ (.dct [] []) (.Dict [] [] pos) := by
  refine pe_dnewK.weak fun σ H Q _ h => ?_
  intro p hpn
  obtain ⟨c, R, ρ, τ, fps, S, h⟩ := h
  have h' : Fin (gOf X nm) W c σ τ R H Q (.ok ⟨none, .frz (.dct [] [])⟩ ρ) := h
  exact done_new S h' hpn fun R' e hR => by
    simp only [Rep]
    exact ⟨p, [], rfl, S.notP hpn, hR, rfl, RepL.nil⟩
theorem tPairs_c {σ : L2.St} {Q : List (V × V) → Hp → Prop} {H : Hp} : ∀ {ks : List Str} {cs : List Cn}, Q ((ks.map V.str).zip (cs.map Cn.v)) H → tPairs ((ks.zip cs).map fun p => (tC (.str p.1), tC p.2.v)) σ H Q
  | [], _, h => by simpa [tPairs] using h
  | _ :: _, [], h => by simpa [tPairs] using h
  | k :: ks, c :: cs, h => by
    show tPairs ((ks.zip cs).map fun p => (tC (.str p.1), tC p.2.v)) σ H _
    exact tPairs_c (by simpa using h)
theorem zip_keys : ∀ {ks : List Str} {xs : List V}, (ks.map V.str).zip xs = ((ks.map (Sum.inr : Str → Key)).zip xs).map fun kv => (kV kv.1, kv.2)
  | [], _ => rfl
  | _ :: _, [] => rfl
  | k :: ks, x :: xs => by
    simp only [List.map_cons, List.zip_cons_cons, zip_keys (ks := ks)]
    rfl
theorem x_dct {ks : List Str} {cs : List Cn} {keys : List (Option Expr)} (hp : PPs X pos keys es ((ks.zip cs).map fun p => (tC (.str p.1), tC p.2.v))) (hall : keys.all (·.isSome) = true) (hl : keys.length = es.length) (h0 : keys ≠ []) (h15 : keys.length ≤ 15) :
    pE X nm W Γ (.dct ks cs) (.Dict keys es pos) := by
  refine (pe_disp hp hall hl h0 h15).weak fun σ H Q _ h => ?_
  intro p hpn
  obtain ⟨c, R, ρ, τ, fps, S, h⟩ := h
  have np := S.notP hpn
  change Fin (gOf X nm) W c σ τ R H Q ((if cs.length = ks.length ∧ ks.Nodup ∧ ks.length ≤ 15 then frz (.dct (ks.map Sum.inr) (cs.map Cn.d)) else bad) ρ) at h
  by_cases z : cs.length = ks.length ∧ ks.Nodup ∧ ks.length ≤ 15
  · rw [if_pos z] at h
    have h' : Fin (gOf X nm) W c σ τ R H Q (.ok ⟨none, .frz (.dct (ks.map Sum.inr) (cs.map Cn.d))⟩ ρ) := h
    obtain ⟨z1, z2, z3⟩ := z
    refine tPairs_c ⟨upd_same, (ks.map (Sum.inr : Str → Key)).zip (cs.map Cn.v), zip_keys, by rw [List.length_zip, List.length_map, List.length_map]; omega, ?_⟩
    have lx : (cs.map Cn.v).length = ks.length := by rw [List.length_map]; exact z1
    have km : ((ks.map (Sum.inr : Str → Key)).zip (cs.map Cn.v)).map (·.1) = ks.map (Sum.inr : Str → Key) := by
      rw [List.map_fst_zip]; simp only [List.length_map]; omega
    have vm : ((ks.map (Sum.inr : Str → Key)).zip (cs.map Cn.v)).map (·.2) = cs.map Cn.v := by
      rw [List.map_snd_zip]; simp only [List.length_map]; omega
    have nk : (ks.map (Sum.inr : Str → Key)).Nodup := by
      rw [List.nodup_iff_pairwise_ne, List.pairwise_map]
      exact (List.nodup_iff_pairwise_ne.mp z2).imp fun hne e => hne (Sum.inr.inj e)
    rw [mergeK_nodup (by rw [km]; simpa using nk), List.nil_append]
    have uu : upd (upd H p (.dK [])) p (.dK ((ks.map (Sum.inr : Str → Key)).zip (cs.map Cn.v))) = upd H p (.dK ((ks.map (Sum.inr : Str → Key)).zip (cs.map Cn.v))) := by
      funext b
      by_cases e : b = p
      · subst e; rw [upd_same, upd_same]
      · rw [upd_ne e, upd_ne e, upd_ne e]
    rw [uu]
    refine done_new S h' hpn fun R' e hR => ?_
    simp only [Rep]
    exact ⟨p, _, rfl, np, hR, km, by rw [vm]; exact cns_rep cs⟩
  · rw [if_neg z] at h; exact h.elim
theorem pp_one {k : Str} {c : Cn} {ek ev : Expr} {keys : List (Option Expr)} {ks : List Str} {cs : List Cn} (hk : PE X ek (tC (.str k))) (hv : PE X ev (tC c.v)) (h : PPs X pos keys es ((ks.zip cs).map fun p => (tC (.str p.1), tC p.2.v))) :
    PPs X pos (some ek :: keys) (ev :: es) (((k :: ks).zip (c :: cs)).map fun p => (tC (.str p.1), tC p.2.v)) := pps_cons hk hv h
/-! ### built-ins by name -/
theorem x_biB {bb : B} {id : String} {x : Str} (hc : CallR X (.builtin id) (rBi (gOf X nm) bb)) (hb : bb.esc = false) (hg : Gl X x) (hm : X.mg x = none) (hv : bootBuiltins x = some (.builtin id)) (hn : x ≠ "__name__") (hdb : (x == ("__debug__" : Str)) = false)
    (hs : (e :: es).all noStar = true) (ha : pAv X nm W Γ as (e :: es)) : pE X nm W Γ (.bi bb as) (.Call (.Name x p2) (e :: es) [] pos) := by
  have hs' := hs
  rw [List.all_cons, Bool.and_eq_true] at hs'
  refine (pe_callB hc hg hm hv ha hn hdb (star_of hs'.1) (stars_of hs'.2)).weak fun σ H Q hl h => ?_
  have h0 : At (gOf X nm) W (bnd (evv Γ as) fun ds => lft ((biD bb ds).map fun o => (⟨none, o⟩ : Val))) (fun c _ v _ R' H' fps' => ∀ x, VR (gOf X nm) c R' H' fps' v x → Q x H') σ H := by
    have e : ev Γ (.bi bb as) = bnd (evv Γ as) fun ds => lft ((biD bb ds).map fun o => (⟨none, o⟩ : Val)) := by
      show (if bb.esc = true then _ else _) = _
      rw [hb]; rfl
    rw [← e]; exact h
  refine h0.part fun c τ ds ρ1 R1 H1 fp1 S1 h1 xs rs => ?_
  obtain ⟨o, eo, h2⟩ := h1.lft1
  rw [Option.map_eq_some_iff] at eo
  obtain ⟨o', eo, rfl⟩ := eo
  exact ⟨W, c, R1, σ, τ, ρ1, fp1, ds, o', S1, rs, eo, h2⟩
theorem bi_esc {bb : B} (hb : bb.esc = true) {σ : L2.St} {H : Hp} {Q : VK} (h : tE (gOf X nm) W Γ (.bi bb as) σ H Q) : tCB (rBe (gOf X nm) bb) (tAs (gOf X nm) W Γ as) σ H Q := by
  have h0 : At (gOf X nm) W (bnd (evs Γ as) fun ds => lft ((biE bb ds).map fun o => (⟨none, o⟩ : Val))) (fun c _ v _ R' H' fps' => ∀ x, VR (gOf X nm) c R' H' fps' v x → Q x H') σ H := by
    have e : ev Γ (.bi bb as) = bnd (evs Γ as) fun ds => lft ((biE bb ds).map fun o => (⟨none, o⟩ : Val)) := by
      show (if bb.esc = true then _ else _) = _
      rw [hb]; rfl
    rw [← e]; exact h
  refine h0.part fun c τ ds ρ1 R1 H1 fp1 S1 h1 xs rs => ?_
  obtain ⟨o, eo, h2⟩ := h1.lft1
  rw [Option.map_eq_some_iff] at eo
  obtain ⟨o', eo, rfl⟩ := eo
  exact ⟨W, c, R1, σ, τ, ρ1, fp1, ds, o', S1, rs, eo, h2⟩
theorem bi_see {bb : B} (hb : bb.esc = false) {σ : L2.St} {H : Hp} {Q : VK} (h : tE (gOf X nm) W Γ (.bi bb as) σ H Q) : tCB (rBi (gOf X nm) bb) (tAv (gOf X nm) W Γ as) σ H Q := by
  have h0 : At (gOf X nm) W (bnd (evv Γ as) fun ds => lft ((biD bb ds).map fun o => (⟨none, o⟩ : Val))) (fun c _ v _ R' H' fps' => ∀ x, VR (gOf X nm) c R' H' fps' v x → Q x H') σ H := by
    have e : ev Γ (.bi bb as) = bnd (evv Γ as) fun ds => lft ((biD bb ds).map fun o => (⟨none, o⟩ : Val)) := by
      show (if bb.esc = true then _ else _) = _
      rw [hb]; rfl
    rw [← e]; exact h
  refine h0.part fun c τ ds ρ1 R1 H1 fp1 S1 h1 xs rs => ?_
  obtain ⟨o, eo, h2⟩ := h1.lft1
  rw [Option.map_eq_some_iff] at eo
  obtain ⟨o', eo, rfl⟩ := eo
  exact ⟨W, c, R1, σ, τ, ρ1, fp1, ds, o', S1, rs, eo, h2⟩
theorem x_biE {bb : B} {id : String} {x : Str} (hc : CallR X (.builtin id) (rBe (gOf X nm) bb)) (hb : bb.esc = true) (hg : Gl X x) (hm : X.mg x = none) (hv : bootBuiltins x = some (.builtin id)) (hn : x ≠ "__name__") (hdb : (x == ("__debug__" : Str)) = false)
    (hs : (e :: es).all noStar = true) (ha : pAs X nm W Γ as (e :: es)) : pE X nm W Γ (.bi bb as) (.Call (.Name x p2) (e :: es) [] pos) := by
  have hs' := hs
  rw [List.all_cons, Bool.and_eq_true] at hs'
  exact (pe_callB hc hg hm hv ha hn hdb (star_of hs'.1) (stars_of hs'.2)).weak fun σ H Q _ h => bi_esc hb h
theorem x_biTE {bb : B} {id : String} {x : Str} (hc : CallR X (.type id) (rBe (gOf X nm) bb)) (hb : bb.esc = true) (hg : Gl X x) (hm : X.mg x = none) (hv : bootBuiltins x = some (.type id)) (hn : x ≠ "__name__") (hdb : (x == ("__debug__" : Str)) = false)
    (hs : (e :: es).all noStar = true) (ha : pAs X nm W Γ as (e :: es)) : pE X nm W Γ (.bi bb as) (.Call (.Name x p2) (e :: es) [] pos) := by
  have hs' := hs
  rw [List.all_cons, Bool.and_eq_true] at hs'
  exact (pe_callTy hc hg hm hv ha hn hdb (star_of hs'.1) (stars_of hs'.2)).weak fun σ H Q _ h => bi_esc hb h
theorem x_biTB {bb : B} {id : String} {x : Str} (hc : CallR X (.type id) (rBi (gOf X nm) bb)) (hb : bb.esc = false) (hg : Gl X x) (hm : X.mg x = none) (hv : bootBuiltins x = some (.type id)) (hn : x ≠ "__name__") (hdb : (x == ("__debug__" : Str)) = false)
    (hs : (e :: es).all noStar = true) (ha : pAv X nm W Γ as (e :: es)) : pE X nm W Γ (.bi bb as) (.Call (.Name x p2) (e :: es) [] pos) := by
  have hs' := hs
  rw [List.all_cons, Bool.and_eq_true] at hs'
  exact (pe_callTy hc hg hm hv ha hn hdb (star_of hs'.1) (stars_of hs'.2)).weak fun σ H Q _ h => bi_see hb h
theorem x_biM {bb : B} {id : String} {x : Str} (hc : CallR X (.builtin id) (rBi (gOf X nm) bb)) (hb : bb.esc = false) (hg : Gl X x) (hm : X.mg x = some (.builtin id)) (hdb : (x == ("__debug__" : Str)) = false)
    (hs : (e :: es).all noStar = true) (ha : pAv X nm W Γ as (e :: es)) : pE X nm W Γ (.bi bb as) (.Call (.Name x p2) (e :: es) [] pos) := by
  have hs' := hs
  rw [List.all_cons, Bool.and_eq_true] at hs'
  exact (pe_callBfun hc hg hm ha hdb (star_of hs'.1) (stars_of hs'.2)).weak fun σ H Q _ h => bi_see hb h
/-! ### methods -/
theorem bits_eq (i : Int) : ((Builtin.Int.intBits i : Nat) : Int) = (if i = 0 then (0 : Int) else ((i.natAbs.log2 + 1 : Nat) : Int)) := by
  unfold Builtin.Int.intBits
  by_cases h : i = 0
  · subst h; rfl
  · rw [if_neg h, if_neg (by simpa using h)]
theorem x_bits (hsup : noSup e = true) (hl : (pos'.endLine == pos.line) = true) (ha : pE X nm W Γ a e) : pE X nm W Γ (.me .bitlen a []) (.Call (.Attribute e "bit_length" pos') [] [] pos) := by
  refine (pe_bits ha (ab_of hsup) hl).weak fun σ H Q _ h => ?_
  refine h.part fun c τ vx ρ1 R1 H1 fp1 S1 h1 x rx => ?_
  obtain ⟨d, rd, h2⟩ := Post.vw S1 rx h1
  have h3 : Fin (gOf X nm) W c σ τ R1 H1 Q (lft ((meD .bitlen d []).map fun o => (⟨none, o⟩ : Val)) ρ1) := h2
  obtain ⟨v, hv, h4⟩ := h3.lft1
  rw [Option.map_eq_some_iff] at hv
  obtain ⟨o, eo, rfl⟩ := hv
  cases d with
  | int i =>
    simp only [Rep] at rd
    subst rd
    simp only [meD] at eo
    cases eo
    exact ⟨i, rfl, by rw [bits_eq]; exact done_frz S1 h4 (by simp only [Rep])⟩
  | _ => simp only [meD] at eo; cases eo
/-! ### isinstance: of built-in types -/
def Ty.n : Ty → String
  | .int => "int" | .bool => "bool" | .str => "str" | .tuple => "tuple" | .list => "list" | .dict => "dict"
def dTy : D → Option String
  | .non => some "NoneType" | .bl _ => some "bool" | .int _ => some "int" | .str _ => some "str" | .tup _ => some "tuple" | .lst _ => some "list" | .dct _ _ => some "dict"
  | _ => none
def btys : List String := ["NoneType", "bool", "int", "str", "tuple", "list", "dict"]
def tys : List Ty := [.int, .bool, .str, .tuple, .list, .dict]
/-- what is known of the own classes -/
structure ClsF (K : PySem.W.Frag) (nm : Nm) (cl : List Nat) : Prop where
  cc : ∀ h ∈ cl, ∀ g ∈ cl, PySem.W.kitOne K (.ref (He.ga K (nm h))) (.ref (He.ga K (nm g))) = some (decide (h = g))
  bc : ∀ g ∈ cl, ∀ t ∈ btys, PySem.W.kitOne K (.type t) (.ref (He.ga K (nm g))) = some false
  cb : ∀ h ∈ cl, ∀ t ∈ tys, PySem.W.kitOne K (.ref (He.ga K (nm h))) (.type t.n) = some false
  own : ∀ h ∈ cl, Cls K (He.ga K (nm h)) ∧ PySem.W.findIn K (.ref (He.ga K (nm h))) "__class__" = some (some (.builtin "object.__class__")) ∧ PySem.W.mroIn K (He.ga K (nm h)) (.type "object") = some true
  nx : ∀ h ∈ cl, nm.xc h = false
  gd : cl ≠ [] → PySem.W.specialIn K (.builtin "object.__class__") "__get__" = some (some (.builtin "getset_descriptor.__get__")) ∧ PySem.W.takesIn K (.builtin "object.__class__") = some true
/-- a type as a value -/
def tyV (K : PySem.W.Frag) (nm : Nm) : T → V
  | .ty t => .ty t.n
  | .cl g => .ref (He.ga K (nm g))
def tyU (K : PySem.W.Frag) (nm : Nm) : T → Value
  | .ty t => .type t.n
  | .cl g => .ref (He.ga K (nm g))
theorem tyV_cls {K : PySem.W.Frag} (t : T) : ClsV (tyV K nm t) (tyU K nm t) := by
  cases t with
  | ty t => exact .ty _
  | cl g => exact .own _
/-- a datum's type -/
def dU (K : PySem.W.Frag) (nm : Nm) (d : D) : Value := match d with
  | .obj h _ _ => .ref (He.ga K (nm h))
  | d => .type ((dTy d).getD "object")
theorem ty_of {P : Addr} {H : Hp} {d : D} {x : V} {cl : List Nat} {ts : List T} {t : Bool} (F : ClsF X.K nm cl) (r : Rep (gOf X nm) P H d x) (h : isaD cl d ts = some t) : TyX X.K H x (dU X.K nm d) := by
  cases d with
  | non => simp only [Rep] at r; subst r; exact .base .non
  | bl b => simp only [Rep] at r; subst r; exact .base (.bl b)
  | int i => simp only [Rep] at r; subst r; exact .base (.int i)
  | str y => simp only [Rep] at r; subst r; exact .base (.str y)
  | tup ds =>
    simp only [Rep] at r
    obtain ⟨a, xs, rfl, hT, _⟩ := r
    exact .base (.tup hT)
  | lst ds =>
    simp only [Rep] at r
    obtain ⟨a, xs, rfl, hT, _⟩ := r
    exact .base (.lst hT)
  | dct ks ds =>
    simp only [Rep] at r
    obtain ⟨a, kvs, rfl, _, hT, _⟩ := r
    exact .base (.dK hT)
  | obj h ns ds =>
    simp only [Rep] at r
    obtain ⟨a, dx, fs, rfl, hT, _⟩ := r
    simp only [isaD] at h
    split at h
    · rename_i hc
      have hc' := List.contains_iff_mem.mp hc
      obtain ⟨f1, f2, f3⟩ := F.own _ hc'
      obtain ⟨f4, f5⟩ := F.gd (List.ne_nil_of_mem hc')
      rcases hT with ⟨_, hT⟩ | ⟨z, _⟩
      · exact .base (.ins hT f1 f2 f4 f5 f3)
      · exact absurd ((F.nx _ hc').symm.trans z) (by simp)
    · cases h
  | _ => simp only [isaD] at h; cases h
/-- which built-in types lie within which -/
def tyB (n : String) (t : Ty) : Bool := n == t.n || (n == "bool" && t == .int)
theorem kit_all : ∀ n ∈ btys, ∀ t ∈ tys, kitB n t.n = some (tyB n t) := by decide +kernel
theorem Ty.mem (t : Ty) : t ∈ tys := by cases t <;> decide
theorem dTy_mem {d : D} {n : String} (h : dTy d = some n) : n ∈ btys := by cases d <;> simp only [dTy] at h <;> cases h <;> decide
theorem isTy_B {d : D} {n : String} (t : Ty) (h : dTy d = some n) : isTy d t = tyB n t := by
  cases d <;> simp only [dTy] at h <;> cases h <;> cases t <;> rfl
theorem kit_bt {K : PySem.W.Frag} {d : D} {ty : Ty} {n : String} (h : dTy d = some n) : PySem.W.kitOne K (.type n) (.type ty.n) = some (isTy d ty) := by
  rw [isTy_B ty h]
  exact kit_ty (kit_all n (dTy_mem h) ty ty.mem)
theorem dU_ty {K : PySem.W.Frag} {d : D} {n : String} (h : dTy d = some n) : dU K nm d = .type n := by
  unfold dU
  split
  · simp only [dTy] at h; cases h
  · rw [h]; rfl
theorem kit_t1 {cl : List Nat} {d : D} {t : T} {b : Bool} (F : ClsF X.K nm cl) (ok : ∀ h ns xs, d = .obj h ns xs → h ∈ cl) (hd : (¬ ∃ h ns xs, d = .obj h ns xs) → ∃ n, dTy d = some n ∧ n ∈ btys) (h : isT1 cl d t = some b) : PySem.W.kitOne X.K (dU X.K nm d) (tyU X.K nm t) = some b := by
  by_cases o : ∃ h ns xs, d = .obj h ns xs
  · obtain ⟨k, ns, xs, rfl⟩ := o
    have hk := ok _ _ _ rfl
    cases t with
    | ty t =>
      simp only [isT1] at h; cases h
      have z : isTy (.obj k ns xs) t = false := by cases t <;> rfl
      rw [z]
      exact F.cb k hk t t.mem
    | cl g =>
      simp only [isT1] at h
      split at h
      · rename_i hg
        cases h
        exact F.cc k hk g (List.contains_iff_mem.mp hg)
      · cases h
  · obtain ⟨n, hn, hb⟩ := hd o
    rw [dU_ty hn]
    cases t with
    | ty t =>
      simp only [isT1] at h; cases h
      exact kit_bt hn
    | cl g =>
      simp only [isT1] at h
      split at h
      · rename_i hg
        cases h
        have z : isCl d g = false := by
          unfold isCl
          split
          · exact (o ⟨_, _, _, rfl⟩).elim
          · rfl
        rw [z]
        exact F.bc g (List.contains_iff_mem.mp hg) n hb
      · cases h
theorem isa_ok {cl : List Nat} {d : D} {ts : List T} {b : Bool} (h : isaD cl d ts = some b) : isTs cl d ts = some b ∧ (∀ k ns xs, d = .obj k ns xs → k ∈ cl) ∧ ((¬ ∃ k ns xs, d = .obj k ns xs) → ∃ n, dTy d = some n ∧ n ∈ btys) := by
  cases d <;> simp only [isaD] at h
  case obj k ns xs =>
    split at h
    · rename_i hc
      refine ⟨h, fun k' ns' xs' e => ?_, fun e => (e ⟨_, _, _, rfl⟩).elim⟩
      cases e; exact List.contains_iff_mem.mp hc
    · cases h
  all_goals first
    | (cases h; done)
    | exact ⟨h, fun _ _ _ e => (nomatch e), fun _ => ⟨_, rfl, by decide⟩⟩
theorem kit_ts {cl : List Nat} {d : D} (F : ClsF X.K nm cl) (ok : ∀ h ns xs, d = .obj h ns xs → h ∈ cl) (hd : (¬ ∃ h ns xs, d = .obj h ns xs) → ∃ n, dTy d = some n ∧ n ∈ btys) : ∀ {ts : List T} {b : Bool}, isTs cl d ts = some b →
    PySem.W.kitAny X.K (dU X.K nm d) (ts.map (tyU X.K nm)) = some b
  | [], b, h => by simp only [isTs] at h; cases h; rfl
  | t :: ts, b, h => by
    simp only [isTs] at h
    rw [List.map_cons]
    unfold PySem.W.kitAny
    split at h
    · rename_i e
      cases h
      rw [kit_t1 F ok hd e]
    · rename_i e
      rw [kit_t1 F ok hd e]
      exact kit_ts F ok hd h
    · cases h
theorem kit_one {cl : List Nat} {d : D} (F : ClsF X.K nm cl) (ok : ∀ h ns xs, d = .obj h ns xs → h ∈ cl) (hd : (¬ ∃ h ns xs, d = .obj h ns xs) → ∃ n, dTy d = some n ∧ n ∈ btys) {t : T} {b : Bool} (h : isTs cl d [t] = some b) :
    PySem.W.kitOne X.K (dU X.K nm d) (tyU X.K nm t) = some b := by
  simp only [isTs] at h
  split at h
  · rename_i e; cases h; exact kit_t1 F ok hd e
  · rename_i e; cases h; exact kit_t1 F ok hd e
  · cases h
theorem boot_isi : bootBuiltins ("isinstance" : Str) = some (.builtin "isinstance") := by with_unfolding_all rfl
theorem x_isa1 {t : T} {y : Str} {et : Expr} (F : ClsF X.K nm Γ.cls) (hg : Gl X "isinstance") (hm : X.mg "isinstance" = none) (hs : noStar e = true) (hst : noStar et = true) (ht : PE X et (tC (tyV X.K nm t))) (ha : pE X nm W Γ a e) :
    pE X nm W Γ (.isa a [t]) (.Call (.Name "isinstance" p2) [e, et] [] pos) := by
  have hall : [et].all noStar = true := by simp [hst]
  refine (pe_callB call_isi hg hm boot_isi (pa_cons ha (pa_cons ht pa_nil (star_of hst)) (star_of hs)) (by decide) (by decide) (star_of hs) (stars_of hall)).weak fun σ H Q _ h => ?_
  refine h.part fun c τ vx ρ1 R1 H1 fp1 S1 h1 x rx => ?_
  obtain ⟨d, rd, h2⟩ := Post.vw S1 rx h1
  obtain ⟨b, eb, h3⟩ := h2.lftB
  obtain ⟨i1, i2, i3⟩ := isa_ok eb
  exact ⟨x, tyV X.K nm t, dU X.K nm d, tyU X.K nm t, b, rfl, tyV_cls t, ty_of F rd eb, kit_one F i2 i3 i1, done_frz S1 h3 (by simp only [Rep])⟩
theorem x_isa {ts : List T} {k : Nat} (F : ClsF X.K nm Γ.cls) (hg : Gl X "isinstance") (hm : X.mg "isinstance" = none) (hs : noStar e = true) (hl : ts.length ≤ lineN) (ht : PA X es (fun _ H Q => Q (ts.map (tyV X.K nm)) H)) (ha : pE X nm W Γ a e) :
    pE X nm W Γ (.isa a ts) (.Call (.Name "isinstance" p2) [e, .Tuple es k p3] [] pos) := by
  refine (pe_callB call_isiT hg hm boot_isi (pa_cons ha (pa_cons (pe_tup ht) pa_nil) (star_of hs)) (by decide) (by decide) (star_of hs) rfl).weak fun σ H Q _ h => ?_
  refine h.part fun c τ vx ρ1 R1 H1 fp1 S1 h1 x rx => ?_
  refine ⟨by rw [List.length_map, lineN_eq]; exact hl, fun p hp => ?_⟩
  obtain ⟨d, rd, h2⟩ := Post.vw S1 rx h1
  obtain ⟨b, eb, h3⟩ := h2.lftB
  obtain ⟨i1, i2, i3⟩ := isa_ok eb
  obtain ⟨S2, e2, sx2⟩ := S1.new (o := .tup (ts.map (tyV X.K nm))) hp
  refine ⟨x, p, ts.map (tyV X.K nm), dU X.K nm d, ts.map (tyU X.K nm), b, rfl, upd_same, ?_, ty_of F (S1.see sx2 rd) eb, kit_ts F i2 i3 i1, ?_⟩
  · clear hl ht h1 h2 h3 eb i1 S2 e2 sx2 h
    induction ts with
    | nil => exact .nil
    | cons t ts ih => exact .cons (tyV_cls t) ih
  · exact (h3.mono e2 sx2).now S2 _ (VR.frz none S2 (by simp only [Rep]))
end
end DL

set_option Elab.async false
set_option linter.all false
set_option maxRecDepth 100000
/-! DL13: what is owned changes; slots in another order; targets; what is walked. -/
namespace DL
open PySem PySem.Spec PyProof.Rows L2
section
variable {G : Gx} {c : Cf} {R R' H H' : Hp} {σ σ2 τ : L2.St} {ρ : Env} {fps : List (List Addr)}
theorem tabs_upd {T : List (Addr × Str)} {q : Addr} {ob u : HO} (t : LamX.Tabs T H) (h : H q = some u) (k : Kn u) : LamX.Tabs T (upd H q ob) := fun p hp => by
  obtain ⟨ps, h1, h2, h3⟩ := t p hp
  have ne : ∀ {a o}, H a = some o → (∀ z, z = o → ¬ Kn z) → a ≠ q := fun {a o} ha n e => by
    rw [e, h] at ha
    exact n u (Option.some.inj ha) k
  refine ⟨ps, by rw [upd_ne (ne h1 fun z e kz => kz.1 _ e)]; exact h1, h2, fun pos cv hc => ?_⟩
  obtain ⟨c1, e1, e2⟩ := h3 pos cv hc
  exact ⟨c1, e1, by rw [upd_ne (ne e2 fun z e kz => kz.2.1 _ e)]; exact e2⟩
/-- what a slot owns changes at one address -/
theorem Sim.putO (s : Sim G c R H σ ρ fps) {i : Nat} {f f' : List Addr} {q : Addr} {ob : HO} {o o' : O} {v : V} (ho : ρ.sl[i]? = some (some o)) (hi : fps[i]? = some f) (hq : q ∈ f) (hv : σ[i]? = some (some v)) (new : RO G c.P (upd H q ob) R o' v f') (nd : f'.Nodup)
    (mine : ∀ a ∈ f', a ∈ f ∨ (Mine c R H a ∧ ∀ (j : Nat) (g : List Addr), fps[j]? = some g → a ∉ g)) : Sim G c R (upd H q ob) σ (ρ.set i (some o')) (fps.set i f') where
  same := fun a o h => by
    have mq := s.out i f q hi hq
    rw [upd_ne fun e => by rw [e, mq.r] at h; cases h]
    exact s.same a o h
  base := s.base
  keep := SX.upd' s.keep (s.out i f q hi hq).h0
  sl := ⟨by show (ρ.sl.set i _).length = _; rw [List.length_set]; exact s.sl.l1, by rw [List.length_set]; exact s.sl.l2, fun j o hj => by
    rcases getElem?_set_cases hj with ⟨e, e2, hl⟩ | ⟨e, hj⟩
    · subst e; cases e2
      exact ⟨v, f', hv, by rw [List.getElem?_set_self (by rw [s.sl.l2, ← s.sl.l1]; exact hl)], new⟩
    · obtain ⟨w, g, h1, h2, h3⟩ := s.sl.at_ j o hj
      refine ⟨w, g, h1, by rw [List.getElem?_set_ne e]; exact h2, RO.mono (Same.refl R) o w g (fun a ha => ?_) h3⟩
      exact upd_ne fun e2 => s.dis.ds i j f g q e hi h2 hq (e2 ▸ ha)⟩
  dis := s.dis.set i nd fun a ha j g ne hg hb => by
    rcases mine a ha with h | h
    · exact s.dis.ds i j f g a (Ne.symm ne) hi hg h hb
    · exact h.2 j g hg hb
  out := fun j g a hj ha => by
    have up : ∀ b, H b ≠ none → upd H q ob b ≠ none := fun b hb => by
      by_cases e : b = q
      · rw [e, upd_same]; simp
      · rw [upd_ne e]; exact hb
    have key : ∀ {b}, Mine c R H b → (b = q → ∀ u, upd H q ob b = some u → Kn u) → Mine c R (upd H q ob) b := fun {b} m kq => ⟨m.r, up b m.h, m.h0, m.p, fun u hu => by
      by_cases e : b = q
      · exact kq e u hu
      · rw [upd_ne e] at hu; exact m.k u hu⟩
    have kin : ∀ {b}, b ∈ f' → ∀ u, upd H q ob b = some u → Kn u := fun {b} hb u hu => by
      obtain ⟨u', h1, h2⟩ := RO.kind o' v f' new b hb
      rw [h1] at hu; cases hu; exact h2
    rcases getElem?_set_cases hj with ⟨_, e2, _⟩ | ⟨_, hj⟩
    · rw [e2] at ha
      rcases mine a ha with h | h
      · exact key (s.out i f a hi h) fun _ => kin ha
      · exact key h.1 fun _ => kin ha
    · rename_i ne
      exact key (s.out j g a hj ha) fun e => absurd (e ▸ ha) (s.dis.ds i j f g q ne hi hj hq)
  grow := s.grow
  pen := s.pen.mono (Same.refl R) (upd_ne fun e => (s.out i f q hi hq).p e.symm)
  pr := s.pr
  tab := by
    obtain ⟨w, g, h1, h2, h3⟩ := s.sl.at_ i o ho
    rw [hi] at h2; cases h2
    obtain ⟨u, hu, ku⟩ := RO.kind o w f h3 q hq
    exact tabs_upd s.tab hu ku
/-- the slots in another order, some left out -/
def isS : Option (Option O) → Bool
  | some (some _) => true
  | _ => false
def reF (sl : List (Option O)) (f : Nat → Nat) (fps : List (List Addr)) (n : Nat) : List (List Addr) := (List.range n).map fun j => if isS sl[j]? = true then (fps[f j]?).getD [] else []
theorem reF_at {sl : List (Option O)} {f : Nat → Nat} {n j : Nat} {g : List Addr} (h : (reF sl f fps n)[j]? = some g) : j < n ∧ ((isS sl[j]? = true ∧ g = (fps[f j]?).getD []) ∨ g = []) := by
  unfold reF at h
  rw [List.getElem?_map, Option.map_eq_some_iff] at h
  obtain ⟨k, hk, rfl⟩ := h
  obtain ⟨hl, e⟩ := List.getElem?_eq_some_iff.mp hk
  simp at hl e
  subst e
  refine ⟨hl, ?_⟩
  by_cases z : isS sl[j]? = true
  · exact .inl ⟨z, by rw [if_pos z]⟩
  · exact .inr (by rw [if_neg z])
theorem Sim.reix (s : Sim G c R H σ ρ fps) {sl2 : List (Option O)} (f : Nat → Nat) (l : sl2.length = σ2.length) (inj : ∀ i j : Nat, isS sl2[i]? = true → isS sl2[j]? = true → f i = f j → i = j)
    (h : ∀ (j : Nat) (o : O), sl2[j]? = some (some o) → ρ.sl[f j]? = some (some o) ∧ σ2[j]? = σ[f j]?) : Sim G c R H σ2 ⟨sl2, ρ.pen⟩ (reF sl2 f fps σ2.length) where
  same := s.same
  base := s.base
  keep := s.keep
  sl := ⟨l, by unfold reF; simp, fun j o hj => by
    have hj' : sl2[j]? = some (some o) := hj
    obtain ⟨h1, h2⟩ := h j o hj'
    obtain ⟨v, g, a1, a2, a3⟩ := s.sl.at_ _ o h1
    refine ⟨v, g, h2.trans a1, ?_, a3⟩
    have hl : j < σ2.length := by rw [← l]; exact (List.getElem?_eq_some_iff.mp hj').1
    unfold reF
    rw [List.getElem?_map, List.getElem?_range hl]
    show some (if isS sl2[j]? = true then _ else _) = _
    rw [hj', a2]; rfl⟩
  dis := ⟨fun j g hj => by
    obtain ⟨_, h1 | h1⟩ := reF_at hj
    · rw [h1.2]
      cases e : fps[f j]? with
      | none => exact List.nodup_nil
      | some u => exact s.dis.nd _ u e
    · rw [h1]; exact List.nodup_nil,
  fun i j g k a ne hi hj ha hb => by
    obtain ⟨_, h1 | h1⟩ := reF_at hi
    · obtain ⟨_, h2 | h2⟩ := reF_at hj
      · rw [h1.2] at ha
        rw [h2.2] at hb
        cases e : fps[f i]? with
        | none => rw [e] at ha; cases ha
        | some u =>
          cases e2 : fps[f j]? with
          | none => rw [e2] at hb; cases hb
          | some u2 =>
            rw [e] at ha
            rw [e2] at hb
            exact s.dis.ds _ _ u u2 a (fun z => ne (inj i j h1.1 h2.1 z)) e e2 ha hb
      · rw [h2] at hb; cases hb
    · rw [h1] at ha; cases ha⟩
  out := fun j g a hj ha => by
    obtain ⟨_, h1 | h1⟩ := reF_at hj
    · rw [h1.2] at ha
      cases e : fps[f j]? with
      | none => rw [e] at ha; cases ha
      | some u => rw [e] at ha; exact s.out _ u a e ha
    · rw [h1] at ha; cases ha
  grow := s.grow
  pen := s.pen
  pr := s.pr
  tab := s.tab
/-- an owned address of no slot left, if its slot is -/
theorem reF_out (s : Sim G c R H σ ρ fps) {sl2 : List (Option O)} {f : Nat → Nat} {n k : Nat} {u : List Addr} (hk : fps[k]? = some u) (nk : ∀ j, isS sl2[j]? = true → f j ≠ k) {a : Addr} (ha : a ∈ u) : ∀ (j : Nat) (g : List Addr), (reF sl2 f fps n)[j]? = some g → a ∉ g := fun j g hj hb => by
  obtain ⟨_, h1 | h1⟩ := reF_at hj
  · rw [h1.2] at hb
    cases e : fps[f j]? with
    | none => rw [e] at hb; cases hb
    | some u2 => rw [e] at hb; exact s.dis.ds _ _ u2 u a (nk j h1.1) e hk hb ha
  · rw [h1] at hb; cases hb
end
/-! ### targets -/
def Tg.is : Tg → List Nat
  | .nm i => [i]
  | .tp is => is
section
variable {X : Cx} {nm : Nm} {W : WX} {Γ : Gam} {a b cc ex ey ez : E} {as : List E} {e e1 e2 e3 : Expr} {es rest : List Expr} {pos pos' p2 p3 : Pos}
def tG (G : Gx) (tg : Tg) : TG := fun v σ H Q => ∃ c R ρ τ fps d ρ', Sim G c R H (σ ++ τ) ρ fps ∧ Rep G c.P R d v ∧ asgT tg d ρ = .ok () ρ' ∧ ∀ σ' fps', σ'.length = σ.length → (∀ j, j ∉ tg.is → σ'[j]? = σ[j]?) → Sim G c R H (σ' ++ τ) ρ' fps' → Q σ' H
def tGs (G : Gx) (is : List Nat) : TGs := fun vs σ H Q => ∃ c R ρ τ fps ds ρ', Sim G c R H (σ ++ τ) ρ fps ∧ RepL G c.P R ds vs ∧ asgs is ds ρ = .ok () ρ' ∧ ∀ σ' fps', σ'.length = σ.length → (∀ j, j ∉ is → σ'[j]? = σ[j]?) → Sim G c R H (σ' ++ τ) ρ' fps' → Q σ' H
theorem Sim.asg {G : Gx} {c : Cf} {R H : Hp} {σ τ : L2.St} {ρ : Env} {fps : List (List Addr)} (s : Sim G c R H (σ ++ τ) ρ fps) {i : Nat} {d : D} {v : V} (hi : i < σ.length) (r : Rep G c.P R d v) :
    Sim G c R H (σ.set i (some v) ++ τ) (ρ.set i (some (.frz d))) (fps.set i []) := by
  have e : σ.set i (some v) ++ τ = (σ ++ τ).set i (some v) := by rw [List.set_append_left _ _ hi]
  rw [e]
  exact { s with
    sl := s.sl.set i (by simp only [RO]; exact ⟨r, trivial⟩)
    dis := s.dis.set i List.nodup_nil (fun a ha => nomatch ha)
    out := fun j g a hj ha => by
      rcases getElem?_set_cases hj with ⟨_, e2, _⟩ | ⟨_, hj⟩
      · rw [e2] at ha; cases ha
      · exact s.out j g a hj ha }
theorem g_nm {i : Nat} {x : Str} (hN : X.N.Nodup) (hi : X.N[i]? = some x) (hx : Loc X.env.scope x) (hf : X.fn x = true ∨ X.env.scope.names.lookup x = some .local) : PG X (.Name x pos) (tG (gOf X nm) (.nm i)) := by
  refine ⟨fun pins s σ H v u Q I r h => (pg_name hN hi hx hf).run pins s σ H v u Q I r ?_⟩
  obtain ⟨c, R, ρ, τ, fps, d, ρ', S, rd, ha, k⟩ := h
  cases ha
  have hl : i < σ.length := by rw [I.len]; exact (List.getElem?_eq_some_iff.mp hi).1
  exact k _ _ (List.length_set) (fun j hj => List.getElem?_set_ne (fun e => hj (by simp [Tg.is, e]))) (S.asg hl rd)
theorem gs_nil : PGs X [] (tGs (gOf X nm) []) := by
  refine ⟨fun pins s σ H v u Q I r h => pgs_nil.run pins s σ H v u Q I r ?_⟩
  obtain ⟨c, R, ρ, τ, fps, ds, ρ', S, rd, ha, k⟩ := h
  cases ds with
  | nil =>
    simp only [RepL] at rd
    cases ha
    exact ⟨rd, k σ fps rfl (fun _ _ => rfl) S⟩
  | cons d ds => cases ha
theorem gs_cons {i : Nat} {is : List Nat} {x : Str} (hN : X.N.Nodup) (hi : X.N[i]? = some x) (hx : Loc X.env.scope x) (hf : X.fn x = true ∨ X.env.scope.names.lookup x = some .local) (hr : PGs X es (tGs (gOf X nm) is)) : PGs X (.Name x pos :: es) (tGs (gOf X nm) (i :: is)) := by
  refine ⟨fun pins s σ H v u Q I r h => (pgs_cons (g_nm (nm := nm) hN hi hx hf) hr).run pins s σ H v u Q I r ?_⟩
  obtain ⟨c, R, ρ, τ, fps, ds, ρ', S, rd, ha, k⟩ := h
  cases ds with
  | nil => cases ha
  | cons d ds =>
    simp only [RepL] at rd
    obtain ⟨y, ys, rfl, r1, r2⟩ := rd
    have ha' : asgs is ds (ρ.set i (some (.frz d))) = .ok () ρ' := ha
    refine ⟨y, ys, rfl, c, R, ρ, τ, fps, d, _, S, r1, rfl, fun σ1 fp1 l1 o1 S1 => ?_⟩
    exact ⟨c, R, _, τ, fp1, ds, ρ', S1, r2, ha', fun σ2 fp2 l2 o2 S2 => k σ2 fp2 (l2.trans l1) (fun j hj => by
      simp only [List.mem_cons, not_or] at hj
      exact (o2 j hj.2).trans (o1 j (by simp [Tg.is, hj.1]))) S2⟩
theorem asgs_len : ∀ {is : List Nat} {ds : List D} {ρ ρ' : Env}, asgs is ds ρ = .ok () ρ' → is.length = ds.length
  | [], [], _, _, _ => rfl
  | [], _ :: _, _, _, h => by cases h
  | _ :: _, [], _, _, h => by cases h
  | i :: is, d :: ds, ρ, ρ', h => by
    have h' : asgs is ds (ρ.set i (some (.frz d))) = .ok () ρ' := h
    simp [asgs_len h']
theorem g_tp {is : List Nat} {k : Nat} (hc : X.calm = true) (hr : PGs X es (tGs (gOf X nm) is)) (hn : (assignEach es X.env).length = is.length) (hst : (assignEach es X.env).findIdx? (·.1) = none) : PG X (.Tuple es k pos) (tG (gOf X nm) (.tp is)) := by
  refine ⟨fun pins s σ H v u Q I r h => ?_⟩
  obtain ⟨c, R, ρ, τ, fps, d, ρ', S, rd, ha, k⟩ := h
  cases d with
  | tup ds =>
    simp only [Rep] at rd
    obtain ⟨p, xs, rfl, hp, hx⟩ := rd
    have ha' : asgs is ds ρ = .ok () ρ' := ha
    exact (pg_tup hc hr hn hst).run pins s σ H _ u Q I r ⟨p, xs, rfl, Same.sqT S.same hp, by rw [← hx.length, asgs_len ha'], c, R, ρ, τ, fps, ds, ρ', S, hx, ha', k⟩
  | lst ds =>
    simp only [Rep] at rd
    obtain ⟨p, xs, rfl, hp, hx⟩ := rd
    have ha' : asgs is ds ρ = .ok () ρ' := ha
    exact (pg_unl hc hr hn hst).run pins s σ H _ u Q I r ⟨p, xs, rfl, SqL.of (S.same _ _ hp), by rw [← hx.length, asgs_len ha'], c, R, ρ, τ, fps, ds, ρ', S, hx, ha', k⟩
  | _ => cases ha
/-! ### what is walked -/
/-- J yields ds, in this region or a later one -/
def JOk (G : Gx) (c : Cf) (R H : Hp) (z : Bool) (J : It) (ds : List D) : Prop := ∀ σ ρ fps R' H', Sim G c R' H' σ ρ fps → Same R R' → (z = false → SX c.P H H') →
  J.stop ds.length H' ∧ (∀ i, i < ds.length → J.go i H') ∧ ∀ i d x H2, ds[i]? = some d → J.yld i H' x H2 → ∃ R2, Same R' R2 ∧ SX c.P H' H2 ∧ Sim G c R2 H2 σ ρ fps ∧ Rep G c.P R2 d x
def tI (G : Gx) (W : WX) (Γ : Gam) (z : Bool) (kd : ItK) (es : List E) : TI := fun σ H R => At G W (evIt Γ z kd es) (fun c _ ds _ R' H' _ => ∀ J, JOk G c R' H' z J ds → R J H') σ H
theorem PI_weak {tg : Expr} {t t' : TI} (h : PI X tg e t) (f : ∀ σ H R, t' σ H R → t σ H R) : PI X tg e t' := ⟨fun pins s σ H R I q => h.run pins s σ H R I (f σ H R q)⟩
theorem jok_rng {G : Gx} {c : Cf} {R H : Hp} {z : Bool} {lo : Int} {n : Nat} : JOk G c R H z (Itr lo n) ((List.range n).map fun (k : Nat) => D.int (lo + k)) := fun σ ρ fps R' H' S e sx => by
  refine ⟨?_, fun i hi => ?_, fun i d x H2 hd hy => ?_⟩
  · show n ≤ _; simp
  · show i < n
    simpa using hi
  · obtain ⟨rfl, rfl⟩ := hy
    rw [List.getElem?_map, Option.map_eq_some_iff] at hd
    obtain ⟨k, hk, rfl⟩ := hd
    obtain ⟨hl, e⟩ := List.getElem?_eq_some_iff.mp hk
    simp at e
    subst e
    exact ⟨R', Same.refl _, SX.refl _ _, S, by simp only [Rep]⟩
theorem i_rng1 {tg : Expr} {z : Bool} (hg : Gl X "range") (hm : X.mg "range" = none) (hs : noStar e = true) (ha : pAv X nm W Γ as [e]) : PI X tg (.Call (.Name "range" p2) [e] [] pos) (tI (gOf X nm) W Γ z (.rng false) as) := by
  refine PI_weak (pi_range1 hg hm ha (star_of hs)) fun σ H Q h => ?_
  refine h.part fun c τ ds ρ1 R1 H1 fp1 S1 h1 xs rs => ?_
  obtain ⟨rs', er, h2⟩ := h1.lft1
  obtain ⟨j, rfl, b1, b2, rfl⟩ := rng_eq1 er
  obtain ⟨x, rfl, rx⟩ := rs.one
  simp only [Rep] at rx
  subst rx
  exact ⟨j, rfl, b1, b2, Post.now h2 S1 _ jok_rng⟩
theorem i_rng2 {tg : Expr} {z : Bool} (hg : Gl X "range") (hm : X.mg "range" = none) (hs1 : noStar e1 = true) (hs2 : noStar e2 = true) (ha : pAv X nm W Γ as [e1, e2]) : PI X tg (.Call (.Name "range" p2) [e1, e2] [] pos) (tI (gOf X nm) W Γ z (.rng true) as) := by
  refine PI_weak (pi_range2 hg hm ha (by rw [star_of hs1, star_of hs2]; rfl) (by rw [star_of hs2]; rfl)) fun σ H Q h => ?_
  refine h.part fun c τ ds ρ1 R1 H1 fp1 S1 h1 xs rs => ?_
  obtain ⟨rs', er, h2⟩ := h1.lft1
  obtain ⟨i, j, rfl, b, rfl⟩ := rng_eq2 er
  obtain ⟨x, y, rfl, rx, ry⟩ := rs.two
  simp only [Rep] at rx ry
  subst rx ry
  exact ⟨i, j, rfl, b, Post.now h2 S1 _ jok_rng⟩
/-- a list or a tuple is walked -/
def iSeq (K : PySem.W.Frag) (tl : TE) : TI := fun σ H R => tl σ H fun x H1 => ∃ a, x = .ref a ∧ (((∃ xs, SqL K H1 a xs) ∧ R (Itl K a) H1) ∨ ((∃ xs, SqT K H1 a xs) ∧ R (Itt K a) H1))
theorem pi_seq {tg l : Expr} {tl : TE} (hl : PE X l tl) : PI X tg l (iSeq X.K tl) := by
  refine ⟨fun pins s σ H R I h => thn (hl.run pins s σ H _ I h) fun v s1 ⟨x, H1, I1, r1, a, ex, q1⟩ => ?_⟩
  subst ex
  cases r1
  have fr : ∀ b ∈ [s1.heap.objs.size], FpOk X pins H1 b := fun b hb => by
    obtain rfl : b = s1.heap.objs.size := by simpa using hb
    exact I1.fpOk (Nat.le_refl _) (I1.hok.fresh (Nat.le_refl _))
  rcases q1 with ⟨⟨xs, hq⟩, q⟩ | ⟨⟨xs, hq⟩, q⟩
  · obtain ⟨its, rv, pl, hz⟩ := I1.list hq
    refine wpAny_pyIter_list pl.isList ⟨s1.heap.objs.size, [s1.heap.objs.size], _, _, H1, rfl, ?_, turn_list a _, ?_, fr, q⟩
    · exact I1.kept (t' := s1.toks) fun b o e => Heap.get?_push_of_some _ e
    · exact ⟨_, Heap.get?_push_size _ rfl, rfl, rfl⟩
  · obtain ⟨its, rv, pl, hz⟩ := I1.tuple hq
    refine wpAny_pyIter_tuple (show s1.heap.IsTuple a its.toArray from pl) ⟨s1.heap.objs.size, [s1.heap.objs.size], _, _, H1, rfl, ?_, turn_tuple a _, ?_, fr, q⟩
    · exact I1.kept (t' := s1.toks) fun b o e => Heap.get?_push_of_some _ e
    · exact ⟨_, Heap.get?_push_size _ rfl, rfl, rfl⟩
/-- items of a frozen list, of a frozen tuple -/
theorem jok_lst {G : Gx} {c : Cf} {R H : Hp} {z : Bool} {a : Addr} {ds : List D} {xs : List V} (h : R a = some (.lst xs)) (r : RepL G c.P R ds xs) : JOk G c R H z (Itl G.K a) ds := fun σ ρ fps R' H' S e sx => by
  have ha : SqL G.K H' a xs := SqL.of (S.same _ _ (e _ _ h))
  refine ⟨⟨xs, ha, by rw [r.length]; exact Nat.le_refl _⟩, fun i hi => ?_, fun i d x H2 hd hy => ?_⟩
  · obtain ⟨v, hv, _⟩ := r.get (List.getElem?_eq_getElem hi)
    exact ⟨xs, v, ha, hv⟩
  · obtain ⟨rfl, q⟩ := hy
    obtain ⟨v, hv, rv⟩ := r.get hd
    have := q xs ha
    rw [hv] at this; cases this
    exact ⟨R', Same.refl _, SX.refl _ _, S, rv.mono e⟩
theorem jok_tup {G : Gx} {c : Cf} {R H : Hp} {z : Bool} {a : Addr} {ds : List D} {xs : List V} (h : R a = some (.tup xs)) (r : RepL G c.P R ds xs) : JOk G c R H z (Itt G.K a) ds := fun σ ρ fps R' H' S e sx => by
  have ha : SqT G.K H' a xs := Same.sqT S.same (e _ _ h)
  refine ⟨⟨xs, ha, by rw [r.length]; exact Nat.le_refl _⟩, fun i hi => ?_, fun i d x H2 hd hy => ?_⟩
  · obtain ⟨v, hv, _⟩ := r.get (List.getElem?_eq_getElem hi)
    exact ⟨xs, v, ha, hv⟩
  · obtain ⟨rfl, q⟩ := hy
    obtain ⟨v, hv, rv⟩ := r.get hd
    have := q xs ha
    rw [hv] at this; cases this
    exact ⟨R', Same.refl _, SX.refl _ _, S, rv.mono e⟩
/-- items that are frozen of a list that is not -/
theorem jok_own {G : Gx} {c : Cf} {R H : Hp} {a : Addr} {ds : List D} {xs : List V} (h : H a = some (.lst xs)) (np : a ≠ c.P) (r : RepL G c.P R ds xs) : JOk G c R H false (Itl G.K a) ds := fun σ ρ fps R' H' S e sx => by
  have ha : SqL G.K H' a xs := SqL.of ((sx rfl).at_ a _ np (fun _ z => by cases z) h)
  refine ⟨⟨xs, ha, by rw [r.length]; exact Nat.le_refl _⟩, fun i hi => ?_, fun i d x H2 hd hy => ?_⟩
  · obtain ⟨v, hv, _⟩ := r.get (List.getElem?_eq_getElem hi)
    exact ⟨xs, v, ha, hv⟩
  · obtain ⟨rfl, q⟩ := hy
    obtain ⟨v, hv, rv⟩ := r.get hd
    have := q xs ha
    rw [hv] at this; cases this
    exact ⟨R', Same.refl _, SX.refl _ _, S, rv.mono e⟩
theorem allFrz_rol {G : Gx} {P : Addr} {R H : Hp} : ∀ {os : List O} {ds : List D} {xs : List V} {fp : List Addr}, allFrz os = some ds → ROL G P H R os xs fp → RepL G P R ds xs
  | [], ds, xs, fp, h, r => by
    simp only [allFrz] at h; cases h
    simp only [ROL] at r
    rw [r.1]; exact RepL.nil
  | o :: os, ds, xs, fp, h, r => by
    simp only [ROL] at r
    obtain ⟨y, ys, f1, f2, rfl, rfl, h3, h4⟩ := r
    cases o with
    | frz d =>
      simp only [allFrz, Option.map_eq_some_iff] at h
      obtain ⟨es, he, rfl⟩ := h
      simp only [RO] at h3
      exact RepL.cons h3.1 (allFrz_rol he h4)
    | _ => simp only [allFrz] at h; cases h
theorem vr_p {G : Gx} {c : Cf} {R H : Hp} {σ : L2.St} {ρ : Env} {fps : List (List Addr)} {src : Option Nat} {os : List O} {x : V} (S : Sim G c R H σ ρ fps) (r : VR G c R H fps ⟨src, .own os⟩ x) : ∃ p xs fq, x = .ref p ∧ H p = some (.lst xs) ∧ p ≠ c.P ∧ ROL G c.P H R os xs fq := by
  cases src with
  | none =>
    obtain ⟨f, h1, h2, h3⟩ := r
    simp only [RO] at h1
    obtain ⟨p, xs, fq, rfl, hp, rfl, hx⟩ := h1
    exact ⟨p, xs, fq, rfl, hp, (h3 p (by simp)).1.p, hx⟩
  | some i =>
    obtain ⟨f, g, h1, h2, h3, h4⟩ := r
    simp only [RO] at h1
    obtain ⟨p, xs, fq, rfl, hp, rfl, hx⟩ := h1
    exact ⟨p, xs, fq, rfl, hp, (S.out i g p h3 (h4 p (by simp))).p, hx⟩
/-- what elems answers, walked -/
theorem elems_ok {G : Gx} {c : Cf} {R H : Hp} {σ : L2.St} {ρ ρ' : Env} {fps : List (List Addr)} {z : Bool} {v : Val} {x : V} {ds : List D} (S : Sim G c R H σ ρ fps) (r : VR G c R H fps v x) (h : elems z v ρ = .ok ds ρ') :
    ∃ R' fps' a, Same R R' ∧ Sim G c R' H σ ρ' fps' ∧ x = .ref a ∧ (((∃ xs, SqL G.K H a xs) ∧ JOk G c R' H z (Itl G.K a) ds) ∨ ((∃ xs, SqT G.K H a xs) ∧ JOk G c R' H z (Itt G.K a) ds)) := by
  obtain ⟨src, o⟩ := v
  have frz : ∀ {R' fps'} {d : D}, Same R R' → Sim G c R' H σ ρ' fps' → Rep G c.P R' d x → itemsD d = some ds → ∃ R' fps' a, Same R R' ∧ Sim G c R' H σ ρ' fps' ∧ x = .ref a ∧ (((∃ xs, SqL G.K H a xs) ∧ JOk G c R' H z (Itl G.K a) ds) ∨ ((∃ xs, SqT G.K H a xs) ∧ JOk G c R' H z (Itt G.K a) ds)) := by
    intro R' fps' d e S' rd hd
    cases d with
    | tup ys =>
      cases hd
      simp only [Rep] at rd
      obtain ⟨p, xs, rfl, hp, hx⟩ := rd
      exact ⟨R', fps', p, e, S', rfl, .inr ⟨⟨xs, Same.sqT S'.same hp⟩, jok_tup hp hx⟩⟩
    | lst ys =>
      cases hd
      simp only [Rep] at rd
      obtain ⟨p, xs, rfl, hp, hx⟩ := rd
      exact ⟨R', fps', p, e, S', rfl, .inl ⟨⟨xs, SqL.of (S'.same _ _ hp)⟩, jok_lst hp hx⟩⟩
    | _ => cases hd
  unfold elems at h
  cases o with
  | frz d =>
    have rd : Rep G c.P R d x := by
      obtain ⟨f, q⟩ := r.ro
      simp only [RO] at q
      exact q.1
    cases d with
    | tup ys => cases h; exact frz (Same.refl R) S rd rfl
    | lst ys => cases h; exact frz (Same.refl R) S rd rfl
    | _ => cases h
  | own os =>
    have froze : (match esc ⟨src, .own os⟩ ρ with | .ok (.lst xs) ρ' => Res.ok xs ρ' | _ => Res.bad) = Res.ok ds ρ' → ∃ R' fps' a, Same R R' ∧ Sim G c R' H σ ρ' fps' ∧ x = .ref a ∧ (((∃ xs, SqL G.K H a xs) ∧ JOk G c R' H z (Itl G.K a) ds) ∨ ((∃ xs, SqT G.K H a xs) ∧ JOk G c R' H z (Itt G.K a) ds)) := fun h => by
      cases e : esc ⟨src, .own os⟩ ρ with
      | ok d ρ2 =>
        rw [e] at h
        obtain ⟨R', fps', h1, h2, h3⟩ := esc_ok S r e
        cases d with
        | lst ys => cases h; exact frz h1 h2 h3 rfl
        | _ => cases h
      | _ => rw [e] at h; cases h
    dsimp only at h
    cases z with
    | true => exact froze h
    | false =>
      cases e : allFrz os with
      | none => rw [e] at h; exact froze h
      | some es =>
        rw [e] at h
        cases h
        obtain ⟨p, xs, fq, rfl, hp, np, hx⟩ := vr_p S r
        exact ⟨R, fps, p, Same.refl R, S, rfl, .inl ⟨⟨xs, SqL.of hp⟩, jok_own hp np (allFrz_rol e hx)⟩⟩
  | _ => cases h
theorem elems_noerr {z : Bool} {v : Val} {ρ ρ' : Env} {g : Nat} {ns : List Str} {xs : List D} (h : elems z v ρ = .err g ns xs ρ') : False := by
  unfold elems at h
  split at h
  · cases h
  · cases h
  · split at h
    · cases h
    · split at h <;> cases h
  · cases h
theorem i_seq {tg : Expr} {z : Bool} (ha : pE X nm W Γ a e) : PI X tg e (tI (gOf X nm) W Γ z .seq [a]) := by
  refine PI_weak (pi_seq ha) fun σ H Q h => ?_
  have h0 : At (gOf X nm) W (bnd (ev Γ a) fun x => elems z x) (fun c _ ds _ R' H' _ => ∀ J, JOk (gOf X nm) c R' H' z J ds → Q J H') σ H := by
    obtain ⟨c, R, ρ, τ, fps, S, h⟩ := h
    refine ⟨c, R, ρ, τ, fps, S, ?_⟩
    have e : evIt Γ z .seq [a] ρ = bnd (ev Γ a) (fun x => elems z x) ρ := by
      show bnd (bnd (ev Γ a) fun x => bnd (elems z x) fun ds => bnd (ret []) fun dss => ret (ds :: dss)) _ ρ = _
      unfold bnd
      cases ev Γ a ρ with
      | ok v ρ1 =>
        dsimp only
        cases elems z v ρ1 <;> rfl
      | _ => rfl
    rw [← e]; exact h
  refine h0.part fun c τ vx ρ1 R1 H1 fp1 S1 h1 x rx => ?_
  cases e : elems z vx ρ1 with
  | bad => rw [e] at h1; exact h1.elim
  | err g ns xs ρ' => exact (elems_noerr e).elim
  | ok ds ρ' =>
    rw [e] at h1
    obtain ⟨R2, fp2, p, e2, S2, rfl, q⟩ := elems_ok S1 rx e
    refine ⟨p, rfl, ?_⟩
    have fin := fun J (hJ : JOk (gOf X nm) c R2 H1 z J ds) => h1 R2 H1 fp2 e2 (SX.refl _ _) S2 J hJ
    rcases q with ⟨q1, q2⟩ | ⟨q1, q2⟩
    · exact .inl ⟨q1, fin _ q2⟩
    · exact .inr ⟨q1, fin _ q2⟩
end
end DL

set_option Elab.async false
set_option linter.all false
set_option maxRecDepth 100000
/-! DL14: comprehensions. -/
namespace DL
open PySem PySem.Spec PyProof.Rows L2

theorem bnd_ok {α β : Type} {m : M α} {f : α → M β} {ρ ρ' : Env} {b : β} (h : bnd m f ρ = .ok b ρ') : ∃ a ρ1, m ρ = .ok a ρ1 ∧ f a ρ1 = .ok b ρ' := by
  unfold bnd at h
  cases e : m ρ with
  | ok a ρ1 => rw [e] at h; exact ⟨a, ρ1, rfl, h⟩
  | _ => rw [e] at h; cases h
/-! ### slots that are wiped, saved, put back -/
theorem wipeO_len {sl : List (Option O)} : ∀ {own : List Nat}, (wipeO sl own).length = sl.length
  | [] => rfl
  | v :: vs => by unfold wipeO; rw [List.length_set, wipeO_len]
theorem wipeO_at {sl : List (Option O)} {j : Nat} : ∀ {own : List Nat}, (wipeO sl own)[j]? = if j ∈ own then (if j < sl.length then some none else none) else sl[j]?
  | [] => by simp [wipeO]
  | v :: vs => by
    unfold wipeO
    by_cases e : v = j
    · subst e
      by_cases hl : v < sl.length
      · rw [List.getElem?_set_self (by rw [wipeO_len]; exact hl)]; simp [hl]
      · rw [List.getElem?_eq_none (by rw [List.length_set, wipeO_len]; omega)]; simp [hl]
    · rw [List.getElem?_set_ne e, wipeO_at (own := vs)]
      simp [Ne.symm e]
theorem wipe_at {σ : L2.St} {j : Nat} : ∀ {own : List Nat}, (wipe σ own)[j]? = if j ∈ own then (if j < σ.length then some none else none) else σ[j]?
  | [] => by simp [wipe]
  | v :: vs => by
    unfold wipe
    by_cases e : v = j
    · subst e
      by_cases hl : v < σ.length
      · rw [List.getElem?_set_self (by rw [wipe_length]; exact hl)]; simp [hl]
      · rw [List.getElem?_eq_none (by rw [List.length_set, wipe_length]; omega)]; simp [hl]
    · rw [List.getElem?_set_ne e, wipe_at (own := vs)]
      simp [Ne.symm e]
theorem wipe_eq {σ σ' : L2.St} {own : List Nat} (hl : σ'.length = σ.length) (h : ∀ j, j ∉ own → σ'[j]? = σ[j]?) : wipe σ' own = wipe σ own := by
  apply List.ext_getElem?
  intro j
  rw [wipe_at, wipe_at]
  by_cases e : j ∈ own
  · rw [if_pos e, if_pos e, hl]
  · rw [if_neg e, if_neg e, h j e]
theorem putBack_len : ∀ {own : List Nat} {os : List (Option O)} {sl : List (Option O)}, (putBack sl own os).length = sl.length
  | [], os, _ => by cases os <;> rfl
  | _ :: _, [], _ => rfl
  | i :: is, o :: os, sl => by
    show (putBack (sl.set i o) is os).length = _
    rw [putBack_len, List.length_set]
theorem putBack_at {j : Nat} : ∀ {own : List Nat} {os : List (Option O)} {sl : List (Option O)}, own.Nodup → os.length = own.length → (∀ i ∈ own, i < sl.length) → (putBack sl own os)[j]? = if j ∈ own then os[own.idxOf j]? else sl[j]?
  | [], os, sl, _, _, _ => by
    cases os <;> simp [putBack]
  | i :: is, [], sl, _, h, _ => by simp at h
  | i :: is, o :: os, sl, nd, hl, hi => by
    show (putBack (sl.set i o) is os)[j]? = _
    have nd' := List.nodup_cons.mp nd
    rw [putBack_at nd'.2 (by simpa using hl) (fun k hk => by rw [List.length_set]; exact hi k (by simp [hk]))]
    by_cases e : i = j
    · subst e
      rw [if_neg nd'.1, List.getElem?_set_self (hi i (by simp))]
      simp
    · by_cases m : j ∈ is
      · rw [if_pos m, if_pos (by simp [m])]
        have e' : (i == j) = false := by simpa using e
        rw [List.idxOf_cons, e']
        simp
      · rw [if_neg m, List.getElem?_set_ne e, if_neg (by simp [m, Ne.symm e])]
theorem saved_len {sl : List (Option O)} {own : List Nat} : (saved sl own).length = own.length := by unfold saved; simp
theorem saved_at {sl : List (Option O)} {own : List Nat} {k : Nat} {i : Nat} (h : own[k]? = some i) : (saved sl own)[k]? = some (sl[i]?).join := by
  unfold saved
  rw [List.getElem?_map, h]; rfl
/-- the values of the saved slots -/
def savedV (σ : L2.St) (own : List Nat) : L2.St := own.map fun i => (σ[i]?).join
theorem savedV_len {σ : L2.St} {own : List Nat} : (savedV σ own).length = own.length := by unfold savedV; simp
theorem savedV_at {σ : L2.St} {own : List Nat} {k : Nat} {i : Nat} (h : own[k]? = some i) : (savedV σ own)[k]? = some (σ[i]?).join := by
  unfold savedV
  rw [List.getElem?_map, h]; rfl
section
variable {G : Gx} {c : Cf} {R R' H H' : Hp} {σ σ2 τ : L2.St} {ρ : Env} {fps : List (List Addr)}
theorem reF_sub {sl : List (Option O)} {f : Nat → Nat} {n j : Nat} {g : List Addr} {a : Addr} (h : (reF sl f fps n)[j]? = some g) (ha : a ∈ g) (k : ∀ (j : Nat) (g : List Addr), fps[j]? = some g → a ∉ g) : False := by
  obtain ⟨_, h1 | h1⟩ := reF_at h
  · rw [h1.2] at ha
    cases e : fps[f j]? with
    | none => rw [e] at ha; cases ha
    | some u => rw [e] at ha; exact k _ u e ha
  · rw [h1] at ha; cases ha
theorem Sim.snoc (s : Sim G c R H σ ρ fps) {o : O} {v : V} (r : VR G c R H fps ⟨none, o⟩ v) : ∃ f, Sim G c R H (σ ++ [some v]) ⟨ρ.sl ++ [some o], ρ.pen⟩ (fps ++ [f]) := by
  obtain ⟨f, h1, h2, h3⟩ := r
  refine ⟨f, { s with sl := s.sl.snoc h1, dis := s.dis.snoc h2 fun a ha j g hg => (h3 a ha).2 j g hg, out := fun j g a hj ha => ?_ }⟩
  by_cases hl : j < fps.length
  · rw [List.getElem?_append_left hl] at hj; exact s.out j g a hj ha
  · rw [List.getElem?_append_right (by omega)] at hj
    cases q : j - fps.length with
    | zero => rw [q] at hj; simp at hj; subst hj; exact (h3 a ha).1
    | succ m => rw [q] at hj; simp at hj
/-- a block begins -/
theorem Sim.enter (s : Sim G c R H (σ ++ τ) ρ fps) {own : List Nat} (nd : own.Nodup) (hlt : ∀ i ∈ own, i < σ.length) : ∃ fps', Sim G c R H (wipe σ own ++ (τ ++ savedV σ own)) ⟨wipeO ρ.sl own ++ saved ρ.sl own, ρ.pen⟩ fps' ∧ ∀ (a : Addr), (∀ (j : Nat) (g : List Addr), fps[j]? = some g → a ∉ g) → ∀ (j : Nat) (g : List Addr), fps'[j]? = some g → a ∉ g := by
  have l1 : ρ.sl.length = σ.length + τ.length := by rw [s.sl.l1, List.length_append]
  refine ⟨_, s.reix (f := fun j => if j < ρ.sl.length then j else (own[j - ρ.sl.length]?).getD 0) (by rw [List.length_append, wipeO_len, saved_len, List.length_append, List.length_append, wipe_length, savedV_len, l1]; omega) (fun i j hi hj he => ?_) (fun j o hj => ?_), fun a n j g hg hm => reF_sub hg hm n⟩
  · have left : ∀ {i}, isS (wipeO ρ.sl own ++ saved ρ.sl own)[i]? = true → i < ρ.sl.length → i ∉ own := fun {i} h hl hm => by
      rw [List.getElem?_append_left (by rw [wipeO_len]; exact hl), wipeO_at, if_pos hm, if_pos hl] at h
      cases h
    have right : ∀ {i}, isS (wipeO ρ.sl own ++ saved ρ.sl own)[i]? = true → ¬ i < ρ.sl.length → ∃ k, own[i - ρ.sl.length]? = some k ∧ i - ρ.sl.length < own.length := fun {i} h hl => by
      by_cases q : i - ρ.sl.length < own.length
      · exact ⟨_, List.getElem?_eq_getElem q, q⟩
      · rw [List.getElem?_append_right (by rw [wipeO_len]; omega), wipeO_len, List.getElem?_eq_none (by rw [saved_len]; omega)] at h
        cases h
    try dsimp only at he
    by_cases hil : i < ρ.sl.length
    · by_cases hjl : j < ρ.sl.length
      · rw [if_pos hil, if_pos hjl] at he; exact he
      · obtain ⟨k, hk, _⟩ := right hj hjl
        rw [if_pos hil, if_neg hjl, hk] at he
        exact absurd (he ▸ List.mem_of_getElem? hk) (left hi hil)
    · obtain ⟨k, hk, kl⟩ := right hi hil
      by_cases hjl : j < ρ.sl.length
      · rw [if_neg hil, if_pos hjl, hk] at he
        exact absurd (he ▸ List.mem_of_getElem? hk) (left hj hjl)
      · obtain ⟨m, hm, ml⟩ := right hj hjl
        rw [if_neg hil, if_neg hjl, hk, hm] at he
        have he' : k = m := he
        subst he'
        have := (List.getElem?_inj kl nd).mp (hk.trans hm.symm)
        omega
  · try dsimp only
    by_cases hl : j < ρ.sl.length
    · rw [if_pos hl]
      rw [List.getElem?_append_left (by rw [wipeO_len]; exact hl), wipeO_at] at hj
      by_cases hm : j ∈ own
      · rw [if_pos hm, if_pos hl] at hj; cases hj
      · rw [if_neg hm] at hj
        refine ⟨hj, ?_⟩
        by_cases hs : j < σ.length
        · rw [List.getElem?_append_left (by rw [wipe_length]; exact hs), wipe_at, if_neg hm, List.getElem?_append_left hs]
        · rw [List.getElem?_append_right (by rw [wipe_length]; omega), wipe_length, List.getElem?_append_left (by omega), List.getElem?_append_right (by omega)]
    · rw [if_neg hl]
      rw [List.getElem?_append_right (by rw [wipeO_len]; omega), wipeO_len] at hj
      by_cases q : j - ρ.sl.length < own.length
      · obtain ⟨k, hk⟩ : ∃ k, own[j - ρ.sl.length]? = some k := ⟨_, List.getElem?_eq_getElem q⟩
        have kl := hlt k (List.mem_of_getElem? hk)
        rw [saved_at hk] at hj
        rw [hk]
        show ρ.sl[k]? = _ ∧ _ = (σ ++ τ)[k]?
        have e1 : ρ.sl[k]? = some (some o) := by
          have hj' := Option.some.inj hj
          rw [List.getElem?_eq_getElem (by omega)] at hj' ⊢
          rw [← hj']; rfl
        refine ⟨e1, ?_⟩
        rw [List.getElem?_append_left kl, List.getElem?_append_right (by rw [wipe_length]; omega), wipe_length, List.getElem?_append_right (by omega)]
        have e2 : j - σ.length - τ.length = j - ρ.sl.length := by omega
        rw [e2, savedV_at hk, List.getElem?_eq_getElem kl]
        rfl
      · rw [List.getElem?_eq_none (by rw [saved_len]; omega)] at hj; cases hj
/-- .. and ends: the list that it made is nobody's -/
theorem Sim.leave {D : Addr} {o : O} {own : List Nat} (s : Sim G c R H (wipe σ own ++ (τ ++ (savedV σ own ++ [some (.ref D)]))) ρ fps) (nd : own.Nodup) (hlt : ∀ i ∈ own, i < σ.length) {n : Nat} (hn : n = (σ ++ τ).length) (ho : ρ.sl[n + own.length]? = some (some o)) :
    ∃ fps', Sim G c R H (σ ++ τ) ⟨putBack (ρ.sl.take n) own ((ρ.sl.drop n).take own.length), ρ.pen⟩ fps' ∧ VR G c R H fps' ⟨none, o⟩ (.ref D) := by
  have l1 : ρ.sl.length = n + own.length + 1 := by
    rw [s.sl.l1, hn]
    simp [wipe_length, savedV_len]; omega
  have hn' : n = σ.length + τ.length := by rw [hn, List.length_append]
  have tl : (ρ.sl.take n).length = n := by rw [List.length_take]; omega
  have pat : ∀ j, (putBack (ρ.sl.take n) own ((ρ.sl.drop n).take own.length))[j]? = if j ∈ own then ((ρ.sl.drop n).take own.length)[own.idxOf j]? else (ρ.sl.take n)[j]? := fun j =>
    putBack_at nd (by rw [List.length_take, List.length_drop]; omega) (fun i hi => by rw [tl]; have := hlt i hi; omega)
  have ix : ∀ {j}, j ∈ own → own.idxOf j < own.length := fun {j} h => List.idxOf_lt_length_of_mem h
  have sat : ∀ (j : Nat) (o : O), (putBack (ρ.sl.take n) own ((ρ.sl.drop n).take own.length))[j]? = some (some o) → j < n ∧ ρ.sl[if j ∈ own then n + own.idxOf j else j]? = some (some o) := fun j o h => by
    rw [pat] at h
    by_cases m : j ∈ own
    · rw [if_pos m] at h ⊢
      rw [List.getElem?_take_of_lt (ix m), List.getElem?_drop] at h
      exact ⟨by have := hlt j m; omega, h⟩
    · rw [if_neg m] at h ⊢
      have hl : j < n := by
        have := (List.getElem?_eq_some_iff.mp h).1
        rw [tl] at this; exact this
      rw [List.getElem?_take_of_lt hl] at h
      exact ⟨hl, h⟩
  have isat : ∀ j, isS (putBack (ρ.sl.take n) own ((ρ.sl.drop n).take own.length))[j]? = true → j < n := fun j h => by
    have hlen : (putBack (ρ.sl.take n) own ((ρ.sl.drop n).take own.length)).length = n := by rw [putBack_len, tl]
    by_cases hl : j < n
    · exact hl
    · rw [List.getElem?_eq_none (by omega)] at h; cases h
  have back : Sim G c R H (σ ++ τ) ⟨putBack (ρ.sl.take n) own ((ρ.sl.drop n).take own.length), ρ.pen⟩ _ := s.reix (σ2 := σ ++ τ) (f := fun j => if j ∈ own then n + own.idxOf j else j) (by rw [putBack_len, tl, hn]) (fun i j hi hj he => by
      have hi' := isat i hi
      have hj' := isat j hj
      try dsimp only at he
      by_cases mi : i ∈ own
      · by_cases mj : j ∈ own
        · rw [if_pos mi, if_pos mj] at he
          have e : own.idxOf i = own.idxOf j := by omega
          have h1 := List.getElem_idxOf (ix mi)
          have h2 := List.getElem_idxOf (ix mj)
          rw [← h1, ← h2]
          simp only [e]
        · rw [if_pos mi, if_neg mj] at he; omega
      · by_cases mj : j ∈ own
        · rw [if_neg mi, if_pos mj] at he; omega
        · rw [if_neg mi, if_neg mj] at he; exact he) (fun j o hj => by
      obtain ⟨hl, h1⟩ := sat j o hj
      refine ⟨h1, ?_⟩
      try dsimp only
      by_cases m : j ∈ own
      · rw [if_pos m]
        have jl := hlt j m
        have ij := ix m
        rw [List.getElem?_append_left jl, List.getElem?_append_right (by rw [wipe_length]; omega), wipe_length, List.getElem?_append_right (by omega)]
        have e2 : n + own.idxOf j - σ.length - τ.length = own.idxOf j := by omega
        rw [e2, List.getElem?_append_left (by rw [savedV_len]; exact ij), savedV_at (i := j) (by rw [List.getElem?_eq_getElem ij, List.getElem_idxOf]), List.getElem?_eq_getElem jl]
        rfl
      · rw [if_neg m]
        by_cases jl : j < σ.length
        · rw [List.getElem?_append_left jl, List.getElem?_append_left (by rw [wipe_length]; exact jl), wipe_at, if_neg m]
        · rw [List.getElem?_append_right (by omega), List.getElem?_append_right (by rw [wipe_length]; omega), wipe_length, List.getElem?_append_left (by omega)])
  refine ⟨_, back, ?_⟩
  obtain ⟨v, f, a1, a2, a3⟩ := s.sl.at_ _ o ho
  have ev : v = .ref D := by
    rw [List.getElem?_append_right (by rw [wipe_length]; omega), wipe_length, List.getElem?_append_right (by omega), List.getElem?_append_right (by rw [savedV_len]; omega), savedV_len] at a1
    have z : n + own.length - σ.length - τ.length - own.length = 0 := by omega
    rw [z] at a1
    simp at a1; exact a1.symm
  subst ev
  refine ⟨f, a3, s.dis.nd _ f a2, fun a ha => ⟨s.out _ f a a2 ha, reF_out s a2 (fun j hj => ?_) ha⟩⟩
  have hl := isat j hj
  by_cases m : j ∈ own
  · rw [if_pos m]; have := ix m; omega
  · rw [if_neg m]; omega
/-- what a turn left in the block's own names goes -/
theorem Sim.wipe {ν : L2.St} {own : List Nat} (s : Sim G c R H (σ2 ++ ν) ρ fps) (hl : σ2.length = σ.length) (h : ∀ j, j ∉ own → σ2[j]? = (L2.wipe σ own)[j]?) (hlt : ∀ i ∈ own, i < σ.length) : ∃ fps', Sim G c R H (L2.wipe σ own ++ ν) ⟨wipeO ρ.sl own, ρ.pen⟩ fps' := by
  refine ⟨_, s.reix (f := fun j => j) (by rw [wipeO_len, s.sl.l1, List.length_append, List.length_append, wipe_length, hl]) (fun i j _ _ e => e) (fun j o hj => ?_)⟩
  rw [wipeO_at] at hj
  by_cases m : j ∈ own
  · rw [if_pos m] at hj
    split at hj <;> cases hj
  · rw [if_neg m] at hj
    refine ⟨hj, ?_⟩
    by_cases jl : j < σ.length
    · rw [List.getElem?_append_left (by rw [wipe_length]; exact jl), List.getElem?_append_left (by omega), h j m]
    · rw [List.getElem?_append_right (by rw [wipe_length]; omega), wipe_length, List.getElem?_append_right (by omega), hl]
theorem rol_snoc : ∀ {os : List O} {xs : List V} {fq fo : List Addr} {o : O} {y : V}, ROL G c.P H R os xs fq → RO G c.P H R o y fo → ROL G c.P H R (os ++ [o]) (xs ++ [y]) (fq ++ fo)
  | [], xs, fq, fo, o, y, h, k => by
    simp only [ROL] at h
    obtain ⟨rfl, rfl⟩ := h
    simp only [List.nil_append, ROL]
    exact ⟨y, [], fo, [], rfl, by simp, k, rfl, rfl⟩
  | o1 :: os, xs, fq, fo, o, y, h, k => by
    simp only [ROL] at h
    obtain ⟨z, zs, f1, f2, rfl, rfl, h3, h4⟩ := h
    simp only [List.cons_append, ROL]
    exact ⟨z, zs ++ [y], f1, f2 ++ fo, rfl, by simp, h3, rol_snoc h4 k⟩
/-- the list at a slot grows -/
theorem Sim.push (s : Sim G c R H σ ρ fps) {i : Nat} {os : List O} {o : O} {y v : V} (hi : ρ.sl[i]? = some (some (.own os))) (hv : σ[i]? = some (some v)) (r : VR G c R H fps ⟨none, o⟩ y) :
    ∃ D xs fps', v = .ref D ∧ D ≠ c.P ∧ H D = some (.lst xs) ∧ xs.length = os.length ∧ Sim G c R (upd H D (.lst (xs ++ [y]))) σ (ρ.set i (some (.own (os ++ [o])))) fps' := by
  obtain ⟨v', f, a1, a2, a3⟩ := s.sl.at_ i _ hi
  rw [hv] at a1; cases a1
  simp only [RO] at a3
  obtain ⟨D, xs, fq, rfl, hD, rfl, hx⟩ := a3
  obtain ⟨fo, ro, ndo, mo⟩ := r
  have nd := List.nodup_cons.mp (s.dis.nd i _ a2)
  have nD : D ∉ fo := fun h => (mo D h).2 i _ a2 (by simp)
  refine ⟨D, xs, _, rfl, (s.out i _ D a2 (by simp)).p, hD, (rol_len hx).symm, s.putO (f' := D :: (fq ++ fo)) hi a2 (List.mem_cons_self) hv ?_ ?_ (fun a ha => ?_)⟩
  · simp only [RO]
    refine ⟨D, xs ++ [y], fq ++ fo, rfl, upd_same, rfl, rol_snoc (ROL.mono (Same.refl R) os xs fq (fun a ha => upd_ne fun e => nd.1 (e ▸ ha)) hx) (RO.mono (Same.refl R) o y fo (fun a ha => upd_ne fun e => nD (e ▸ ha)) ro)⟩
  · refine List.nodup_cons.mpr ⟨fun h => ?_, List.nodup_append.mpr ⟨nd.2, ndo, fun a ha b hb e => (mo b hb).2 i _ a2 (by rw [← e]; simp [ha])⟩⟩
    rcases List.mem_append.mp h with h | h
    · exact nd.1 h
    · exact nD h
  · rcases List.mem_cons.mp ha with rfl | ha
    · exact .inl (by simp)
    · rcases List.mem_append.mp ha with ha | ha
      · exact .inl (by simp [ha])
      · exact .inr (mo a ha)
end
end DL

set_option Elab.async false
set_option linter.all false
set_option maxRecDepth 100000
/-! DL15: comprehensions: the rule. -/
namespace DL
open PySem PySem.Spec PyProof.Rows L2
abbrev WF : WX := fun _ _ _ _ => False
section
variable {X : Cx} {nm : Nm} {W : WX} {Γ : Gam} {a b cc ex ey ez : E} {as : List E} {e e1 e2 e3 : Expr} {es rest : List Expr} {pos pos' p2 p3 : Pos}
theorem PTs_weak {ifs : List Expr} {t t' : TT} (h : PTs X ifs t) (f : ∀ σ H Q, t' σ H Q → t σ H Q) : PTs X ifs t' := ⟨fun pins s σ H Q I q => h.run pins s σ H Q I (f σ H Q q)⟩
theorem ts_nil : PTs X [] (tTs (gOf X nm) W Γ []) := PTs_weak pts_nil fun σ H Q ⟨c, R, ρ, τ, fps, S, h⟩ => by
  have h' : Post (gOf X nm) W c σ τ R H (fun b _ _ H' _ => Q b H') (.ok true ρ) := h
  exact Post.now h' S
theorem ts_one (h : pT X nm W Γ a e) : PTs X [e] (tTs (gOf X nm) W Γ [a]) := PTs_weak (pts_one h) fun σ H Q h0 => by
  refine h0.part fun c τ t ρ1 R1 H1 fp1 S1 h1 => ?_
  cases t with
  | true =>
    have h' : Post (gOf X nm) W c σ τ R1 H1 (fun b _ _ H' _ => Q b H') (.ok true ρ1) := h1
    exact Post.now h' S1
  | false =>
    have h' : Post (gOf X nm) W c σ τ R1 H1 (fun b _ _ H' _ => Q b H') (.ok false ρ1) := h1
    exact Post.now h' S1
/-- the list so far, behind all else -/
theorem grow_ok {c : Cf} {R H : Hp} {σ ν : L2.St} {D : Addr} {ρ ρ' : Env} {fps : List (List Addr)} {v : Val} {y : V} (S : Sim (gOf X nm) c R H (σ ++ (ν ++ [some (.ref D)])) ρ fps) (r : VR (gOf X nm) c R H fps v y) (h : grow v ρ = .ok () ρ') :
    ∃ R' fps' xs, Same R R' ∧ D ≠ c.P ∧ H D = some (.lst xs) ∧ xs.length < lineN ∧ Sim (gOf X nm) c R' (upd H D (.lst (xs ++ [y]))) (σ ++ (ν ++ [some (.ref D)])) ρ' fps' := by
  unfold grow at h
  obtain ⟨o, ρ1, h1, h2⟩ := bnd_ok h
  obtain ⟨R', fps', e, S1, r1⟩ := keep_ok S r h1
  try dsimp only at h2
  split at h2
  · rename_i os hl
    split at h2
    · rename_i hz
      cases h2
      rw [Bool.and_eq_true] at hz
      have hlen : ρ1.sl.length = (σ ++ (ν ++ [some (V.ref D)])).length := S1.sl.l1
      have nn : ρ1.sl ≠ [] := fun z => by rw [z] at hl; cases hl
      rw [List.getLast?_eq_getElem?] at hl
      have hv : (σ ++ (ν ++ [some (V.ref D)]))[ρ1.sl.length - 1]? = some (some (V.ref D)) := by
        rw [hlen, ← List.append_assoc]
        simp
      obtain ⟨D', xs, fp2, e2, nP, hD, hx, S2⟩ := S1.push hl hv r1
      cases e2
      have lt : os.length < lineN := of_decide_eq_true hz.1
      refine ⟨R', fp2, xs, e, nP, hD, by rw [hx]; exact lt, ?_⟩
      have es : ρ1.sl.set (ρ1.sl.length - 1) (some (.own (os ++ [o]))) = ρ1.sl.dropLast ++ [some (.own (os ++ [o]))] := by
        conv => lhs; rw [← List.dropLast_concat_getLast nn]
        rw [List.set_append_right _ _ (by simp)]
        simp
      unfold Env.set at S2
      rw [es] at S2
      exact S2
    · cases h2
  · cases h2
theorem lc_read {c0 : Unit} {own : List Nat} {tg : Tg} {kd : ItK} {ifs : List E} {σ : L2.St} {H : Hp} {Q : VK} (nd : own.Nodup) (hlt : ∀ i ∈ own, i < σ.length) (hsub : ∀ i ∈ tg.is, i ∈ own) (h : tE (gOf X nm) W Γ (.lc own tg kd as ifs a) σ H Q) :
    tLc (tI (gOf X nm) W Γ false kd as) (tG (gOf X nm) tg) (tTs (gOf X nm) WF Γ ifs) (tE (gOf X nm) WF Γ a) own σ H Q := by
  refine h.part fun c τ ds ρ1 R1 H1 fp1 S1 h1 J hJ D hD => ?_
  have hn : ρ1.sl.length = (σ ++ τ).length := S1.sl.l1
  unfold inBlk at h1
  split at h1
  · rename_i u ρe em
    cases u
    split at h1
    · rename_i o ho
      -- the block begins
      obtain ⟨S2, sx2, m2, n2⟩ := S1.newO (o := .lst []) hD ⟨fun _ z => (nomatch z), fun _ z => (nomatch z), fun _ z => (nomatch z)⟩
      obtain ⟨fp3, S3, n3⟩ := S2.enter nd hlt
      have vr : VR (gOf X nm) c R1 (upd H1 D (.lst [])) fp3 ⟨none, .own []⟩ (.ref D) := by
        refine ⟨[D], by simp only [RO]; exact ⟨D, [], [], rfl, upd_same, rfl, by simp only [ROL]; exact ⟨trivial, trivial⟩⟩, by simp, fun b hb => ?_⟩
        simp only [List.mem_cons, List.not_mem_nil, or_false] at hb
        subst hb
        exact ⟨m2, n3 _ n2⟩
      obtain ⟨f4, S4⟩ := S3.snoc vr
      rw [List.append_assoc, List.append_assoc] at S4
      refine ⟨fun i m H2 => m = ds.length - i ∧ i ≤ ds.length ∧ ∃ R ρ fps, Sim (gOf X nm) c R H2 (wipe σ own ++ (τ ++ (savedV σ own ++ [some (.ref D)]))) ρ fps ∧ Same R1 R ∧ SX c.P H1 H2 ∧ loopC own tg (evTs Γ ifs) (ev Γ a) (ds.drop i) ρ = .ok () ρe, ⟨ds.length, by simp, Nat.zero_le _, R1, _, _, S4, Same.refl _, sx2, ?_⟩, ?_⟩
      · rw [List.append_assoc] at *
        exact em
      · rintro i m H2 ⟨rfl, hi, R, ρ, fps, S, sm, sx, el⟩
        obtain ⟨j1, j2, j3⟩ := hJ _ ρ fps R H2 S sm fun _ => sx
        by_cases hlt' : i < ds.length
        · refine .inr ⟨j2 i hlt', fun H' => ∃ R ρ fps, Sim (gOf X nm) c R H' (wipe σ own ++ (τ ++ (savedV σ own ++ [some (.ref D)]))) ρ fps ∧ Same R1 R ∧ SX c.P H1 H' ∧ loopC own tg (evTs Γ ifs) (ev Γ a) (ds.drop (i + 1)) ρ = .ok () ρe, fun H' hN => ⟨ds.length - (i + 1), by omega, rfl, hlt', hN⟩, fun x H' hy => ?_⟩
          have hd : ds.drop i = ds[i] :: ds.drop (i + 1) := List.drop_eq_getElem_cons hlt'
          rw [hd] at el
          obtain ⟨R2, e2, sx2', S2', rd⟩ := j3 i ds[i] x H' (List.getElem?_eq_getElem hlt') hy
          obtain ⟨_, ρa, ea, el1⟩ := bnd_ok el
          obtain ⟨t, ρt, et, el2⟩ := bnd_ok el1
          obtain ⟨_, ρg, eg, el3⟩ := bnd_ok el2
          obtain ⟨_, ρw, ew, el4⟩ := bnd_ok el3
          clear el el1 el2 el3
          cases ew
          refine ⟨c, R2, ρ, τ ++ (savedV σ own ++ [some (.ref D)]), fps, ds[i], ρa, S2', rd, ea, fun σ' fp' lσ oσ Sa => ⟨?_, ?_⟩⟩
          · refine (wipe_eq (σ := wipe σ own) lσ fun j hj => oσ j fun hm => hj (hsub j hm)).trans ?_
            exact wipe_eq (wipe_length _ _) fun j hj => by rw [wipe_at, if_neg hj]
          · refine ⟨c, R2, ρa, _, fp', Sa, ?_⟩
            rw [et]
            intro R3 H3 fp3' e3 sx3 S3'
            have fin : ∀ {R5 : Hp} {H5 : Hp} {ρ5 : Env} {fp5 : List (List Addr)}, Same R2 R5 → SX c.P H1 H5 → Sim (gOf X nm) c R5 H5 (σ' ++ (τ ++ (savedV σ own ++ [some (.ref D)]))) ρ5 fp5 → loopC own tg (evTs Γ ifs) (ev Γ a) (ds.drop (i + 1)) { ρ5 with sl := wipeO ρ5.sl own } = .ok () ρe →
                ∃ R ρ fps, Sim (gOf X nm) c R H5 (wipe σ own ++ (τ ++ (savedV σ own ++ [some (.ref D)]))) ρ fps ∧ Same R1 R ∧ SX c.P H1 H5 ∧ loopC own tg (evTs Γ ifs) (ev Γ a) (ds.drop (i + 1)) ρ = .ok () ρe := by
              intro R5 H5 ρ5 fp5 e5 sx5 S5 el5
              obtain ⟨fp6, S6⟩ := S5.wipe (σ := σ) (own := own) (lσ.trans (wipe_length _ _)) (fun j hj => oσ j fun hm => hj (hsub j hm)) hlt
              exact ⟨R5, _, fp6, S6, (sm.trans e2).trans e5, sx5, el5⟩
            cases t with
            | false =>
              cases eg
              exact fin e3 ((sx.trans sx2').trans sx3) S3' el4
            | true =>
              obtain ⟨v, ρv, ev', eg⟩ := bnd_ok eg
              refine ⟨c, R3, ρt, _, fp3', S3', ?_⟩
              rw [ev']
              intro R4 H4 fp4 e4 sx4 S4' y ry
              rw [← List.append_assoc τ] at S4'
              obtain ⟨R5, fp5, xs, e5, nP, hx, lx, S5⟩ := grow_ok S4' ry eg
              refine ⟨xs, hx, by rw [lineN_eq]; exact lx, ?_⟩
              rw [List.append_assoc τ] at S5
              refine fin ((e3.trans e4).trans e5) ?_ S5 el4
              exact SX.upd' (((sx.trans sx2').trans sx3).trans sx4) hD
        · have ei : i = ds.length := by omega
          subst ei
          refine .inl ⟨j1, ?_⟩
          rw [List.drop_length] at el
          cases el
          obtain ⟨fp7, S7, r7⟩ := S.leave nd hlt hn ho
          exact h1 R H2 fp7 sm sx S7 _ r7
    · exact h1.elim
  · exact h1.elim
theorem x_lc {own : List (Str × Nat)} {tg : Tg} {kd : ItK} {ifs : List E} {tgE iterE eltE : Expr} {ifsE : List Expr} {scope : Scope} (hc : X.calm = true) (hN : X.N.Nodup) (nd : (own.map (·.2)).Nodup) (hsub : ∀ i ∈ tg.is, i ∈ own.map (·.2)) (ok : BlkOk X.N X.env.scope scope own)
    (hi : PI X tgE iterE (tI (gOf X nm) W Γ false kd as)) (hs : ∀ x, foldedSetIterable iterE X.env x = pure x)
    (hg : ∀ (s : Shared) (H : Hp) (C : Addr) (cl : List (Str × Addr)) (fp : List Addr), PG (X.blk s H scope (compEnvC scope cl C X.env) fp) tgE (tG (gOf X nm) tg)) (ht : ∀ (s : Shared) (H : Hp) (C : Addr) (cl : List (Str × Addr)) (fp : List Addr), PTs (X.blk s H scope (compEnvC scope cl C X.env) fp) ifsE (tTs (gOf X nm) WF Γ ifs))
    (he : ∀ (s : Shared) (H : Hp) (C : Addr) (cl : List (Str × Addr)) (fp : List Addr), PE (X.blk s H scope (compEnvC scope cl C X.env) fp) eltE (tE (gOf X nm) WF Γ a)) :
    pE X nm W Γ (.lc (own.map (·.2)) tg kd as ifs a) (.ListComp eltE [⟨tgE, iterE, ifsE, 0⟩] scope pos) := by
  refine (pe_lc hc hN hi ok hg ht he hs).weak fun σ H Q hl h => lc_read (c0 := ()) nd (fun i hi => ?_) hsub h
  obtain ⟨p, hp, rfl⟩ := List.mem_map.mp hi
  rw [hl]
  exact (List.getElem?_eq_some_iff.mp (ok.ix p hp)).1
end
end DL

set_option Elab.async false
set_option linter.all false
set_option maxRecDepth 100000
/-! DL16: calls of the text's own functions. -/
namespace DL
open PySem PySem.Spec PyProof.Rows L2
/-- what a function's worth says of a call: vs the arguments -/
def spF (G : Gx) (fn : Fn) : Sp := fun vs H Q E => ∃ (P : Addr) (R : Hp) (ds : List D) (p : Pen), RepL G P R ds vs ∧ Same R H ∧ Pr R P ∧ PenOk G P H R p ∧ LamX.Tabs G.nm.T H ∧ (match fn ds p with
  | .ok d p' => ∀ R' H' x, Same R R' → Same R' H' → SX P H H' → (∀ a, R' a ≠ none → R a ≠ none ∨ New H a) → Pr R' P → PenOk G P H' R' p' → LamX.Tabs G.nm.T H' → Rep G P R' d x → Q x H'
  | .err g ns xs p' => ∀ d fs R' H', Same R R' → Same R' H' → SX P H H' → (∀ a, R' a ≠ none → R a ≠ none ∨ New H a) → Pr R' P → PenOk G P H' R' p' → LamX.Tabs G.nm.T H' → R' d = some (.xd fs) → fs.map (·.1) = ns → RepL G P R' xs (fs.map (·.2)) → E (.ref (He.ga G.K (G.nm g))) (some d) H'
  | .bad => False)
/-- .. as the caller sees it; own: where the caller makes lambdas, the slots that they capture -/
def rFn (G : Gx) (W : WX) (own : Option (List Nat)) (fn : Fn) : L2.St → List V → Hp → VK → Prop := fun σ xs H Q => ∃ c R τ ρ fps ds, Sim G c R H (σ ++ τ) ρ fps ∧ RepL G c.P R ds xs ∧ Fin G W c σ τ R H Q (callFn own (some fn) ds ρ)
section
variable {G : Gx} {c : Cf} {R R' H H' : Hp} {σ τ : L2.St} {ρ : Env} {fps : List (List Addr)} {W : WX} {fn : Fn} {Q : VK} {xs : List V}
/-- behind a call the caller's state stands as before -/
theorem Sim.back (s : Sim G c R H σ ρ fps) (e : Same R R') (same : Same R' H') (sx : SX c.P H H') (g : ∀ a, R' a ≠ none → R a ≠ none ∨ New H a) (pr : Pr R' c.P) {p : Pen} (pen : PenOk G c.P H' R' p) (tab : LamX.Tabs G.nm.T H') : Sim G c R' H' σ { ρ with pen := p } fps := by
  refine s.step e same sx (fun i f a hi ha => ?_) g pr pen tab
  have m := s.out i f a hi ha
  constructor
  · cases hu : H a with
    | none => exact absurd hu m.h
    | some u => exact sx.at_ a u m.p (m.k u hu).1 hu
  · cases q : R' a with
    | none => rfl
    | some o =>
      rcases g a (by rw [q]; simp) with h | h | ⟨φ, h⟩ | ⟨xs, h⟩
      · exact absurd m.r h
      · exact absurd h m.h
      · exact absurd rfl ((m.k _ h).2.1 φ)
      · exact absurd rfl ((m.k _ h).2.2 xs)
theorem sp_of_r (h : rFn G W none fn σ xs H Q) : spF G fn xs H Q (WE W σ) := by
  obtain ⟨c, R, τ, ρ, fps, ds, S, rx, k⟩ := h
  refine ⟨c.P, R, ds, ρ.pen, rx, S.same, S.pr, S.pen, S.tab, ?_⟩
  unfold callFn at k
  dsimp only [envOf, backP] at k
  cases e : fn ds ρ.pen with
  | ok d p =>
    rw [e] at k
    intro R' H' x e1 e2 e3 e4 e5 e6 e7 rd
    have S' := S.back e1 e2 e3 e4 e5 e6 e7
    exact k R' H' fps e1 e3 S' x (VR.frz none S' rd)
  | err g ns ys p =>
    rw [e] at k
    intro d fs R' H' e1 e2 e3 e4 e5 e6 e7 h1 h2 h3
    exact k d fs R' H' fps e1 e3 (S.back e1 e2 e3 e4 e5 e6 e7) h1 h2 h3
  | bad => rw [e] at k; exact k.elim
end
/-- the same but for the base, the cells, what they hold -/
abbrev Gx.at_ (G : Gx) (base : Heap) (cells : List (Str × Addr)) (cv : List (Option V)) : Gx := { G with base := base, nm := { G.nm with cells := cells, cv := cv } }
mutual
theorem Rep.congr {G : Gx} {base : Heap} {cv : List (Option V)} {P : Addr} {H : Hp} : ∀ (d : D) (v : V), Rep (G.at_ base G.nm.cells cv) P H d v ↔ Rep G P H d v
  | .non, v => by simp only [Rep]
  | .bl _, v => by simp only [Rep]
  | .int _, v => by simp only [Rep]
  | .str _, v => by simp only [Rep]
  | .tup ds, v => by
    simp only [Rep]
    exact ⟨fun ⟨a, xs, e1, e2, e3⟩ => ⟨a, xs, e1, e2, (RepL.congr ds xs).mp e3⟩, fun ⟨a, xs, e1, e2, e3⟩ => ⟨a, xs, e1, e2, (RepL.congr ds xs).mpr e3⟩⟩
  | .lst ds, v => by
    simp only [Rep]
    exact ⟨fun ⟨a, xs, e1, e2, e3⟩ => ⟨a, xs, e1, e2, (RepL.congr ds xs).mp e3⟩, fun ⟨a, xs, e1, e2, e3⟩ => ⟨a, xs, e1, e2, (RepL.congr ds xs).mpr e3⟩⟩
  | .dct ks ds, v => by
    simp only [Rep]
    exact ⟨fun ⟨a, kvs, e1, np, e2, e3, e4⟩ => ⟨a, kvs, e1, np, e2, e3, (RepL.congr ds _).mp e4⟩, fun ⟨a, kvs, e1, np, e2, e3, e4⟩ => ⟨a, kvs, e1, np, e2, e3, (RepL.congr ds _).mpr e4⟩⟩
  | .glo _, v => by simp only [Rep]
  | .obj g ns ds, v => by
    simp only [Rep]
    exact ⟨fun ⟨a, dx, fs, e1, e2, e3, e4⟩ => ⟨a, dx, fs, e1, e2, e3, (RepL.congr ds _).mp e4⟩, fun ⟨a, dx, fs, e1, e2, e3, e4⟩ => ⟨a, dx, fs, e1, e2, e3, (RepL.congr ds _).mpr e4⟩⟩
  | .pen, v => by simp only [Rep]
  | .clo _, v => by simp only [Rep]
theorem RepL.congr {G : Gx} {base : Heap} {cv : List (Option V)} {P : Addr} {H : Hp} : ∀ (ds : List D) (xs : List V), RepL (G.at_ base G.nm.cells cv) P H ds xs ↔ RepL G P H ds xs
  | [], xs => by simp only [RepL]
  | d :: ds, xs => by
    simp only [RepL]
    exact ⟨fun ⟨y, ys, e1, e2, e3⟩ => ⟨y, ys, e1, (Rep.congr d y).mp e2, (RepL.congr ds ys).mp e3⟩, fun ⟨y, ys, e1, e2, e3⟩ => ⟨y, ys, e1, (Rep.congr d y).mpr e2, (RepL.congr ds ys).mpr e3⟩⟩
end
/-- what is known of the base: the module's facts; the code objects that lambdas are made from -/
structure GM (G : Gx) : Prop where
  mod : Mod G.K G.mg G.base
  tab : ∀ p ∈ G.nm.cs, LamX.TabB G.base G.mg p.1 p.2
/-- .. and what the cells hold -/
structure GB (G : Gx) : Prop extends GM G where
  cell : ∀ (j : Nat) (v : V), G.nm.cv[j]? = some (some v) → ∃ (x : Str) (c : Addr) (u : Value), G.nm.cN[j]? = some x ∧ G.nm.cells.lookup x = some c ∧ RelV v u ∧ G.base.IsCell c (some u)
  all : ∀ (x : Str) (c : Addr), G.nm.cells.lookup x = some c → ∃ v, G.base.IsCell c v
  inj : ∀ (x y : Str) (c : Addr), G.nm.cells.lookup x = some c → G.nm.cells.lookup y = some c → x = y
  lamc : ∀ k l, G.nm.lam k = some l → ∀ y ∈ l.scope.names, y.2 = .free → ∃ c, G.nm.cells.lookup y.1 = some c
/-- a function of the text, as its body shows -/
structure FnG (G : Gx) (L : Nat) (f : Addr) (fd : FuncData) (ps : List Str) (fn : Fn) : Prop where
  run : ∀ (A : Around) (outer : List PySem.Env) (s : Shared) (H : Hp) (args : Args) (us : List Value) (vs : List V) (Q : VK) (E : XK), A.guards = some [] → Room L A → Env0 G.prog G.w G.K G.mg G.base A outer s H → BindsTo s fd args (ps.zip us) → Vals vs us → vs.length = ps.length → spF G fn vs H Q E →
    codeAny (model G.prog G.w) A (.call (.ref f) args) (CR (L2.CX G.prog G.w) outer G.prog G.w H s Q E) s
/-- .. whatever the base, the cells; by place, with its defaults -/
structure FnF (G : Gx) (L g : Nat) (fn : Fn) : Prop where
  run : ∀ base cells cv, GB (G.at_ base cells cv) → ∀ (A : Around) (outer : List PySem.Env) (s : Shared) (H : Hp) (us : List Value) (vs : List V) (Q : VK) (E : XK), A.guards = some [] → Room L A → Env0 G.prog G.w G.K G.mg base A outer s H → Vals vs us → spF (G.at_ base cells cv) fn vs H Q E →
    codeAny (model G.prog G.w) A (.call (.ref (He.ga G.K (G.nm g))) ⟨us, []⟩) (CR (L2.CX G.prog G.w) outer G.prog G.w H s Q E) s
  kp : PySem.W.keepIn G.K (.ref (He.ga G.K (G.nm g))) = true
  mg : G.mg (G.nm g) = some (.ref (He.ga G.K (G.nm g)))
theorem FnF.of {G : Gx} {L g : Nat} {fn : Fn} {fd : FuncData} {ps : List Str} (hF : ∀ base cells cv, GB (G.at_ base cells cv) → FnG (G.at_ base cells cv) L (He.ga G.K (G.nm g)) fd ps fn) (hb : Binds G.K fd ps []) (hlen : ∀ ds p, ds.length ≠ ps.length → fn ds p = .bad)
    (kp : PySem.W.keepIn G.K (.ref (He.ga G.K (G.nm g))) = true) (mg : G.mg (G.nm g) = some (.ref (He.ga G.K (G.nm g)))) : FnF G L g fn where
  kp := kp
  mg := mg
  run := fun base cells cv B A outer s H us vs Q E hg hr e0 r sp => by
    have hl : vs.length = ps.length := by
      obtain ⟨P, R, ds, p, rx, _, _, _, _, k⟩ := sp
      by_cases e : ds.length = ps.length
      · rw [← rx.length]; exact e
      · rw [hlen ds p e] at k; exact k.elim
    have bb := hb s us (e0.mod.kin.keeps fun b o e => (e0.bs b o e).1) (by rw [List.append_nil, ← r.length]; exact hl)
    rw [List.append_nil] at bb
    exact (hF base cells cv B).run A outer s H ⟨us, []⟩ us vs Q E hg hr e0 bb r hl sp
/-- a function as its callers know it -/
def CallS (X : Cx) (f : Value) (r : L2.St → List V → Hp → VK → Prop) : Prop := ∀ (pins : List (Addr × Obj)) (s : Shared) (σ : L2.St) (H : Hp) (xs : List V) (us : List Value) (Q : VK), Inv X pins σ H s → Vals xs us → r σ xs H Q →
  wpAny (model X.prog X.w) X.A (call f us) (EP X pins σ Q) X.xe s
structure Cal (X : Cx) (nm : Nm) (W : WX) (own : Option (List Nat)) (g : Nat) (fn : Fn) : Prop where
  pos : CallS X (.ref (He.ga X.K (nm g))) (rFn (gOf X nm) W own fn)
  kp : PySem.W.keepIn X.K (.ref (He.ga X.K (nm g))) = true
  mg : X.mg (nm g) = some (.ref (He.ga X.K (nm g)))
/-- behind the call's code -/
theorem after_call {X : Cx} {W : WX} {pins : List (Addr × Obj)} {s : Shared} {σ : L2.St} {H : Hp} {Q : VK} {v : Value} {us : List Value} (tk : Takes X W) (I : Inv X pins σ H s)
    (h : codeAny (model X.prog X.w) X.A (.call v ⟨us, []⟩) (CR (L2.CX X.prog X.w) X.stack X.prog X.w H s Q (WE W σ)) s) : wpAny (model X.prog X.w) X.A (call v us) (EP X pins σ Q) X.xe s := by
  refine wpAny_call (codeAny_mono h fun z s' hq => ?_)
  cases z with
  | error e => exact passAt tk σ pins H s e s' I hq
  | ok fl =>
    cases fl with
    | ret u => exact I.after hq
    | next => exact False.elim hq
    | brk => exact False.elim hq
    | cont => exact False.elim hq
theorem Cal.of {X : Cx} {nm : Nm} {W : WX} {L g : Nat} {fn : Fn} (F : FnF (gOf X nm) L g fn) (B : GB (gOf X nm)) (m : Rm X L) (tk : Takes X W) : Cal X nm W none g fn where
  kp := F.kp
  mg := F.mg
  pos := fun pins s σ H xs us Q I r h => by
    exact after_call tk I (F.run X.base nm.cells nm.cv B X.A X.stack s H us xs Q (WE W σ) m.gd m.room I.env0 r (sp_of_r h))
/-! ### a call in a def that makes lambdas -/
/-- the slots that are captured are cells by their names -/
structure Makes (X : Cx) (nm : Nm) (is : List Nat) : Prop where
  cells : nm.cells = X.env.cells
  cv : nm.cv = []
  slot : ∀ (j : Nat) (i : Nat), is[j]? = some i → ∃ x, nm.cN[j]? = some x ∧ X.N[i]? = some x ∧ X.env.scope.names.lookup x = some .cell
  fn : ∀ x, X.fn x = true
  lamc : ∀ k l, nm.lam k = some l → ∀ y ∈ l.scope.names, y.2 = .free → ∃ c, X.env.cells.lookup y.1 = some c
/-- what the captured slots hold -/
def cvOf (is : List Nat) (σ : L2.St) : List (Option V) := is.map fun i => (σ[i]?).join
theorem cvOf_at {is : List Nat} {σ : L2.St} {j : Nat} {v : V} (h : (cvOf is σ)[j]? = some (some v)) : ∃ i, is[j]? = some i ∧ σ[i]? = some (some v) := by
  unfold cvOf at h
  rw [List.getElem?_map] at h
  cases e : is[j]? with
  | none => rw [e] at h; cases h
  | some i =>
    rw [e] at h
    refine ⟨i, rfl, ?_⟩
    have h' : (σ[i]?).join = some v := Option.some.inj h
    cases q : σ[i]? with
    | none => rw [q] at h'; cases h'
    | some u => rw [q] at h'; rw [show u = some v from h']
/-- a part of the heap -/
theorem part (h : Heap) (p : Addr → Bool) : ∃ G : Heap, G.objs.size = h.objs.size ∧ (∀ b, p b = true → G.get? b = h.get? b) ∧ ∀ b o, G.get? b = some o → h.get? b = some o ∧ p b = true := by
  have mem : ∀ {b : Addr}, b ∈ (List.range h.objs.size).filter (fun b => !p b) ↔ b < h.objs.size ∧ p b = false := fun {b} => by
    rw [List.mem_filter, List.mem_range]; simp
  refine ⟨PySem.W.hideAll h ((List.range h.objs.size).filter fun b => !p b), PySem.W.hideAll_size _ _, fun b hb => ?_, fun b o e => ?_⟩
  · have nm : b ∉ (List.range h.objs.size).filter (fun b => !p b) := fun z => by
      have := (mem.mp z).2
      rw [hb] at this; cases this
    cases e : h.get? b with
    | some o => exact PySem.W.hideAll_get _ e nm
    | none =>
      cases q : (PySem.W.hideAll h ((List.range h.objs.size).filter fun b => !p b)).get? b with
      | none => rfl
      | some o =>
        have z := PySem.W.of_hideAll _ q
        rw [e] at z; cases z
  · have z := PySem.W.of_hideAll _ e
    refine ⟨z, ?_⟩
    cases q : p b with
    | true => rfl
    | false =>
      have y := PySem.W.hideAll_none (h := h) _ (mem.mpr ⟨Heap.lt_size z, q⟩)
      rw [y] at e; cases e
theorem mod_keeps {K : PySem.W.Frag} {mg : Str → Option Value} {h h' : Heap} (m : Mod K mg h) (k : ∀ b o, h.get? b = some o → h'.get? b = some o) : Mod K mg h' :=
  ⟨m.kin.keeps k, m.glob.keeps k, let ⟨mb, h1, h2⟩ := m.blt; ⟨mb, h1.keeps k, h2⟩, m.nolimit.keeps k⟩
theorem tab_keeps {mg : Str → Option Value} {h h' : Heap} {c P : Addr} (t : LamX.TabB h mg c P) (k : ∀ b o, h.get? b = some o → h'.get? b = some o) : LamX.TabB h' mg c P :=
  ⟨t.code.keeps k, t.bm.keeps k, t.gP⟩
/-- the base with the cells -/
theorem base_cells {X : Cx} {nm : Nm} {is : List Nat} {pins : List (Addr × Obj)} {σ : L2.St} {H : Hp} {s : Shared} (M : Makes X nm is) (B : GM (gOf X nm)) (I : Inv X pins σ H s) :
    ∃ base, GB ((gOf X nm).at_ base nm.cells (cvOf is σ)) ∧ Env0 X.prog X.w X.K X.mg base X.A X.stack s H := by
  obtain ⟨G, g0, g1, g2⟩ := part s.heap fun b => (X.base.get? b).isSome || X.env.cells.any fun p => decide (X.env.cells.lookup p.1 = some b)
  have inB : ∀ b o, X.base.get? b = some o → G.get? b = some o := fun b o e => by
    rw [g1 b (by rw [e]; rfl)]
    exact I.bk b o e
  have inC : ∀ x c, X.env.cells.lookup x = some c → G.get? c = s.heap.get? c := fun x c e => g1 c (Bool.or_eq_true_iff.mpr (.inr (List.any_eq_true.mpr ⟨(x, c), PySem.mem_of_lookup e, decide_eq_true e⟩)))
  have ofG : ∀ b o, G.get? b = some o → s.heap.get? b = some o ∧ ((∃ u, X.base.get? b = some u) ∨ ∃ x, X.env.cells.lookup x = some b) := fun b o e => by
    obtain ⟨e1, e2⟩ := g2 b o e
    refine ⟨e1, ?_⟩
    rcases Bool.or_eq_true_iff.mp e2 with h | h
    · exact .inl (Option.isSome_iff_exists.mp h)
    · obtain ⟨p, _, e3⟩ := List.any_eq_true.mp h
      exact .inr ⟨p.1, of_decide_eq_true e3⟩
  have mo := mod_keeps I.ok.mod inB
  refine ⟨G, ⟨⟨mo, fun p hp => tab_keeps (B.tab p hp) inB⟩, fun j v hj => ?_, fun x c e => ?_, fun x y c e1 e2 => ?_, fun k l hk y hy e => by rw [show nm.cells = _ from M.cells]; exact M.lamc k l hk y hy e⟩, ⟨I.ok.frames, mo, fun b o e => ?_, by rw [g0]; exact Nat.le_refl _, funFrames_none I.stack fun L hL => ?_, I.stkFree, I.hok, I.bare⟩⟩
  · obtain ⟨i, h1, h2⟩ := cvOf_at hj
    obtain ⟨x, a1, a2, a3⟩ := M.slot j i h1
    obtain ⟨m, _, hl⟩ := I.loc
    obtain ⟨u, r, q⟩ := hl i x v a2 h2 (.inr (.inl a3))
    rcases q with ⟨k, _⟩ | ⟨_, c, e, z⟩
    · have k' : X.env.scope.names.lookup x = some .local := k
      rw [a3] at k'; cases k'
    · refine ⟨x, c, u, a1, ?_, r, ?_⟩
      · show nm.cells.lookup x = some c
        rw [M.cells]; exact e
      · obtain ⟨o, ho, hd⟩ := z
        exact ⟨o, (inC x c e).trans ho, hd⟩
  · have e' : X.env.cells.lookup x = some c := by rw [← M.cells]; exact e
    obtain ⟨v, o, ho, hd⟩ := I.cell x c e'
    exact ⟨v, o, (inC x c e').trans ho, hd⟩
  · exact I.ok.inj x y c (by rw [← M.cells]; exact e1) (by rw [← M.cells]; exact e2)
  · obtain ⟨e1, e2⟩ := ofG b o e
    refine ⟨e1, ?_⟩
    rcases e2 with ⟨u, e2⟩ | ⟨x, e2⟩
    · exact (I.bs b u e2).2
    · exact I.freeC x b e2
  · cases q : G.get? L with
    | none => rfl
    | some o =>
      obtain ⟨e1, e2⟩ := ofG L o q
      rcases e2 with ⟨u, e2⟩ | ⟨x, e2⟩
      · obtain ⟨n, _⟩ := I.stack.mem hL
        rw [e2] at n; cases n
      · rcases List.mem_cons.mp (I.stkSub L hL) with z | z
        · exact absurd z (I.cne x L e2)
        · obtain ⟨_, o', ho', _⟩ := I.ok.funs.mem z
          have := I.ok.cab x L (M.fn x) e2
          exact absurd (Nat.lt_of_lt_of_le (Heap.lt_size ho') this) (Nat.lt_irrefl _)
theorem Cal.ofM {X : Cx} {nm : Nm} {W : WX} {L g : Nat} {fn : Fn} {is : List Nat} (M : Makes X nm is) (F : FnF (gOf X nm) L g fn) (B : GM (gOf X nm)) (m : Rm X L) (tk : Takes X W) : Cal X nm W (some is) g fn where
  kp := F.kp
  mg := F.mg
  pos := fun pins s σ H xs us Q I r h => by
    obtain ⟨base, B', e0⟩ := base_cells M B I
    obtain ⟨c, R, τ, ρ, fps, ds, S, rx, k⟩ := h
    have sp : spF ((gOf X nm).at_ base nm.cells (cvOf is σ)) fn xs H Q (WE W σ) := by
      refine ⟨c.P, R, ds, envOf (some is) ρ, (RepL.congr ds xs).mpr rx, S.same, S.pr, ?_, S.tab, ?_⟩
      · obtain ⟨cl, h1, h2, _⟩ := S.pen
        refine ⟨cl, h1, h2, fun j d hj => ?_⟩
        have hj' : (is.map (slD ρ.sl))[j]? = some (some d) := hj
        rw [List.getElem?_map] at hj'
        cases e : is[j]? with
        | none => rw [e] at hj'; cases hj'
        | some i =>
          rw [e] at hj'
          have h3 : slD ρ.sl i = some d := Option.some.inj hj'
          unfold slD at h3
          split at h3
          · rename_i d' q
            obtain rfl : d' = d := Option.some.inj h3
            obtain ⟨v, f, a1, a2, a3⟩ := S.sl.at_ i _ q
            simp only [RO] at a3
            obtain ⟨x, _, b2, _⟩ := M.slot j i e
            have hi : i < σ.length := by rw [I.len]; exact (List.getElem?_eq_some_iff.mp b2).1
            rw [List.getElem?_append_left hi] at a1
            refine ⟨v, ?_, (Rep.congr d' v).mpr a3.1⟩
            show (cvOf is σ)[j]? = some (some v)
            unfold cvOf
            rw [List.getElem?_map, e]
            show some ((σ[i]?).join) = some (some v)
            rw [a1]; rfl
          · cases h3
      · unfold callFn at k
        dsimp only at k
        have penB : ∀ {R' H' : Hp} {p : Pen}, Same R R' → PenOk ((gOf X nm).at_ base nm.cells (cvOf is σ)) c.P H' R' p → PenOk (gOf X nm) c.P H' R' (backP (some is) ρ p) := fun {R' H' p} e ⟨cl, h1, h2, _⟩ => by
          obtain ⟨_, _, _, h3⟩ := S.pen
          exact ⟨cl, h1, h2, h3.mono e⟩
        cases e : fn ds (envOf (some is) ρ) with
        | ok d p =>
          rw [e] at k
          intro R' H' x e1 e2 e3 e4 e5 e6 e7 rd
          have S' := S.back e1 e2 e3 e4 e5 (penB e1 e6) e7
          exact k R' H' fps e1 e3 S' x (VR.frz none S' ((Rep.congr d x).mp rd))
        | err g ns ys p =>
          rw [e] at k
          intro d fs R' H' e1 e2 e3 e4 e5 e6 e7 h1 h2 h3
          exact k d fs R' H' fps e1 e3 (S.back e1 e2 e3 e4 e5 (penB e1 e6) e7) h1 h2 ((RepL.congr ys _).mp h3)
        | bad => rw [e] at k; exact k.elim
    exact after_call tk I (F.run base nm.cells (cvOf is σ) B' X.A X.stack s H us xs Q (WE W σ) m.gd m.room e0 r sp)
section
variable {X : Cx} {nm : Nm} {W : WX} {Γ : Gam} {as : List E} {es : List Expr} {pos p2 : Pos} {g : Nat} {fn : Fn}
theorem callFn_at {σ : L2.St} {H : Hp} {Q : VK} {c : Cf} {R : Hp} {τ : L2.St} {ρ : Env} {fps : List (List Addr)} {ds : List D} {xs : List V} {o : Option Fn} {own : Option (List Nat)} (hf : o = some fn) (S : Sim (gOf X nm) c R H (σ ++ τ) ρ fps) (rx : RepL (gOf X nm) c.P R ds xs) (h : Fin (gOf X nm) W c σ τ R H Q (callFn own o ds ρ)) :
    rFn (gOf X nm) W own fn σ xs H Q := ⟨c, R, τ, ρ, fps, ds, S, rx, by rw [← hf]; exact h⟩
theorem x_call (C : Cal X nm W Γ.own g fn) (hf : Γ.fn g = some fn) (hg : Gl X (nm g)) (hdb : (nm g == ("__debug__" : Str)) = false) {e : Expr} (hs : (e :: es).all noStar = true) (ha : pAs X nm W Γ as (e :: es)) :
    pE X nm W Γ (.call g as) (.Call (.Name (nm g) p2) (e :: es) [] pos) := by
  refine ⟨fun pins s σ H Q I h => ?_⟩
  have h0 : tAs (gOf X nm) W Γ as σ H (fun xs H1 => rFn (gOf X nm) W Γ.own fn σ xs H1 Q) := h.part fun c τ ds ρ1 R1 H1 fp1 S1 h1 xs rs => callFn_at hf S1 rs h1
  refine wpAny_Call_Name_kw (ld_glob I hg C.mg ?_ hdb)
  rw [List.all_cons, Bool.and_eq_true] at hs
  refine PySem.W.callWith_K (h₀ := X.base) I.ok.mod.kin C.kp (thn (ha.run pos pins s σ H _ I h0) fun us s1 ⟨xs, H1, I1, r, q⟩ => ⟨I1.kIn, ?_⟩) (star_of hs.1) (stars_of hs.2)
  exact C.pos pins s1 σ H1 xs us Q I1 r q
theorem x_call0 (C : Cal X nm W Γ.own g fn) (hf : Γ.fn g = some fn) (hg : Gl X (nm g)) (hdb : (nm g == ("__debug__" : Str)) = false) : pE X nm W Γ (.call g []) (.Call (.Name (nm g) p2) [] [] pos) := by
  refine ⟨fun pins s σ H Q I h => ?_⟩
  obtain ⟨c, R, ρ, τ, fps, S, h⟩ := h
  have h' : Fin (gOf X nm) W c σ τ R H Q (callFn Γ.own (Γ.fn g) [] ρ) := h
  refine wpAny_Call_Name_kw (ld_glob I hg C.mg ?_ hdb)
  exact PySem.W.callWith_K0 I.kIn C.kp (C.pos pins s σ H [] [] Q I .nil (callFn_at hf S RepL.nil h'))
/-- a call of what a name holds: every function that it may be is known -/
theorem x_callv {i : Nat} {x : Str} {e : Expr} (C : ∀ g fn, Γ.fn g = some fn → Cal X nm W Γ.own g fn) (hN : X.N[i]? = some x) (hv : Vis X.env.scope x) (hd : (x == ("__debug__" : Str)) = false) (hcd : (x == ("__classdict__" : Str)) = false)
    (hs : (e :: es).all noStar = true) (ha : pAs X nm W Γ as (e :: es)) : pE X nm W Γ (.callv i as) (.Call (.Name x p2) (e :: es) [] pos) := by
  refine ⟨fun pins s σ H Q I h => ?_⟩
  have hi : i < σ.length := by rw [I.len]; exact (List.getElem?_eq_some_iff.mp hN).1
  obtain ⟨c, R, ρ, τ, fps, S, h⟩ := h
  obtain ⟨o, v, _, hx, rv, h1⟩ := Post.rd S hi h
  have key : ∃ g fn, v = .ref (He.ga X.K (nm g)) ∧ Γ.fn g = some fn ∧ Post (gOf X nm) W c σ τ R H (fun v ρ' R' H' fps' => ∀ x, VR (gOf X nm) c R' H' fps' v x → Q x H') (bnd (evs Γ as) (fun ds => callFn Γ.own (Γ.fn g) ds) ρ) := by
    cases o with
    | frz d =>
      cases d with
      | glo g =>
        obtain ⟨f, q⟩ := rv.ro
        simp only [RO, Rep] at q
        have h2 : Post (gOf X nm) W c σ τ R H (fun v ρ' R' H' fps' => ∀ x, VR (gOf X nm) c R' H' fps' v x → Q x H') ((if (Γ.fn g).isSome = true then bnd (evs Γ as) (fun ds => callFn Γ.own (Γ.fn g) ds) else bad) ρ) := h1
        cases hf : Γ.fn g with
        | none => rw [hf] at h2; exact h2.elim
        | some fn =>
          rw [hf] at h2
          exact ⟨g, fn, q.1, hf, by rw [hf]; exact h2⟩
      | _ => exact h1.elim
    | _ => exact h1.elim
  obtain ⟨g, fn, ev, hf, h2⟩ := key
  subst ev
  rw [List.all_cons, Bool.and_eq_true] at hs
  have K := C g fn hf
  have h0 : tAs (gOf X nm) W Γ as σ H (fun xs H1 => rFn (gOf X nm) W Γ.own fn σ xs H1 Q) := At.ofPart S h2 fun ds ρ1 R1 H1 fp1 _ _ S1 h3 xs rs => callFn_at hf S1 rs h3
  refine wpAny_Call_Name_kw (thn ((pe_var (pos := p2) hN hv hd hcd).run pins s σ H (fun v H1 => v = .ref (He.ga X.K (nm g)) ∧ H1 = H) I ⟨_, hx, rfl, rfl⟩) fun u s1 ⟨v, H1, I1, r1, e1, e2⟩ => ?_)
  subst e1 e2
  obtain rfl : u = Value.ref (He.ga X.K (nm g)) := r1
  refine PySem.W.callWith_K (h₀ := X.base) I1.ok.mod.kin K.kp (thn (ha.run pos pins s1 σ _ _ I1 h0) fun us s2 ⟨xs, H2, I2, r, q⟩ => ⟨I2.kIn, ?_⟩) (star_of hs.1) (stars_of hs.2)
  exact K.pos pins s2 σ H2 xs us Q I2 r q
end
end DL

set_option Elab.async false
set_option linter.all false
set_option maxRecDepth 100000
/-! DL17: statements, form by form. -/
namespace DL
open PySem PySem.Spec PyProof.Rows L2
/-- behind a statement -/
def PostS (G : Gx) (W : WX) (c : Cf) (R : Hp) (n : Nat) (D : Ends) : Res Env Fl → Prop
  | .ok .nx ρ' => ∀ R' H' σ' fps', σ'.length = n → Same R R' → Sim G c R' H' σ' ρ' fps' → D.nx σ' H'
  | .ok .brk ρ' => ∀ R' H' σ' fps', σ'.length = n → Same R R' → Sim G c R' H' σ' ρ' fps' → D.bk σ' H'
  | .ok .cnt ρ' => ∀ R' H' σ' fps', σ'.length = n → Same R R' → Sim G c R' H' σ' ρ' fps' → D.ct σ' H'
  | .ok (.ret d) ρ' => ∀ R' H' ν fps' x, Same R R' → Sim G c R' H' ν ρ' fps' → Rep G c.P R' d x → D.rt x H'
  | .err g ns xs ρ' => ∀ d fs R' H' σ' ν fps', σ'.length = n → Same R R' → Sim G c R' H' (σ' ++ ν) ρ' fps' → R' d = some (.xd fs) → fs.map (·.1) = ns → RepL G c.P R' xs (fs.map (·.2)) → W (.ref (He.ga G.K (G.nm g))) (some d) σ' H'
  | .bad => False
def tS (G : Gx) (W : WX) (Γ : Gam) (s : S) : TS := fun D σ H => ∃ c R ρ fps, Sim G c R H σ ρ fps ∧ PostS G W c R σ.length D (evS Γ s ρ)
def tSs (G : Gx) (W : WX) (Γ : Gam) (ss : List S) : TS := fun D σ H => ∃ c R ρ fps, Sim G c R H σ ρ fps ∧ PostS G W c R σ.length D (evSs Γ ss ρ)
section
variable {G : Gx} {W : WX} {c : Cf} {R R' H H' : Hp} {σ τ : L2.St} {ρ ρ' : Env} {fps : List (List Addr)} {En En' : Ends} {α : Type} {n : Nat}
theorem PostS.mono {r : Res Env Fl} (h : PostS G W c R n En r) (e : Same R R') : PostS G W c R' n En r := by
  cases r with
  | ok f ρ' =>
    cases f with
    | nx => exact fun R2 H2 σ2 f2 l2 e2 => h R2 H2 σ2 f2 l2 (e.trans e2)
    | brk => exact fun R2 H2 σ2 f2 l2 e2 => h R2 H2 σ2 f2 l2 (e.trans e2)
    | cnt => exact fun R2 H2 σ2 f2 l2 e2 => h R2 H2 σ2 f2 l2 (e.trans e2)
    | ret d => exact fun R2 H2 σ2 f2 x e2 => h R2 H2 σ2 f2 x (e.trans e2)
  | err g ns xs ρ' => exact fun d fs R2 H2 σ2 ν f2 l2 e2 => h d fs R2 H2 σ2 ν f2 l2 (e.trans e2)
  | bad => exact h
/-- an expression first -/
theorem PostS.part {m : M α} {f : α → M Fl} (S : Sim G c R H (σ ++ τ) ρ fps) (hn : σ.length = n) (h : PostS G W c R n En (bnd m f ρ)) : Post G W c σ τ R H (fun a ρ1 R1 H1 fp1 => PostS G W c R1 n En (f a ρ1)) (m ρ) := by
  unfold bnd at h
  cases e : m ρ with
  | ok a ρ' => rw [e] at h; exact fun R' H' fp' e1 _ _ => h.mono e1
  | err g ns xs ρ' =>
    rw [e] at h
    intro d fs R' H' fp' e1 _ S' h1 h2 h3
    exact h d fs R' H' σ τ fp' hn e1 S' h1 h2 h3
  | bad => rw [e] at h; exact h.elim
theorem PostS.at_ {m : M α} {f : α → M Fl} {k' : Cf → L2.St → α → Env → Hp → Hp → List (List Addr) → Prop} (S : Sim G c R H σ ρ fps) (h : PostS G W c R σ.length En (bnd m f ρ))
    (g : ∀ a ρ1 R1 H1 fp1, Same R R1 → SX c.P H H1 → Sim G c R1 H1 σ ρ1 fp1 → PostS G W c R1 σ.length En (f a ρ1) → k' c [] a ρ1 R1 H1 fp1) : At G W m k' σ H := by
  rw [← List.append_nil σ] at S
  exact ⟨c, R, ρ, [], fps, S, (PostS.part S rfl h).imp fun a ρ1 R1 H1 fp1 e x S' q => by
    rw [List.append_nil] at S'
    exact g a ρ1 R1 H1 fp1 e x S' q⟩
theorem PostS.esc {v : Val} {x : V} {f : D → M Fl} (s : Sim G c R H σ ρ fps) (r : VR G c R H fps v x) (h : PostS G W c R n En' (bnd (esc v) f ρ)) :
    ∃ d ρ' R' fps', Same R R' ∧ Sim G c R' H σ ρ' fps' ∧ Rep G c.P R' d x ∧ PostS G W c R' n En' (f d ρ') := by
  unfold bnd at h
  cases e : DL.esc v ρ with
  | ok d ρ' =>
    rw [e] at h
    obtain ⟨R', fps', h1, h2, h3⟩ := esc_ok s r e
    exact ⟨d, ρ', R', fps', h1, h2, h3, h.mono h1⟩
  | err g ns xs ρ' => exact (esc_noerr e).elim
  | bad => rw [e] at h; exact h.elim
theorem PostS.keep {v : Val} {x : V} {f : O → M Fl} (s : Sim G c R H σ ρ fps) (r : VR G c R H fps v x) (h : PostS G W c R n En' (bnd (keep v) f ρ)) :
    ∃ o ρ' R' fps', Same R R' ∧ Sim G c R' H σ ρ' fps' ∧ VR G c R' H fps' ⟨none, o⟩ x ∧ PostS G W c R' n En' (f o ρ') := by
  unfold bnd at h
  cases e : DL.keep v ρ with
  | ok o ρ' =>
    rw [e] at h
    obtain ⟨R', fps', h1, h2, h3⟩ := keep_ok s r e
    exact ⟨o, ρ', R', fps', h1, h2, h3, h.mono h1⟩
  | err g ns xs ρ' =>
    unfold DL.keep at e
    split at e
    · cases e
    · split at e
      · cases e
      · rename_i q; exact (esc_noerr q).elim
      · cases e
  | bad => rw [e] at h; exact h.elim
theorem PostS.int {v : Val} {x : V} {f : Int → M Fl} (r : VR G c R H fps v x) (h : PostS G W c R n En' (bnd (vInt v) f ρ)) : ∃ i, x = .int i ∧ PostS G W c R n En' (f i ρ) := by
  obtain ⟨src, o⟩ := v
  unfold bnd vInt at h
  cases o with
  | frz d =>
    cases d with
    | int i =>
      obtain ⟨g, q⟩ := r.ro
      simp only [RO, Rep] at q
      exact ⟨i, q.1, h⟩
    | _ => exact h.elim
  | _ => exact h.elim
/-- a slot gets what is nobody's -/
theorem Sim.setO (s : Sim G c R H σ ρ fps) {o : O} {x : V} (i : Nat) (r : VR G c R H fps ⟨none, o⟩ x) : ∃ fps', Sim G c R H (σ.set i (some x)) (ρ.set i (some o)) fps' := by
  obtain ⟨f, h1, h2, h3⟩ := r
  refine ⟨fps.set i f, { s with sl := s.sl.set i h1, dis := s.dis.set i h2 fun a ha j g _ hg => (h3 a ha).2 j g hg, out := fun j g a hj ha => ?_ }⟩
  rcases getElem?_set_cases hj with ⟨_, e2, _⟩ | ⟨_, hj⟩
  · rw [e2] at ha; exact (h3 a ha).1
  · exact s.out j g a hj ha
end
section
variable {X : Cx} {nm : Nm} {W : WX} {Γ : Gam} {a b cc ex ey ez : E} {as : List E} {e e1 e2 e3 : Expr} {es rest : List Expr} {pos pos' p2 p3 p4 : Pos}
theorem _root_.L2.PS.weak {X : Cx} {st : Stmt} {t t' : TS} (h : PS X st t) (f : ∀ D σ H, σ.length = X.N.length → t' D σ H → t D σ H) : PS X st t' := ⟨fun pins s σ H D I q => h.run pins s σ H D I (f D σ H I.len q)⟩
theorem _root_.L2.PSs.weak {X : Cx} {st : List Stmt} {t t' : TS} (h : PSs X st t) (f : ∀ D σ H, σ.length = X.N.length → t' D σ H → t D σ H) : PSs X st t' := ⟨fun pins s σ H D I q => h.run pins s σ H D I (f D σ H I.len q)⟩
abbrev pS (X : Cx) (nm : Nm) (W : WX) (Γ : Gam) (s : S) (st : Stmt) : Prop := PS X st (tS (gOf X nm) W Γ s)
abbrev pSs (X : Cx) (nm : Nm) (W : WX) (Γ : Gam) (s : List S) (st : List Stmt) : Prop := PSs X st (tSs (gOf X nm) W Γ s)
theorem ss_nil : pSs X nm W Γ [] [] := pss_nil.weak fun D σ H _ ⟨c, R, ρ, fps, S, h⟩ => by
  have h' : PostS (gOf X nm) W c R σ.length D (.ok .nx ρ) := h
  exact h' R H σ fps rfl (Same.refl R) S
theorem ss_cons {s : S} {ss : List S} {st : Stmt} {sts : List Stmt} (h1 : pS X nm W Γ s st) (h2 : pSs X nm W Γ ss sts) : pSs X nm W Γ (s :: ss) (st :: sts) := (pss_cons h1 h2).weak fun D σ H _ ⟨c, R, ρ, fps, S, h⟩ => by
  refine ⟨c, R, ρ, fps, S, ?_⟩
  have h' : PostS (gOf X nm) W c R σ.length D (bnd (evS Γ s) (fun f => match f with | .nx => evSs Γ ss | f => ret f) ρ) := h
  unfold bnd at h'
  cases e : evS Γ s ρ with
  | ok f ρ' =>
    rw [e] at h'
    cases f with
    | nx => exact fun R2 H2 σ2 f2 l2 e2 S2 => ⟨c, R2, ρ', f2, S2, by rw [l2]; exact PostS.mono h' e2⟩
    | brk => exact h'
    | cnt => exact h'
    | ret d => exact h'
  | err g ns xs ρ' => rw [e] at h'; exact h'
  | bad => rw [e] at h'; exact h'.elim
theorem s_pass : pS X nm W Γ .pas (.Pass pos) := ps_pass.weak fun D σ H _ ⟨c, R, ρ, fps, S, h⟩ => by
  have h' : PostS (gOf X nm) W c R σ.length D (.ok .nx ρ) := h
  exact h' R H σ fps rfl (Same.refl R) S
theorem s_brk : pS X nm W Γ .brk (.Break pos) := ps_break.weak fun D σ H _ ⟨c, R, ρ, fps, S, h⟩ => by
  have h' : PostS (gOf X nm) W c R σ.length D (.ok .brk ρ) := h
  exact h' R H σ fps rfl (Same.refl R) S
theorem s_cnt : pS X nm W Γ .cnt (.Continue pos) := ps_continue.weak fun D σ H _ ⟨c, R, ρ, fps, S, h⟩ => by
  have h' : PostS (gOf X nm) W c R σ.length D (.ok .cnt ρ) := h
  exact h' R H σ fps rfl (Same.refl R) S
theorem s_retn : pS X nm W Γ .retn (.Return none pos) := ps_retN.weak fun D σ H _ ⟨c, R, ρ, fps, S, h⟩ => by
  have h' : PostS (gOf X nm) W c R σ.length D (.ok (.ret .non) ρ) := h
  exact h' R H σ fps .non (Same.refl R) S (by simp only [Rep])
theorem s_ret (ha : pE X nm W Γ a e) : pS X nm W Γ (.ret a) (.Return (some e) pos) := (ps_ret ha).weak fun D σ H _ ⟨c, R, ρ, fps, S, h⟩ => by
  refine PostS.at_ S h fun v ρ1 R1 H1 fp1 e1 _ S1 h1 x rx => ?_
  obtain ⟨d, ρ2, R2, fp2, e2, S2, rd, h2⟩ := PostS.esc S1 rx h1
  have h' : PostS (gOf X nm) W c R2 σ.length D (.ok (.ret d) ρ2) := h2
  exact h' R2 H1 σ fp2 x (Same.refl _) S2 rd
theorem s_ex (hs : swapsWith e none pos.line X.env = pure false) (ha : pE X nm W Γ a e) : pS X nm W Γ (.ex a) (.Expr e pos) := (ps_expr ha hs).weak fun D σ H _ ⟨c, R, ρ, fps, S, h⟩ => by
  refine PostS.at_ S h fun v ρ1 R1 H1 fp1 e1 _ S1 h1 x rx => ?_
  have h' : PostS (gOf X nm) W c R1 σ.length D (.ok .nx ρ1) := h1
  exact h' R1 H1 σ fp1 rfl (Same.refl _) S1
theorem s_iff {s1 s2 : List S} {st1 st2 : List Stmt} (hc : pT X nm W Γ cc e) (h1 : pSs X nm W Γ s1 st1) (h2 : pSs X nm W Γ s2 st2) : pS X nm W Γ (.iff cc s1 s2) (.If e st1 st2 pos) := (ps_if hc h1 h2).weak fun D σ H _ ⟨c, R, ρ, fps, S, h⟩ => by
  refine PostS.at_ S h fun t ρ1 R1 H1 fp1 e1 _ S1 h1 => ?_
  cases t with
  | true => exact ⟨c, R1, ρ1, fp1, S1, h1⟩
  | false => exact ⟨c, R1, ρ1, fp1, S1, h1⟩
/-- what is set -/
theorem set_fin {c : Cf} {R H : Hp} {σ : L2.St} {ρ : Env} {fps : List (List Addr)} {D : Ends} {i : Nat} {v : Val} {x : V} (S : Sim (gOf X nm) c R H σ ρ fps) (rx : VR (gOf X nm) c R H fps v x) (h : PostS (gOf X nm) W c R σ.length D (bnd (keep v) (fun o => setO i o) ρ)) : D.nx (σ.set i (some x)) H := by
  obtain ⟨o, ρ2, R2, fp2, e2, S2, ro, h2⟩ := PostS.keep S rx h
  obtain ⟨fp3, S3⟩ := S2.setO i ro
  have h' : PostS (gOf X nm) W c R2 σ.length D (.ok .nx (ρ2.set i (some o))) := h2
  exact h' R2 H _ fp3 (by rw [List.length_set]) (Same.refl _) S3
theorem s_set {i : Nat} {x : Str} (hN : X.N.Nodup) (hi : X.N[i]? = some x) (hx : Loc X.env.scope x) (hf : X.fn x = true ∨ X.env.scope.names.lookup x = some .local) (hs : swapsWith e (some (.Name x p2)) pos.line X.env = pure false) (ha : pE X nm W Γ a e) :
    pS X nm W Γ (.set i a) (.Assign [.Name x p2] e pos) := (ps_set hN hi hx ha hs hf).weak fun D σ H _ ⟨c, R, ρ, fps, S, h⟩ => PostS.at_ S h fun v ρ1 R1 H1 fp1 e1 _ S1 h1 x rx => set_fin S1 rx h1
/-- name = [..] where the list is stored at once -/
theorem s_setLc {i : Nat} {x : Str} {own : List (Str × Nat)} {tg : Tg} {kd : ItK} {ifs : List E} {tgE iterE eltE : Expr} {ifsE : List Expr} {scope : Scope} (hc : X.calm = true) (hN : X.N.Nodup) (hi : X.N[i]? = some x) (hxl : X.env.scope.names.lookup x = some .local)
    (hsw : swapsWith (.ListComp eltE [⟨tgE, iterE, ifsE, 0⟩] scope p3) (some (.Name x p2)) pos.line X.env = pure true) (nd : (own.map (·.2)).Nodup) (hsub : ∀ i ∈ tg.is, i ∈ own.map (·.2)) (ok : BlkOk X.N X.env.scope scope own)
    (hit : PI X tgE iterE (tI (gOf X nm) W Γ false kd as)) (hs : ∀ x, foldedSetIterable iterE X.env x = pure x)
    (hg : ∀ (s : Shared) (H : Hp) (C : Addr) (cl : List (Str × Addr)) (fp : List Addr), PG (X.blk s H scope (compEnvC scope cl C X.env) fp) tgE (tG (gOf X nm) tg)) (ht : ∀ (s : Shared) (H : Hp) (C : Addr) (cl : List (Str × Addr)) (fp : List Addr), PTs (X.blk s H scope (compEnvC scope cl C X.env) fp) ifsE (tTs (gOf X nm) WF Γ ifs))
    (he : ∀ (s : Shared) (H : Hp) (C : Addr) (cl : List (Str × Addr)) (fp : List Addr), PE (X.blk s H scope (compEnvC scope cl C X.env) fp) eltE (tE (gOf X nm) WF Γ a)) :
    pS X nm W Γ (.set i (.lc (own.map (·.2)) tg kd as ifs a)) (.Assign [.Name x p2] (.ListComp eltE [⟨tgE, iterE, ifsE, 0⟩] scope p3) pos) := (ps_setLc hc hN hi hxl hsw hit ok hg ht he hs).weak fun D σ H hl ⟨c, R, ρ, fps, S, h⟩ => by
  have h0 : tE (gOf X nm) W Γ (.lc (own.map (·.2)) tg kd as ifs a) σ H (fun x H1 => D.nx (σ.set i (some x)) H1) := PostS.at_ S h fun v ρ1 R1 H1 fp1 e1 _ S1 h1 x rx => set_fin S1 rx h1
  refine lc_read (c0 := ()) nd (fun j hj => ?_) hsub h0
  obtain ⟨p, hp, rfl⟩ := List.mem_map.mp hj
  rw [hl]
  exact (List.getElem?_eq_some_iff.mp (ok.ix p hp)).1
theorem asgs_noerr : ∀ {is : List Nat} {ds : List DL.D} {ρ : Env} {g : Nat} {ns : List Str} {xs : List DL.D} {ρ' : Env}, asgs is ds ρ = .err g ns xs ρ' → False
  | [], ds, ρ, g, ns, xs, ρ', h => by cases ds <;> cases h
  | i :: is, [], ρ, g, ns, xs, ρ', h => by cases h
  | i :: is, d :: ds, ρ, g, ns, xs, ρ', h => by
    have h' : asgs is ds (ρ.set i (some (.frz d))) = .err g ns xs ρ' := h
    exact asgs_noerr h'
theorem asgT_noerr {tg : Tg} {d : DL.D} {ρ : Env} {g : Nat} {ns : List Str} {xs : List DL.D} {ρ' : Env} (e : asgT tg d ρ = .err g ns xs ρ') : False := by
  cases tg with
  | nm i => cases e
  | tp is =>
    cases d with
    | tup ds => exact asgs_noerr e
    | lst ds => exact asgs_noerr e
    | _ => cases e
theorem asg_ok {tg : Tg} {d : D} {ρ : Env} {σ : L2.St} {R H : Hp} {c : Cf} {D : Ends} (h : PostS (gOf X nm) W c R σ.length D (bnd (asgT tg d) (fun _ => ret .nx) ρ)) : ∃ ρ', asgT tg d ρ = .ok () ρ' ∧ PostS (gOf X nm) W c R σ.length D (.ok .nx ρ') := by
  unfold bnd at h
  cases e : asgT tg d ρ with
  | ok u ρ' => rw [e] at h; exact ⟨ρ', rfl, h⟩
  | bad => rw [e] at h; exact h.elim
  | err g ns xs ρ' => exact (asgT_noerr e).elim
theorem s_sett {is : List Nat} {tg : Expr} (hg : PG X tg (tG (gOf X nm) (.tp is))) (hs : swapsWithSole [tg] e pos.line X.env = pure false) (hw : swappedStores [tg] e X.env = pure none) (h1 : (assignEach [tg] X.env).map (·.2) = [assign tg X.env]) (ha : pE X nm W Γ a e) :
    pS X nm W Γ (.sett is a) (.Assign [tg] e pos) := (ps_asg ha hg hs hw h1).weak fun D σ H _ ⟨c, R, ρ, fps, S, h⟩ => by
  refine PostS.at_ S h fun v ρ1 R1 H1 fp1 e1 _ S1 h1 x rx => ?_
  obtain ⟨d, ρ2, R2, fp2, e2, S2, rd, h2⟩ := PostS.esc S1 rx h1
  obtain ⟨ρ3, e3, h3⟩ := asg_ok (H := H1) h2
  refine ⟨c, R2, ρ2, [], fp2, d, ρ3, by rw [List.append_nil]; exact S2, rd, e3, fun σ' fp' hl _ S' => ?_⟩
  rw [List.append_nil] at S'
  exact h3 R2 H1 σ' fp' hl (Same.refl _) S'
end
end DL

set_option Elab.async false
set_option linter.all false
set_option maxRecDepth 100000
/-! DL18: statements, continued: two names at once, append, the pen, loops. -/
namespace DL
open PySem PySem.Spec PyProof.Rows L2
section
variable {X : Cx} {nm : Nm} {W : WX} {Γ : Gam} {a b cc ex ey ez : E} {as : List E} {e e1 e2 e3 : Expr} {es rest : List Expr} {pos pos' p2 p3 p4 : Pos}
theorem s_par {i j : Nat} {x y : Str} {pt pt2 : Pos} {kt k2 : Nat} (hc : X.calm = true) (hN : X.N.Nodup) (hi : X.N[i]? = some x) (hj : X.N[j]? = some y) (hij : i ≠ j) (hx : X.env.scope.names.lookup x = some .local) (hy : X.env.scope.names.lookup y = some .local)
    (hs1 : noStar e1 = true) (hs2 : noStar e2 = true) (hw : swappedStores [.Tuple [.Name x p2, .Name y p3] kt pt] (.Tuple [e1, e2] k2 pt2) X.env = pure (some [x, y])) (ha : pE X nm W Γ a e1) (hb : pE X nm W Γ b e2) :
    pS X nm W Γ (.par i j a b) (.Assign [.Tuple [.Name x p2, .Name y p3] kt pt] (.Tuple [e1, e2] k2 pt2) pos) :=
  (ps_par hc hN hi hj hij hx hy (pa_cons ha (pa_cons hb pa_nil (star_of hs2)) (star_of hs1)) hw).weak fun D σ H hl ⟨c, R, ρ, fps, S, h⟩ => by
  refine PostS.at_ S h fun v ρ1 R1 H1 fp1 e1 _ S1 h1 u ru => ?_
  obtain ⟨o, ρ2, R2, fp2, e2, S2, ro, h2⟩ := PostS.keep S1 ru h1
  obtain ⟨f3, S3⟩ := S2.snoc ro
  have h3 : PostS (gOf X nm) W c R2 σ.length D (bnd (ev Γ b) (fun y => bnd (keep y) fun p => bnd popL fun o => bnd (setO i o) fun _ => setO j p) ⟨ρ2.sl ++ [some o], ρ2.pen⟩) := h2
  refine ⟨c, R2, _, [some u], _, S3, (PostS.part S3 rfl h3).imp fun vy ρ4 R4 H4 fp4 e4 _ S4 h4 w rw' => ⟨u, w, rfl, ?_⟩⟩
  obtain ⟨p, ρ5, R5, fp5, e5, S5, rp, h5⟩ := PostS.keep S4 rw' h4
  -- the first one back
  have l5 : ρ5.sl.length = σ.length + 1 := by rw [S5.sl.l1, List.length_append]; rfl
  obtain ⟨q, ρ6, eq, h6⟩ : ∃ q ρ6, popL ρ5 = .ok q ρ6 ∧ PostS (gOf X nm) W c R5 σ.length D (bnd (setO i q) (fun _ => setO j p) ρ6) := by
    unfold bnd at h5
    cases e6 : popL ρ5 with
    | ok q ρ6 => rw [e6] at h5; exact ⟨q, ρ6, rfl, h5⟩
    | err g ns xs ρ' =>
      unfold popL at e6
      split at e6 <;> cases e6
    | bad => rw [e6] at h5; exact h5.elim
  unfold popL at eq
  split at eq
  · rename_i q' hq
    cases eq
    rw [List.getLast?_eq_getElem?, l5] at hq
    have hq' : ρ5.sl[σ.length]? = some (some q) := by simpa using hq
    obtain ⟨v', f, a1, a2, a3⟩ := S5.sl.at_ _ q hq'
    have ev : v' = u := by simpa using a1.symm
    subst ev
    -- both leave: q is nobody's when the last slot goes
    have S6 := S5.reix (σ2 := σ) (sl2 := ρ5.sl.dropLast) (f := fun j => j) (by rw [List.length_dropLast, l5]; rfl) (fun i j _ _ e => e) (fun j o hj => by
      rw [List.getElem?_dropLast] at hj
      split at hj
      · rename_i lt
        refine ⟨hj, ?_⟩
        rw [List.getElem?_append_left (by omega)]
      · cases hj)
    have out : ∀ j, isS (ρ5.sl.dropLast)[j]? = true → j ≠ σ.length := fun j hj e => by
      rw [e, List.getElem?_dropLast, if_neg (by omega)] at hj
      cases hj
    have rq : VR (gOf X nm) c R5 H4 (reF ρ5.sl.dropLast (fun j => j) fp5 σ.length) ⟨none, q⟩ v' := ⟨f, a3, S5.dis.nd _ f a2, fun b hb => ⟨S5.out _ f b a2 hb, reF_out S5 a2 (fun j hj => out j hj) hb⟩⟩
    obtain ⟨fw, p1, p2', p3'⟩ := rp
    -- first i, then j: what j gets is apart from what i got
    obtain ⟨fq, q1, q2, q3⟩ := rq
    have hdis : ∀ b ∈ fw, b ∉ f := fun b hb hm => (p3' b hb).2 _ f a2 hm
    have S7 : Sim (gOf X nm) c R5 H4 (σ.set i (some v')) (Env.set ⟨ρ5.sl.dropLast, ρ5.pen⟩ i (some q)) ((reF ρ5.sl.dropLast (fun j => j) fp5 σ.length).set i f) :=
      { S6 with
        sl := S6.sl.set i a3
        dis := S6.dis.set i (S5.dis.nd _ f a2) fun b hb j g _ hg => reF_out S5 a2 (fun j hj => out j hj) hb j g hg
        out := fun j g b hj hb => by
          rcases getElem?_set_cases hj with ⟨_, e2, _⟩ | ⟨_, hj⟩
          · rw [e2] at hb; exact S5.out _ f b a2 hb
          · exact S6.out j g b hj hb }
    have rp7 : VR (gOf X nm) c R5 H4 ((reF ρ5.sl.dropLast (fun j => j) fp5 σ.length).set i f) ⟨none, p⟩ w := ⟨fw, p1, p2', fun b hb => ⟨(p3' b hb).1, fun j g hg hm => by
      rcases getElem?_set_cases hg with ⟨_, e2, _⟩ | ⟨_, hg⟩
      · rw [e2] at hm; exact hdis b hb hm
      · exact reF_sub hg hm (p3' b hb).2⟩⟩
    obtain ⟨fp8, S8⟩ := S7.setO j rp7
    have h7 : PostS (gOf X nm) W c R5 σ.length D (.ok .nx ((Env.set ⟨ρ5.sl.dropLast, ρ5.pen⟩ i (some q)).set j (some p))) := h6
    exact h7 R5 H4 _ fp8 (by rw [List.length_set, List.length_set]) (Same.refl _) S8
  · cases eq
/-! ### append -/
theorem s_app {i : Nat} {x : Str} (hN : X.N[i]? = some x) (hv : Vis X.env.scope x) (hd : (x == ("__debug__" : Str)) = false) (hcd : (x == ("__classdict__" : Str)) = false) (hs : noStar e = true) (hl : (p3.endLine == p4.line) = true) (ha : pE X nm W Γ a e) :
    pS X nm W Γ (.app i a) (.Expr (.Call (.Attribute (.Name x p2) "append" p3) [e] [] p4) pos) := by
  have pe : PE X (.Call (.Attribute (.Name x p2) "append" p3) [e] [] p4) (tBM X.K "list" rAppend (tVar i) (tCons (tE (gOf X nm) W Γ a) tNil)) :=
    pe_bm PySem.F.plainAttrs_list PySem.F.slot_list_append PySem.F.type_list_append mt_append (pe_var hN hv hd hcd) (pa_cons ha pa_nil (star_of hs)) (ab_of rfl) (by rw [star_of hs]; rfl) hl (star_of hs) rfl
  refine (ps_expr pe).weak fun D σ H hl ⟨c, R, ρ, fps, S, h⟩ => ?_
  have hi : i < σ.length := by rw [hl]; exact (List.getElem?_eq_some_iff.mp hN).1
  have h' : PostS (gOf X nm) W c R σ.length D (bnd (isOwn i) (fun _ => bnd (ev Γ a) fun x => bnd (keep x) fun o => bnd (noT o) fun _ => modOwn i fun os => if os.length < lineN then some (os ++ [o]) else none) ρ) := h
  unfold bnd isOwn at h'
  cases eo : ρ.sl[i]? with
  | none => rw [eo] at h'; exact h'.elim
  | some u =>
    rw [eo] at h'
    cases u with
    | none => exact h'.elim
    | some o =>
      cases o with
      | own os =>
        obtain ⟨v, f, a1, a2, a3⟩ := S.sl.at_ i _ eo
        simp only [RO] at a3
        obtain ⟨l, xs, fq, rfl, hp, rfl, hx⟩ := a3
        refine ⟨.ref l, a1, .inl ⟨rfl, xs, SqL.of hp⟩, ?_⟩
        have h1 : PostS (gOf X nm) W c R σ.length D (bnd (ev Γ a) (fun x => bnd (keep x) fun o => bnd (noT o) fun _ => modOwn i fun os => if os.length < lineN then some (os ++ [o]) else none) ρ) := h'
        refine PostS.at_ S h1 fun vy ρ1 R1 H1 fp1 e1 sx S1 h2 y ry => ?_
        obtain ⟨o, ρ2, R2, fp2, e2, S2, ro, h3⟩ := PostS.keep S1 ry h2
        have h4 : PostS (gOf X nm) W c R2 σ.length D (modOwn i (fun os => if os.length < lineN then some (os ++ [o]) else none) ρ2) := by
          have h3' : PostS (gOf X nm) W c R2 σ.length D (bnd (noT o) (fun _ => modOwn i fun os => if os.length < lineN then some (os ++ [o]) else none) ρ2) := h3
          unfold bnd noT at h3'
          by_cases t : o.hasT = true
          · rw [if_pos t] at h3'; exact h3'.elim
          · rw [if_neg t] at h3'; exact h3'
        unfold modOwn at h4
        cases eo2 : ρ2.sl[i]? with
        | none => rw [eo2] at h4; exact h4.elim
        | some u2 =>
          rw [eo2] at h4
          cases u2 with
          | none => exact h4.elim
          | some o2 =>
            cases o2 with
            | own os2 =>
              dsimp only at h4
              by_cases z : os2.length < lineN
              · rw [if_pos z] at h4
                obtain ⟨D', ys, fp3, e3, nP, hD, hlen, S3⟩ := S2.push eo2 a1 ro
                cases e3
                refine ⟨l, ys, y, rfl, rfl, hD, by rw [hlen, lineN_eq]; exact z, ?_⟩
                have h5 : PostS (gOf X nm) W c R2 σ.length D (.ok .nx (ρ2.set i (some (.own (os2 ++ [o]))))) := h4
                exact h5 R2 _ σ fp3 rfl (Same.refl _) S3
              · rw [if_neg z] at h4; exact h4.elim
            | _ => exact h4.elim
      | _ => exact h'.elim
/-! ### the pen is written -/
theorem Sim.penPut {G : Gx} {c : Cf} {R H : Hp} {σ : L2.St} {ρ : Env} {fps : List (List Addr)} (s : Sim G c R H σ ρ fps) {cl : Addr} {p' : Pen} (hc : SqL G.K R cl (p'.cells.map V.int)) (he : EnvOk G c.P R p') : Sim G c R (upd H c.P (.dK (penKs cl p'))) σ { ρ with pen := p' } fps where
  same := fun a o h => by
    rw [upd_ne fun e => by rw [e, s.pr.p] at h; cases h]
    exact s.same a o h
  base := s.base
  keep := ⟨fun a o n t h => by rw [upd_ne n]; exact s.keep.at_ a o n t h, fun a ps n h => by rw [upd_ne n]; exact s.keep.tb a ps n h⟩
  sl := s.sl.mono (Same.refl R) fun i f a hi ha => upd_ne (s.out i f a hi ha).p
  dis := s.dis
  out := fun i f a hi ha => by
    have m := s.out i f a hi ha
    exact ⟨m.r, by rw [upd_ne m.p]; exact m.h, m.h0, m.p, by rw [upd_ne m.p]; exact m.k⟩
  grow := s.grow
  pen := ⟨cl, upd_same, hc, he⟩
  pr := s.pr
  tab := by
    obtain ⟨c0, hP, _⟩ := s.pen
    exact tabs_upd s.tab hP ⟨fun _ z => (nomatch z), fun _ z => (nomatch z), fun _ z => (nomatch z)⟩
theorem pen_put {cl : Addr} {p : Pen} (f : PF) (k : Int) : putK (penKs cl p) (.inr f.key) (.int k) = penKs cl (penSet p f k) := by
  cases f <;> rfl
theorem pen_cells {p : Pen} (f : PF) (k : Int) : (penSet p f k).cells = p.cells := by cases f <;> rfl
theorem s_pst {i j : Nat} {x : Str} {f : PF} {y : Str} (hu : X.A.units + 1 < cLine) (hN : X.N[i]? = some x) (hv : Vis X.env.scope x) (hd : (x == ("__debug__" : Str)) = false) (hcd : (x == ("__classdict__" : Str)) = false) (hy : y = f.key)
    (hs : swapsWith e (some (.Subscript (.Name x p2) (.Constant (.str y) j p3) p4)) pos.line X.env = pure false) (ha : pE X nm W Γ a e) :
    pS X nm W Γ (.pst i f a) (.Assign [.Subscript (.Name x p2) (.Constant (.str y) j p3) p4] e pos) := by
  subst hy
  refine (ps_dput hu (pe_var hN hv hd hcd) pe_str ha hs).weak fun D σ H hl ⟨c, R, ρ, fps, S, h⟩ => ?_
  have hi : i < σ.length := by rw [hl]; exact (List.getElem?_eq_some_iff.mp hN).1
  refine PostS.at_ S h fun vy ρ1 R1 H1 fp1 e1 sx S1 h1 v rv => ?_
  obtain ⟨k, rfl, h2⟩ := PostS.int rv h1
  have h3 : PostS (gOf X nm) W c R1 σ.length D (bnd (isPen i) (fun p => fun ρ => .ok .nx { ρ with pen := penSet ρ.pen f k }) ρ1) := h2
  unfold bnd isPen at h3
  cases eo : ρ1.sl[i]? with
  | none => rw [eo] at h3; exact h3.elim
  | some u =>
    rw [eo] at h3
    cases u with
    | none => exact h3.elim
    | some o =>
      cases o with
      | frz d =>
        cases d with
        | pen =>
          obtain ⟨w, f', a1, a2, a3⟩ := S1.sl.at_ i _ eo
          simp only [RO, Rep] at a3
          rw [a3.1] at a1
          obtain ⟨cl, hP, hc, he⟩ := S1.pen
          refine ⟨_, a1, c.P, _, rfl, DPut.k (k := .inr f.key) hP (by rw [sizeLine_eq]; show 5 < 16777216; omega), ?_⟩
          rw [pen_put]
          have S2 := S1.penPut (cl := cl) (p' := penSet ρ1.pen f k) (by rw [pen_cells]; exact hc) (fun j d hj => he j d (by cases f <;> exact hj))
          have h4 : PostS (gOf X nm) W c R1 σ.length D (.ok .nx { ρ1 with pen := penSet ρ1.pen f k }) := h3
          exact h4 R1 _ σ fp1 rfl (Same.refl _) S2
        | _ => exact h3.elim
      | _ => exact h3.elim
/-! ### loops -/
theorem s_fr {tg : Tg} {kd : ItK} {ss : List S} {tgE : Expr} {sts : List Stmt} (hp : PassesOwn (model X.prog X.w) X.A X.env X.xe) (hc : X.calm = true) (hi : PI X tgE e (tI (gOf X nm) W Γ true kd as)) (hg : PG X tgE (tG (gOf X nm) tg)) (hs : ∀ x, foldedSetIterable e X.env x = pure x) (hb : pSs X nm W Γ ss sts) :
    pS X nm W Γ (.fr tg kd as ss) (.For tgE e sts [] pos) := (ps_for hp hc hi hg hb hs).weak fun D σ H _ ⟨c, R, ρ, fps, S, h⟩ => by
  refine PostS.at_ S h fun ds ρ1 R1 H1 fp1 e1 _ S1 h1 J hJ => ?_
  refine ⟨fun i m σ' H' => m = ds.length - i ∧ i ≤ ds.length ∧ σ'.length = σ.length ∧ ∃ R ρ fps, Sim (gOf X nm) c R H' σ' ρ fps ∧ Same R1 R ∧ PostS (gOf X nm) W c R σ.length D (forF tg (evSs Γ ss) (ds.drop i) ρ), ⟨ds.length, by simp, Nat.zero_le _, rfl, R1, ρ1, fp1, S1, Same.refl _, h1⟩, ?_⟩
  rintro i m σ' H' ⟨rfl, hi', hσ, R2, ρ2, fp2, S2, e2, h2⟩
  obtain ⟨j1, j2, j3⟩ := hJ σ' ρ2 fp2 R2 H' S2 e2 fun z => (nomatch z)
  by_cases lt : i < ds.length
  · have hd : ds.drop i = ds[i] :: ds.drop (i + 1) := List.drop_eq_getElem_cons lt
    rw [hd] at h2
    refine .inr ⟨j2 i lt, fun σ3 H3 => σ3.length = σ.length ∧ ∃ R ρ fps, Sim (gOf X nm) c R H3 σ3 ρ fps ∧ Same R1 R ∧ PostS (gOf X nm) W c R σ.length D (forF tg (evSs Γ ss) (ds.drop (i + 1)) ρ), fun σ3 H3 hN => ⟨ds.length - (i + 1), by omega, rfl, lt, hN⟩, fun x H3 hy => ?_⟩
    obtain ⟨R3, e3, _, S3, rd⟩ := j3 i ds[i] x H3 (List.getElem?_eq_getElem lt) hy
    have h3 : PostS (gOf X nm) W c R2 σ.length D (bnd (asgT tg ds[i]) (fun _ => bnd (evSs Γ ss) fun f => match f with
      | .nx => forF tg (evSs Γ ss) (ds.drop (i + 1))
      | .cnt => forF tg (evSs Γ ss) (ds.drop (i + 1))
      | .brk => ret .nx
      | .ret d => ret (.ret d)) ρ2) := h2
    unfold bnd at h3
    cases ea : asgT tg ds[i] ρ2 with
    | bad => rw [ea] at h3; exact h3.elim
    | err g ns xs ρ' =>
      exact (asgT_noerr ea).elim
    | ok u ρ4 =>
      rw [ea] at h3
      refine ⟨c, R3, ρ2, [], fp2, ds[i], ρ4, by rw [List.append_nil]; exact S3, rd, ea, fun σ4 fp4 l4 _ S4 => ?_⟩
      rw [List.append_nil] at S4
      refine ⟨c, R3, ρ4, fp4, S4, ?_⟩
      have l4' : σ4.length = σ.length := l4.trans hσ
      rw [l4']
      cases eb : evSs Γ ss ρ4 with
      | ok f ρ5 =>
        dsimp only at h3
        rw [eb] at h3
        cases f with
        | nx => exact fun R5 H5 σ5 fp5 l5 e5 S5 => ⟨l5, R5, ρ5, fp5, S5, (e2.trans e3).trans e5, h3.mono (e3.trans e5)⟩
        | cnt => exact fun R5 H5 σ5 fp5 l5 e5 S5 => ⟨l5, R5, ρ5, fp5, S5, (e2.trans e3).trans e5, h3.mono (e3.trans e5)⟩
        | brk => exact fun R5 H5 σ5 fp5 l5 e5 S5 => h3 R5 H5 σ5 fp5 l5 (e3.trans e5) S5
        | ret d => exact fun R5 H5 ν fp5 x e5 S5 rx => h3 R5 H5 ν fp5 x (e3.trans e5) S5 rx
      | err g ns xs ρ5 =>
        dsimp only at h3
        rw [eb] at h3
        exact fun d fs R5 H5 σ5 ν fp5 l5 e5 => h3 d fs R5 H5 σ5 ν fp5 l5 (e3.trans e5)
      | bad =>
        dsimp only at h3
        rw [eb] at h3; exact h3.elim
  · have ei : i = ds.length := by omega
    subst ei
    rw [List.drop_length] at h2
    have h3 : PostS (gOf X nm) W c R2 σ.length D (.ok .nx ρ2) := h2
    exact .inl ⟨j1, h3 R2 H' σ' fp2 hσ (Same.refl _) S2⟩
theorem s_whl {n : Nat} {ss : List S} {sts : List Stmt} (hp : PassesOwn (model X.prog X.w) X.A X.env X.xe) (hc : pT X nm W Γ cc e) (hb : pSs X nm W Γ ss sts) : pS X nm W Γ (.whl n cc ss) (.While e sts [] pos) := (ps_while hp hc hb).weak fun D σ H _ ⟨c, R, ρ, fps, S, h⟩ => by
  refine ⟨fun m σ' H' => σ'.length = σ.length ∧ ∃ R ρ fps, Sim (gOf X nm) c R H' σ' ρ fps ∧ PostS (gOf X nm) W c R σ.length D (whlF (evT Γ cc) (evSs Γ ss) m ρ), ⟨n, rfl, R, ρ, fps, S, h⟩, ?_⟩
  rintro m σ' H' ⟨hσ, R2, ρ2, fp2, S2, h2⟩
  cases m with
  | zero => exact (show False from h2).elim
  | succ m =>
    have h3 : PostS (gOf X nm) W c R2 σ'.length D (bnd (evT Γ cc) (fun b => if b = true then bnd (evSs Γ ss) fun f => match f with
      | .nx => whlF (evT Γ cc) (evSs Γ ss) m
      | .cnt => whlF (evT Γ cc) (evSs Γ ss) m
      | .brk => ret .nx
      | .ret d => ret (.ret d)
      else ret .nx) ρ2) := by rw [hσ]; exact h2
    refine PostS.at_ S2 h3 fun t ρ3 R3 H3 fp3 e3 _ S3 h4 => ?_
    cases t with
    | false =>
      have h5 : PostS (gOf X nm) W c R3 σ'.length D (.ok .nx ρ3) := h4
      exact h5 R3 H3 σ' fp3 rfl (Same.refl _) S3
    | true =>
      refine ⟨fun σ4 H4 => σ4.length = σ.length ∧ ∃ R ρ fps, Sim (gOf X nm) c R H4 σ4 ρ fps ∧ PostS (gOf X nm) W c R σ.length D (whlF (evT Γ cc) (evSs Γ ss) m ρ), fun σ4 H4 hN => ⟨m, Nat.lt_succ_self m, hN⟩, c, R3, ρ3, fp3, S3, ?_⟩
      have h5 : PostS (gOf X nm) W c R3 σ'.length D (bnd (evSs Γ ss) (fun f => match f with
        | .nx => whlF (evT Γ cc) (evSs Γ ss) m
        | .cnt => whlF (evT Γ cc) (evSs Γ ss) m
        | .brk => ret .nx
        | .ret d => ret (.ret d)) ρ3) := h4
      unfold bnd at h5
      cases eb : evSs Γ ss ρ3 with
      | ok f ρ5 =>
        rw [eb] at h5
        cases f with
        | nx => exact fun R5 H5 σ5 fp5 l5 e5 S5 => ⟨l5.trans hσ, R5, ρ5, fp5, S5, by rw [← hσ]; exact PostS.mono h5 e5⟩
        | cnt => exact fun R5 H5 σ5 fp5 l5 e5 S5 => ⟨l5.trans hσ, R5, ρ5, fp5, S5, by rw [← hσ]; exact PostS.mono h5 e5⟩
        | brk => exact h5
        | ret d => exact h5
      | err g ns xs ρ5 => rw [eb] at h5; exact h5
      | bad => rw [eb] at h5; exact h5.elim
end
end DL

set_option Elab.async false
set_option linter.all false
set_option maxRecDepth 100000
/-! DL19: lambdas without parameters: made, called. -/
namespace DL
open PySem PySem.Spec PyProof.Rows L2
section
variable {X : Cx} {pins : List (Addr × Obj)} {σ : L2.St} {H : Hp} {s : Shared}
/-- an object that was not known is known from now on -/
theorem inv_know {f : Addr} {o : Obj} {u : HO} (I : Inv X pins σ H s) (hf : s.heap.get? f = some o) (nf : H f = none) (n0 : X.s_0.heap.objs.size ≤ f) (nl : f ≠ X.env.locals) (nc : ∀ x c, X.env.cells.lookup x = some c → c ≠ f) (np : ∀ p ∈ X.pn ++ pins, p.1 ≠ f)
    (ok : ObjOk X.prog X.w (upd H f u) s.heap f u) : Inv X pins σ (upd H f u) s where
  ok := I.ok
  os := I.os
  bare := I.bare
  base := by
    have old : ∀ {b : Addr} {ob : Obj}, X.s_0.heap.get? b = some ob → b ≠ f := fun {b ob} e z => Nat.lt_irrefl _ (Nat.lt_of_lt_of_le (Heap.lt_size (z ▸ e)) n0)
    refine ⟨I.base.keep, I.base.slot, fun b ob e n hx => ?_, I.base.there, fun b xs e => ?_, fun b ob w e => ?_, fun b ps e => ?_⟩
    · rw [upd_ne (old e)]; exact I.base.free b ob e n hx
    · have q := I.base.tups b xs e
      rw [upd_ne (ne_of_none q nf)]; exact q
    · have q := I.base.frzs b ob w e
      rw [upd_ne (ne_of_none q nf)]; exact q
    · obtain ⟨more, q⟩ := I.base.tbls b ps e
      exact ⟨more, by rw [upd_ne (ne_of_none q nf)]; exact q⟩
  loc := I.loc
  cell := I.cell
  free := by rw [upd_ne (Ne.symm nl)]; exact I.free
  freeC := fun x c e => by rw [upd_ne (nc x c e)]; exact I.freeC x c e
  pin := fun p hp => by
    obtain ⟨h1, h2, h3⟩ := I.pin p hp
    exact ⟨h1, by rw [upd_ne (np p hp)]; exact h2, h3⟩
  hok := fun b w e => by
    by_cases z : b = f
    · subst z
      rw [upd_same] at e
      cases e
      exact ok
    · rw [upd_ne z] at e
      exact (I.hok b w e).stay (fun _ _ _ q => q) (fun _ q => by rw [upd_ne (ne_of_none q nf)]; exact q) fun _ _ q => by rw [upd_ne (ne_of_none q nf)]; exact q
  len := I.len
/-- what a new lambda leaves -/
structure Lamd (X : Cx) (pins : List (Addr × Obj)) (σ : L2.St) (T : List (Addr × Str)) (L : LamD) (P : Addr) (H : Hp) (n : Nat) (f c' : Addr) (H1 : Hp) (s' : Shared) : Prop where
  inv : Inv X pins σ H1 s'
  new : n ≤ f
  obj : ∃ pm ctv : Value, s'.heap.get? f = some (PySem.W.kla_obj "<lambda>" L.qual L.params L.body L.scope (cloFrom X.env.cells L.scope.names []) pm c' ctv)
  none : H1 f = none
  ne : f ≠ c'
  code : H1 c' = some (LamX.CodeO c' L.qual)
  tabs : LamX.Tabs T H1
  way : H1 = H ∨ ∃ ps more : Array Value, H P = some (.tbl ps) ∧ H c' = Option.none ∧ H1 = upd (upd H P (.tbl (ps ++ more))) c' (LamX.CodeO c' L.qual)
theorem lam_new {T : List (Addr × Str)} {c P : Addr} {L : LamD} {pos : Pos} {Q : Value → Shared → Prop} {E : Value → Shared → Prop} (I : Inv X pins σ H s) (TB : LamX.TabB X.base X.mg c P) (hcode : X.env.code = .ref c) (hq : X.env.qual ++ "<lambda>" = L.qual)
    (hm : (P, L.qual) ∈ T) (hu : ∀ p ∈ T, p.1 = P → p.2 = L.qual) (hT : LamX.Tabs T H) (hdef : defaultsOf L.params X.env = ([], [])) (hfree : ∀ y ∈ L.scope.names, y.2 = .free → ∃ c, X.env.cells.lookup y.1 = some c)
    (h : ∀ (f c' : Addr) (H1 : Hp) (s' : Shared), Lamd X pins σ T L P H s.heap.objs.size f c' H1 s' → Q (.ref f) s') :
    wpAny (model X.prog X.w) X.A (eval (.Lambda L.params L.body L.scope pos) X.env) Q E s := by
  obtain ⟨qual, params, body, scope⟩ := L
  dsimp only at hq hm hu hdef hfree h ⊢
  subst hq
  obtain ⟨tps, atP, ok3, said⟩ := hT _ hm
  dsimp only at atP said
  have objP : s.heap.get? P = some { cls := .none, data := .fields tps } := I.hok P _ atP
  have bltP : s.heap.BuiltinsAt X.mg P := TB.bm.keeps I.bk
  apply PySem.W.kla_eval hdef
  cases found : codeAmong pos tps.toList with
  | some cv =>
    obtain ⟨c', rfl, known⟩ := said pos cv found
    refine PySem.W.kla_makeFunctionHit (mg := X.mg) (c := c) (P := P) (ps := tps) (closure_ok hfree) I.ok.glob (I.mod.glob.keeps I.bk) hcode (TB.code.keeps I.bk) objP ok3 found bltP fun ctv g tk all more => ?_
    have c'lt := I.hok.lt known
    refine h g.objs.size c' H _ ⟨I.kept (t' := tk) fun b o e => Heap.get?_push_of_some _ (all b o e), more, ⟨_, ctv, Heap.get?_push_size _ rfl⟩, I.hok.fresh more, fun z => ?_, known, hT, .inl rfl⟩
    rw [← z] at c'lt
    exact Nat.lt_irrefl _ (Nat.lt_of_lt_of_le c'lt more)
  | none =>
    refine PySem.W.kla_makeFunction (mg := X.mg) (c := c) (P := P) (ps := tps) (closure_ok hfree) I.ok.glob (I.mod.glob.keeps I.bk) hcode (TB.code.keeps I.bk) objP ok3 found TB.gP bltP fun c' ctv g tk but ge lt rec_ newT => ?_
    obtain ⟨c0, oc, fv, qt, ec, objC, dataC, nameC⟩ := rec_
    cases ec
    have noC : H c' = none := I.hok.fresh ge
    have big : s.heap.objs.size ≤ g.objs.size := Nat.le_of_lt (Nat.lt_of_le_of_lt ge lt)
    have J := LamX.inv_table (t' := tk) (q := X.env.qual ++ "<lambda>") (more := #[rawInt pos.line, rawInt pos.col, .ref c']) (h' := g.push (PySem.W.kla_obj "<lambda>" (X.env.qual ++ "<lambda>") params body scope (cloFrom X.env.cells scope.names []) ((X.mg "__name__").getD .none) c' ctv)) I atP
      (fun b o ne e => Heap.get?_push_of_some _ (but b o ne e)) (Heap.get?_push_of_some _ newT) ge ⟨oc, fv, qt, Heap.get?_push_of_some _ objC, dataC, nameC⟩
    have stays : ∀ {b : Addr} {z : Str}, H b = some (LamX.CodeO b z) → upd (upd H P (.tbl (tps ++ #[rawInt pos.line, rawInt pos.col, .ref c']))) c' (LamX.CodeO c' (X.env.qual ++ "<lambda>")) b = some (LamX.CodeO b z) := fun {b z} e => by
      rw [upd_ne (ne_of_none e noC), upd_ne fun y => by rw [y, atP] at e; cases e]
      exact e
    have eqL : (tps ++ #[rawInt pos.line, rawInt pos.col, .ref c']).toList = tps.toList ++ [rawInt pos.line, rawInt pos.col, .ref c'] := by simp
    refine h g.objs.size c' _ _ ⟨J, big, ⟨_, ctv, Heap.get?_push_size _ rfl⟩, ?_, (Nat.ne_of_lt lt).symm, upd_same, fun p hp => ?_, .inr ⟨tps, _, atP, noC, rfl⟩⟩
    · rw [upd_ne (Nat.ne_of_lt lt).symm, upd_ne fun y => by
        have := Heap.lt_size objP
        rw [← y] at this
        exact Nat.lt_irrefl _ (Nat.lt_of_lt_of_le this big)]
      exact I.hok.fresh big
    · by_cases at_ : p.1 = P
      · rw [hu p hp at_, at_]
        refine ⟨tps ++ #[rawInt pos.line, rawInt pos.col, .ref c'], by rw [upd_ne (ne_of_none atP noC), upd_same], ?_, fun p' cv e => ?_⟩
        · rw [eqL]; exact PySem.TriplesOk_snoc _ _ _ _ ok3
        · rw [eqL] at e
          rcases LamX.among_app tps.toList ok3 e with e | e
          · obtain ⟨b, e1, e2⟩ := said p' cv e
            exact ⟨b, e1, stays e2⟩
          · exact ⟨c', e, upd_same⟩
      · obtain ⟨ps', a1, a2, a3⟩ := hT p hp
        refine ⟨ps', by rw [upd_ne (ne_of_none a1 noC), upd_ne at_]; exact a1, a2, fun p' cv e => ?_⟩
        obtain ⟨b, e1, e2⟩ := a3 p' cv e
        exact ⟨b, e1, stays e2⟩
end
/-- what is captured is frozen -/
theorem frzAll_noerr : ∀ {is : List Nat} {ρ ρ' : Env} {g : Nat} {ns : List Str} {xs : List D}, frzAll is ρ = .err g ns xs ρ' → False
  | [], _, _, _, _, _, h => by cases h
  | i :: is, ρ, _, _, _, _, h => by
    unfold frzAll at h
    split at h
    · exact frzAll_noerr h
    · split at h
      · exact frzAll_noerr h
      · cases h
    · exact frzAll_noerr h
theorem frzAll_ok {G : Gx} {c : Cf} {H : Hp} {σ : L2.St} : ∀ {is : List Nat} {R : Hp} {ρ ρ' : Env} {fps : List (List Addr)}, Sim G c R H σ ρ fps → frzAll is ρ = .ok () ρ' → ∃ R' fps', Same R R' ∧ Sim G c R' H σ ρ' fps'
  | [], R, ρ, ρ', fps, s, h => by cases h; exact ⟨R, fps, Same.refl R, s⟩
  | i :: is, R, ρ, ρ', fps, s, h => by
    unfold frzAll at h
    split at h
    · exact frzAll_ok s h
    · split at h
      · rename_i ρ2 hf
        obtain ⟨f, _, s2, e⟩ := s.freeze hf
        obtain ⟨R', fps', e', s'⟩ := frzAll_ok s2 h
        exact ⟨R', fps', e.trans e', s'⟩
      · cases h
    · exact frzAll_ok s h
section
variable {X : Cx} {nm : Nm} {W : WX} {Γ : Gam} {pos p2 : Pos}
theorem x_lam {k : Nat} {is : List Nat} {L : LamD} {c P : Addr} (B : GM (gOf X nm)) (hk : nm.lam k = some L) (hcs : (c, P) ∈ nm.cs) (hcode : X.env.code = .ref c) (hq : X.env.qual ++ "<lambda>" = L.qual) (hm : (P, L.qual) ∈ nm.T) (hu : ∀ p ∈ nm.T, p.1 = P → p.2 = L.qual)
    (hce : nm.cells = X.env.cells) (hdef : defaultsOf L.params X.env = ([], [])) (hfree : ∀ y ∈ L.scope.names, y.2 = .free → ∃ c, X.env.cells.lookup y.1 = some c) : pE X nm W Γ (.lam k is) (.Lambda L.params L.body L.scope pos) := by
  refine ⟨fun pins s σ H Q I h => ?_⟩
  obtain ⟨c0, R, ρ, τ, fps, S, h⟩ := h
  have h' : Post (gOf X nm) W c0 σ τ R H (fun v ρ' R' H' fps' => ∀ x, VR (gOf X nm) c0 R' H' fps' v x → Q x H') (bnd (frzAll is) (fun _ => frz (.clo k)) ρ) := h
  unfold bnd at h'
  cases e : frzAll is ρ with
  | bad => rw [e] at h'; exact h'.elim
  | err g ns xs ρ' => exact (frzAll_noerr e).elim
  | ok u ρ1 =>
    rw [e] at h'
    obtain ⟨R1, fps1, e1, S1⟩ := frzAll_ok S e
    refine lam_new I (B.tab (c, P) hcs) hcode hq hm hu S1.tab hdef hfree fun f c' H1 s' N => ?_
    obtain ⟨pm, ctv, hobj⟩ := N.obj
    have sz := N.new
    have n0 : X.s_0.heap.objs.size ≤ f := Nat.le_trans I.sz sz
    have notOld : ∀ {b : Addr} {o : Obj}, s.heap.get? b = some o → b ≠ f := fun {b o} q z => Nat.lt_irrefl _ (Nat.lt_of_lt_of_le (Heap.lt_size (z ▸ q)) sz)
    have J : Inv X pins σ (upd H1 f (LamO L nm.cells f c')) s' := by
      refine inv_know N.inv hobj N.none n0 (Nat.ne_of_gt (Nat.lt_of_lt_of_le I.lt sz)) (fun x c q => ?_) (fun p hp => ?_) ⟨⟨pm, ctv, by rw [hce]; exact hobj⟩, ⟨_, hobj⟩, fun h1 h2 ⟨pm, ctv, q⟩ st => ⟨pm, ctv, st _ q⟩⟩
      · obtain ⟨v, o, ho, _⟩ := I.cell x c q
        exact notOld ho
      · exact notOld (I.pin p hp).1
    have HfN : H f = none := I.hok.fresh sz
    have fP : f ≠ c0.P := S1.notP HfN
    have RfN : R1 f = none := S1.same.free HfN
    have cP : c' ≠ c0.P := by
      rcases N.way with z | ⟨ps, more, _, a2, _⟩
      · intro y
        have q := N.code
        rw [z, y] at q
        obtain ⟨cl, hP, _⟩ := S1.pen
        rw [hP] at q; cases q
      · exact S1.notP a2
    -- what was known stays, but for the table
    have toH1 : ∀ a o, (∀ ps, o ≠ .tbl ps) → H a = some o → H1 a = some o := fun a o t q => by
      rcases N.way with z | ⟨ps, more, a1, a2, a3⟩
      · rw [z]; exact q
      · rw [a3, upd_ne (ne_of_none q a2), upd_ne fun y => by
          rw [y, a1] at q
          exact t ps (Option.some.inj q).symm]
        exact q
    have toH2 : ∀ a o, (∀ ps, o ≠ .tbl ps) → H a = some o → upd H1 f (LamO L nm.cells f c') a = some o := fun a o t q => by
      rw [upd_ne (ne_of_none q HfN)]; exact toH1 a o t q
    have RcC : R1 c' = none ∨ R1 c' = some (LamX.CodeO c' L.qual) := by
      cases q : R1 c' with
      | none => exact .inl rfl
      | some o =>
        have q2 := S1.same c' o q
        rcases N.way with z | ⟨ps, more, a1, a2, a3⟩
        · have q3 := N.code
          rw [z, q2] at q3
          exact .inr (by rw [Option.some.inj q3])
        · rw [a2] at q2; cases q2
    have e2 : Same R1 (upd (upd R1 c' (LamX.CodeO c' L.qual)) f (LamO L nm.cells f c')) := fun a o q => by
      rw [upd_ne (ne_of_none q RfN)]
      by_cases y : a = c'
      · subst y
        rw [upd_same]
        rcases RcC with z | z
        · rw [q] at z; cases z
        · rw [← z, q]
      · rw [upd_ne y]; exact q
    have sx : SX c0.P H (upd H1 f (LamO L nm.cells f c')) := ⟨fun a o _ t q => toH2 a o t q, fun a ps _ q => by
      rw [upd_ne (ne_of_none q HfN)]
      rcases N.way with z | ⟨ps', more, a1, a2, a3⟩
      · rw [z]; exact ⟨ps, q⟩
      · rw [a3, upd_ne (ne_of_none q a2)]
        by_cases y : a = P
        · rw [y, upd_same]; exact ⟨_, rfl⟩
        · rw [upd_ne y]; exact ⟨ps, q⟩⟩
    have tabs2 : LamX.Tabs nm.T (upd H1 f (LamO L nm.cells f c')) := N.tabs.ext fun b o q => by rw [upd_ne (ne_of_none q N.none)]; exact q
    have S2 := S1.step (p := ρ1.pen) (H' := upd H1 f (LamO L nm.cells f c')) (R' := upd (upd R1 c' (LamX.CodeO c' L.qual)) f (LamO L nm.cells f c')) e2 (fun a o q => by
      by_cases y : a = f
      · rw [y, upd_same] at q ⊢; exact q
      · rw [upd_ne y] at q ⊢
        by_cases y2 : a = c'
        · rw [y2, upd_same] at q
          rw [y2, N.code]; exact q
        · rw [upd_ne y2] at q
          exact toH1 a o (fun ps z => S1.pr.t a ps (z ▸ q)) (S1.same a o q)) sx (fun i g a hg ha => by
      have m := S1.out i g a hg ha
      cases hu : H a with
      | none => exact absurd hu m.h
      | some w =>
        have kn := m.k w hu
        refine ⟨toH2 a w kn.1 hu, ?_⟩
        have af : a ≠ f := ne_of_none hu HfN
        rw [upd_ne af]
        by_cases y : a = c'
        · exfalso
          have q := toH1 a w kn.1 hu
          rw [y, N.code] at q
          exact kn.2.1 _ (Option.some.inj q).symm
        · rw [upd_ne y]; exact m.r) (fun a q => by
      by_cases y : a = f
      · exact .inr (.inl (y ▸ HfN))
      · rw [upd_ne y] at q
        by_cases y2 : a = c'
        · rcases N.way with z | ⟨ps', more, a1, a2, a3⟩
          · have q3 := N.code
            rw [z] at q3
            exact .inr (.inr (.inl ⟨_, y2 ▸ q3⟩))
          · exact .inr (.inl (y2 ▸ a2))
        · rw [upd_ne y2] at q
          exact .inl q) ⟨by rw [upd_ne (Ne.symm fP), upd_ne (Ne.symm cP)]; exact S1.pr.p, fun a ps q => by
      by_cases y : a = f
      · rw [y, upd_same] at q; exact LamO.ne_tbl ps (Option.some.inj q)
      · rw [upd_ne y] at q
        by_cases y2 : a = c'
        · rw [y2, upd_same] at q; exact LamX.codeO_ne ps (Option.some.inj q)
        · rw [upd_ne y2] at q; exact S1.pr.t a ps q⟩ (by
      obtain ⟨cl, hP, p2, p3⟩ := S1.pen
      exact ⟨cl, toH2 _ _ (fun _ z => by cases z) hP, e2.seq p2, p3.mono e2⟩) tabs2
    refine ⟨.ref f, _, J, rfl, ?_⟩
    refine h' _ _ _ (e1.trans e2) sx S2 (.ref f) (VR.frz none S2 ?_)
    simp only [Rep]
    exact ⟨f, c', L, rfl, fP, hk, upd_same, by rw [upd_ne (Ne.symm N.ne), upd_same], cP⟩
end
end DL

set_option Elab.async false
set_option linter.all false
set_option maxRecDepth 100000
/-! DL20: a def's worth by its body; a lambda's; calls of lambdas. -/
namespace DL
open PySem PySem.Spec PyProof.Rows L2
/-- a def: np parameters, n slots -/
def defFn (Γ : Gam) (np n : Nat) (body : List S) : Fn := fun ds p => if ds.length = np then runDef Γ n body ds p else .bad
/-- a lambda without parameters: n captured slots -/
def lamFn (Γ : Gam) (n : Nat) (a : E) : Fn := fun ds p => match ds with
  | [] => (match bnd (ev Γ a) esc ⟨(List.range n).map fun j => ((p.env[j]?).join).map O.frz, p⟩ with
    | .ok d ρ => .ok d ρ.pen
    | .err g ns xs ρ => .err g ns xs ρ.pen
    | .bad => .bad)
  | _ => .bad
section
variable {G : Gx} {P : Addr} {R H : Hp} {p : Pen} {vs : List V} {ds : List D}
/-- the state at a def's entry -/
theorem Sim.entry {N : List Str} (rx : RepL G P R ds vs) (e : Same R H) (pr : Pr R P) (pen : PenOk G P H R p) (tab : LamX.Tabs G.nm.T H) : Sim G ⟨P, R, H⟩ R H (L2.start N vs) ⟨ds.map (fun d => some (.frz d)) ++ List.replicate (N.length - ds.length) none, p⟩ (List.replicate (L2.start N vs).length []) where
  same := e
  base := Same.refl R
  keep := SX.refl _ _
  sl := by
    have l := rx.length
    refine ⟨by unfold L2.start; simp [l], by simp, fun i o hi => ?_⟩
    have hlt : i < ds.length := by
      by_cases q : i < ds.length
      · exact q
      · rw [List.getElem?_append_right (by simpa using q), List.getElem?_replicate] at hi
        split at hi <;> cases hi
    rw [List.getElem?_append_left (by simpa using hlt), List.getElem?_map] at hi
    obtain ⟨d, hd, e2⟩ := Option.map_eq_some_iff.mp hi
    cases e2
    obtain ⟨v, hv, rv⟩ := rx.get hd
    refine ⟨v, [], ?_, ?_, ?_⟩
    · unfold L2.start
      rw [List.getElem?_append_left (by simpa [← l] using hlt), List.getElem?_map, hv]; rfl
    · rw [List.getElem?_replicate, if_pos]
      unfold L2.start; simp; omega
    · simp only [RO]; exact ⟨rv, trivial⟩
  dis := ⟨fun i f h => by rw [List.getElem?_replicate] at h; split at h <;> cases h; exact List.nodup_nil, fun i j f g a _ h _ ha => by
    rw [List.getElem?_replicate] at h; split at h <;> cases h; cases ha⟩
  out := fun i f a h ha => by rw [List.getElem?_replicate] at h; split at h <;> cases h; cases ha
  grow := fun a h => .inl h
  pen := pen
  pr := pr
  tab := tab
/-- the state at a lambda's entry -/
def lamSt (G : Gx) : L2.St := (List.range G.nm.cN.length).map fun j => (G.nm.cv[j]?).join
theorem Sim.entryL (e : Same R H) (pr : Pr R P) (pen : PenOk G P H R p) (tab : LamX.Tabs G.nm.T H) : Sim G ⟨P, R, H⟩ R H (lamSt G) ⟨(List.range G.nm.cN.length).map fun j => ((p.env[j]?).join).map O.frz, p⟩ (List.replicate (lamSt G).length []) where
  same := e
  base := Same.refl R
  keep := SX.refl _ _
  sl := by
    refine ⟨by unfold lamSt; simp, by simp, fun i o hi => ?_⟩
    rw [List.getElem?_map] at hi
    obtain ⟨j, hj, e2⟩ := Option.map_eq_some_iff.mp hi
    obtain ⟨lt, hj'⟩ := List.getElem?_eq_some_iff.mp hj
    have ej : j = i := by rw [← hj']; simp
    subst ej
    obtain ⟨d, hd, e3⟩ := Option.map_eq_some_iff.mp e2
    subst e3
    have hd' : p.env[j]? = some (some d) := by
      cases q : p.env[j]? with
      | none => rw [q] at hd; cases hd
      | some u => rw [q] at hd; rw [show u = some d from hd]
    obtain ⟨_, _, _, en⟩ := pen
    obtain ⟨v, hv, rv⟩ := en j d hd'
    refine ⟨v, [], ?_, ?_, ?_⟩
    · unfold lamSt
      rw [List.getElem?_map, hj]
      show some ((G.nm.cv[j]?).join) = some (some v)
      rw [hv]; rfl
    · rw [List.getElem?_replicate, if_pos]
      unfold lamSt; simpa using lt
    · simp only [RO]; exact ⟨rv, trivial⟩
  dis := ⟨fun i f h => by rw [List.getElem?_replicate] at h; split at h <;> cases h; exact List.nodup_nil, fun i j f g a _ h _ ha => by
    rw [List.getElem?_replicate] at h; split at h <;> cases h; cases ha⟩
  out := fun i f a h ha => by rw [List.getElem?_replicate] at h; split at h <;> cases h; cases ha
  grow := fun a h => .inl h
  pen := pen
  pr := pr
  tab := tab
end
section
variable {P : Program} {w : World} {K : PySem.W.Frag} {mg : Str → Option Value} {base : Heap} {nm : Nm} {Γ : Gam} {k : Nat}
/-- a def keeps what its body computes -/
theorem fnG_of {N ps : List Str} {x qual : Str} {params : Arguments} {body : List Stmt} {scope : Scope} {dvs : List V} {kws : List (Str × V)} {f : Addr} {fd : FuncData} {ss : List S} (F : FunD K x qual params body scope dvs kws f fd) (S : FnScope N ps scope)
    (hbody : ∀ (cdv : Value) (A : Around) (outer : List PySem.Env) (s : Shared) (H : Hp) (E : XK), fd.code = cdv → (A.deeper (envOfC qual scope s.heap.objs.size f cdv)).guards = some [] → Room k (A.deeper (envOfC qual scope s.heap.objs.size f cdv)) →
      pSs (cxOf (L2.CX P w) P w K mg base N qual scope f cdv A outer s H E) nm (fun cls d _ H => E cls d H) Γ ss body) :
    FnG ⟨P, w, K, mg, base, nm⟩ (k + 1) f fd ps (defFn Γ ps.length N.length ss) := by
  obtain ⟨oc, od, dV, kV, doc, pm, an, cdv, ct, osl, rfl, lk, hcd, _, _⟩ := F.ex
  refine ⟨fun A outer s H args us vs Q E hg hr e0 hb r hl sp => ?_⟩
  refine LamX.run_ofS (N := N) (ps := ps) (us := us) (vs := vs) lk hcd S hr e0 hb r hl fun hr' => ⟨_, hbody cdv A outer s H E rfl hg hr', ?_⟩
  obtain ⟨Pp, R, ds, p, rx, e, pr, pen, tab, k⟩ := sp
  have l := rx.length
  refine ⟨⟨Pp, R, H⟩, R, _, _, Sim.entry rx e pr pen tab, ?_⟩
  have k' : (match runDef Γ N.length ss ds p with
    | .ok d p' => ∀ R' H' x, Same R R' → Same R' H' → SX Pp H H' → (∀ a, R' a ≠ none → R a ≠ none ∨ New H a) → Pr R' Pp → PenOk ⟨P, w, K, mg, base, nm⟩ Pp H' R' p' → LamX.Tabs nm.T H' → Rep ⟨P, w, K, mg, base, nm⟩ Pp R' d x → Q x H'
    | .err g ns xs p' => ∀ d fs R' H', Same R R' → Same R' H' → SX Pp H H' → (∀ a, R' a ≠ none → R a ≠ none ∨ New H a) → Pr R' Pp → PenOk ⟨P, w, K, mg, base, nm⟩ Pp H' R' p' → LamX.Tabs nm.T H' → R' d = some (.xd fs) → fs.map (·.1) = ns → RepL ⟨P, w, K, mg, base, nm⟩ Pp R' xs (fs.map (·.2)) → E (.ref (He.ga K (nm g))) (some d) H'
    | .bad => False) := by
    unfold defFn at k
    rw [if_pos (l.trans hl)] at k
    exact k
  unfold runDef at k'
  cases ee : evSs Γ ss ⟨ds.map (fun d => some (.frz d)) ++ List.replicate (N.length - ds.length) none, p⟩ with
  | ok fl ρ =>
    rw [ee] at k'
    cases fl with
    | nx => exact fun R' H' σ' fps' _ e1 S' => k' R' H' .non e1 S'.same S'.keep S'.grow S'.pr S'.pen S'.tab (by simp only [Rep])
    | ret d => exact fun R' H' ν fps' x e1 S' rd => k' R' H' x e1 S'.same S'.keep S'.grow S'.pr S'.pen S'.tab rd
    | brk => exact k'.elim
    | cnt => exact k'.elim
  | err g ns xs ρ =>
    rw [ee] at k'
    exact fun d fs R' H' σ' ν fps' _ e1 S' h1 h2 h3 => k' d fs R' H' e1 S'.same S'.keep S'.grow S'.pr S'.pen S'.tab h1 h2 h3
  | bad => rw [ee] at k'; exact k'.elim
/-! ### a lambda's body -/
/-- the lambda's names: captured ones and globals -/
structure LamOk (nm : Nm) (L : LamD) : Prop where
  kind : L.scope.kind = .function
  co : L.scope.isCoroutine = false
  gen : L.scope.isGenerator = false
  own : ∀ y ∈ L.scope.names, y.2 ≠ .local ∧ y.2 ≠ .cell
  free : ∀ y ∈ L.scope.names, y.2 = .free → ∃ c, nm.cells.lookup y.1 = some c
  bind : ∀ (q : Str) (cl : List (Str × Addr)) (pm cv ctv : Value), bindArgs (PySem.W.kla_fn "<lambda>" q L.params L.body L.scope cl pm cv ctv) ⟨[], []⟩ = pure []
abbrev lEnv (nm : Nm) (L : LamD) (a f c' : Addr) : PySem.Env := PySem.W.envX L.qual L.scope a f (.ref c') (cloFrom nm.cells L.scope.names [])
/-- the context of a lambda's body -/
def lCx (G : Gx) (A : Around) (outer : List PySem.Env) (s : Shared) (H : Hp) (E : XK) (L : LamD) (f c' : Addr) : Cx where
  prog := G.prog
  w := G.w
  K := G.K
  mg := G.mg
  base := G.base
  A := A.deeper (lEnv G.nm L s.heap.objs.size f c')
  N := G.nm.cN
  s_0 := s
  H_0 := H
  env := lEnv G.nm L s.heap.objs.size f c'
  outer := outer
  stack := lEnv G.nm L s.heap.objs.size f c' :: outer
  ex := []
  fn := fun _ => false
  calm := true
  pn := []
  xe := fun e s' => wpAny (model G.prog G.w) (A.deeper (lEnv G.nm L s.heap.objs.size f c')) (leaving (lEnv G.nm L s.heap.objs.size f c') e) (fun _ s'' => L2.CX G.prog G.w outer H s E e s'') (fun e' s'' => L2.CX G.prog G.w outer H s E e' s'') s'
theorem lCx_inv {G : Gx} {A : Around} {outer : List PySem.Env} {s : Shared} {H : Hp} {E : XK} {L : LamD} {f c' : Addr} {g : Heap} {tk : Nat} (B : GB G) (LO : LamOk G.nm L) (e0 : Env0 G.prog G.w G.K G.mg G.base A outer s H) (hd : A.handled = none)
    (hns : g.Ns s.heap.objs.size fun y => ([] : List (Str × Value)).reverse.lookup y) (kp : ∀ b o, s.heap.get? b = some o → g.get? b = some o) : Inv (lCx G A outer s H E L f c') [] (lamSt G) H { s with heap := g, toks := tk } := by
  have sub : ∀ {y c}, (cloFrom G.nm.cells L.scope.names []).lookup y = some c → G.nm.cells.lookup y = some c := fun {y c} q => by
    rcases cloFrom_mem (PySem.mem_of_lookup q) with m | ⟨m, z⟩
    · cases m
    · obtain ⟨c1, h1⟩ := LO.free _ m rfl
      dsimp only at h1
      rw [h1] at z
      rw [h1, z]; rfl
  have has : ∀ {y}, L.scope.names.lookup y = some .free → ∃ c, (cloFrom G.nm.cells L.scope.names []).lookup y = some c := fun {y} q => mem_lookup (cloFrom_has (cells := G.nm.cells) (acc := []) (PySem.mem_of_lookup q))
  have inS : ∀ {c : Addr} {v : Option Value}, G.base.IsCell c v → s.heap.IsCell c v ∧ H c = none := fun {c v} ⟨o, h1, h2⟩ => ⟨⟨o, (e0.bs c o h1).1, h2⟩, (e0.bs c o h1).2⟩
  have inG : ∀ {c : Addr} {v : Option Value}, s.heap.IsCell c v → g.IsCell c v := fun {c v} ⟨o, h1, h2⟩ => ⟨o, kp c o h1, h2⟩
  have no : ∀ b : Addr, b ∈ ([] : List Addr) → False := fun b z => nomatch z
  refine {
    ok := { mod := e0.mod, kind := LO.kind, glob := rfl, blt := rfl, above := Nat.le_refl _, inj := fun x y c h1 h2 => B.inj x y c (sub h1) (sub h2), has := fun y hy => ?_, cab := fun y c z => Bool.noConfusion (show false = true from z), hd := fun _ => hd, frames := Around.frames_deeper e0.frames, stk := .inr ⟨rfl, rfl⟩,
            exf := fun b z => (no b z).elim, bs := e0.bs, bsz := e0.bsz, noex := fun b _ _ z => no b z, exfs := fun b z => (no b z).elim, funs := e0.funs, frf := e0.frf }
    os := rfl, bare := e0.bare, base := Un.kept kp, loc := ⟨_, hns, fun i y v h1 h2 h3 => ?_⟩, cell := fun y c q => ?_, free := e0.hok.fresh (Nat.le_refl _), freeC := fun y c q => ?_, pin := fun q hq => absurd (show q ∈ ([] : List (Addr × Obj)) ++ [] from hq) (by simp), hok := e0.hok.kept kp, len := by unfold lamSt lCx; simp }
  · have hy' : L.scope.names.lookup y = some .cell ∨ L.scope.names.lookup y = some .free := hy
    rcases hy' with q | q
    · exact absurd rfl (LO.own _ (PySem.mem_of_lookup q)).2
    · exact has q
  · have h3' : Vis L.scope y := h3
    rcases h3' with q | q | q
    · exact absurd rfl (LO.own _ (PySem.mem_of_lookup q)).1
    · exact absurd rfl (LO.own _ (PySem.mem_of_lookup q)).2
    · have h1' : G.nm.cN[i]? = some y := h1
      unfold lamSt at h2
      rw [List.getElem?_map] at h2
      obtain ⟨j, hj, e2⟩ := Option.map_eq_some_iff.mp h2
      obtain ⟨lt, hj'⟩ := List.getElem?_eq_some_iff.mp hj
      have ej : j = i := by rw [← hj']; simp
      subst ej
      have e3 : G.nm.cv[j]? = some (some v) := by
        cases z : G.nm.cv[j]? with
        | none => rw [z] at e2; cases e2
        | some u => rw [z] at e2; rw [show u = some v from e2]
      obtain ⟨x, c, u, a1, a2, a3, a4⟩ := B.cell j v e3
      rw [h1'] at a1
      cases a1
      obtain ⟨c2, z⟩ := has q
      have z2 := sub z
      rw [a2] at z2
      cases z2
      exact ⟨u, a3, .inr ⟨.inr q, c, z, inG (inS a4).1⟩⟩
  · obtain ⟨v, z⟩ := B.all y c (sub q)
    exact ⟨v, inG (inS z).1⟩
  · obtain ⟨v, z⟩ := B.all y c (sub q)
    exact (inS z).2
/-- a lambda's worth -/
structure LamG (G : Gx) (L : Nat) (l : LamD) (fn : Fn) : Prop where
  run : ∀ (A : Around) (outer : List PySem.Env) (s : Shared) (H : Hp) (f c' : Addr) (Q : VK) (E : XK), A.guards = some [] → Room L A → Env0 G.prog G.w G.K G.mg G.base A outer s H → H f = some (LamO l G.nm.cells f c') → H c' = some (LamX.CodeO c' l.qual) → spF G fn [] H Q E →
    codeAny (model G.prog G.w) A (.call (.ref f) ⟨[], []⟩) (CR (L2.CX G.prog G.w) outer G.prog G.w H s Q E) s
theorem lamG_of {G : Gx} {a : E} {l : LamD} (B : GB G) (LO : LamOk G.nm l)
    (hbody : ∀ (A : Around) (outer : List PySem.Env) (s : Shared) (H : Hp) (E : XK) (f c' : Addr), (A.deeper (lEnv G.nm l s.heap.objs.size f c')).guards = some [] → Room k (A.deeper (lEnv G.nm l s.heap.objs.size f c')) →
      pE (lCx G A outer s H E l f c') G.nm (fun cls d _ H => E cls d H) Γ a l.body) : LamG G (k + 1) l (lamFn Γ G.nm.cN.length a) := by
  refine ⟨fun A outer s H f c' Q E hg hr e0 hf hc sp => ?_⟩
  have okf : ObjOk G.prog G.w H s.heap f (LamO l G.nm.cells f c') := e0.hok f _ hf
  obtain ⟨⟨pm, ctv, objf⟩, _, _⟩ := okf
  have okc : ObjOk G.prog G.w H s.heap c' (LamX.CodeO c' l.qual) := e0.hok c' _ hc
  obtain ⟨⟨oc, fv, qt, objc, dc, nc⟩, _, _⟩ := okc
  have lim : s.heap.NoLimit := e0.mod.nolimit.keeps fun b o e => (e0.bs b o e).1
  refine PySem.W.kla_callFunE hr.depth objf rfl LO.co LO.gen rfl ⟨c', oc, fv, qt, rfl, objc, dc, nc⟩ ?_
  rw [LO.bind]
  refine wpAny_pure (wpAny_newFunctionEnv (fun y hy => (LO.own y hy).2) (fun y hy => nomatch hy) (fun g hns hsb => ⟨lim.fresh _ hsb, ?_⟩) LO.kind)
  have kp : ∀ b o, s.heap.get? b = some o → g.get? b = some o := fun b o e => hsb.extBut b o (Nat.ne_of_lt (Heap.lt_size e)) (Heap.get?_push_of_some _ e)
  have J := lCx_inv (tk := s.toks + ([] : List (Str × Value)).length) (f := f) (c' := c') (E := E) (L := l) B LO e0 hr.hd hns kp
  show codeAny _ _ (.expr l.body (lEnv G.nm l s.heap.objs.size f c')) _ _
  obtain ⟨Pp, R, ds, p, rx, e, pr, pen, tab, post⟩ := sp
  obtain rfl : ds = [] := List.eq_nil_of_length_eq_zero rx.length
  unfold lamFn at post
  dsimp only at post
  have ht : tE (gOf (lCx G A outer s H E l f c') G.nm) (fun cls d _ H => E cls d H) Γ a (lamSt G) H Q := by
    refine ⟨⟨Pp, R, H⟩, R, ⟨(List.range G.nm.cN.length).map fun j => ((p.env[j]?).join).map O.frz, p⟩, [], List.replicate (lamSt G).length [], by rw [List.append_nil]; exact Sim.entryL e pr pen tab, ?_⟩
    unfold bnd at post
    cases e1 : ev Γ a ⟨(List.range G.nm.cN.length).map fun j => ((p.env[j]?).join).map O.frz, p⟩ with
    | bad => rw [e1] at post; exact post.elim
    | err gg ns xs ρ =>
      rw [e1] at post
      exact fun d fs R' H' fps' e2 sx S' h1 h2 h3 => post d fs R' H' e2 S'.same S'.keep S'.grow S'.pr S'.pen S'.tab h1 h2 h3
    | ok v ρ1 =>
      rw [e1] at post
      intro R' H' fps' e2 sx S' x rv
      dsimp only at post
      cases e3 : esc v ρ1 with
      | ok d ρ2 =>
        rw [e3] at post
        obtain ⟨R2, fp2, e4, S2, rd⟩ := esc_ok S' rv e3
        exact post R2 H' x (e2.trans e4) S2.same S2.keep S2.grow S2.pr S2.pen S2.tab rd
      | err gg ns xs ρ' => exact (esc_noerr e3).elim
      | bad => rw [e3] at post; exact post.elim
  refine PySem.W.kla_codeExpr (wpAny_mono ((hbody A outer s H E f c' hg (hr.deeper _)).run [] _ _ H Q J ht) (fun v s' hq => ?_) fun _ _ z => z)
  obtain ⟨w', H', J', rv, q⟩ := hq
  exact ⟨w', H', J'.os, J'.bare, J'.base, J'.hok, rv, q⟩
end
section
variable {X : Cx} {nm : Nm} {W : WX} {Γ : Gam} {pos p2 : Pos}
/-- x() where x holds a lambda -/
theorem x_callc {L i : Nat} {x : Str} (m : Rm X L) (tk : Takes X W) (C : ∀ k l fn, Γ.lam k = some fn → nm.lam k = some l → LamG (gOf X nm) L l fn) (hN : X.N[i]? = some x) (hv : Vis X.env.scope x) (hd : (x == ("__debug__" : Str)) = false) (hcd : (x == ("__classdict__" : Str)) = false) :
    pE X nm W Γ (.callc i) (.Call (.Name x p2) [] [] pos) := by
  refine ⟨fun pins s σ H Q I h => ?_⟩
  have hi : i < σ.length := by rw [I.len]; exact (List.getElem?_eq_some_iff.mp hN).1
  obtain ⟨c, R, ρ, τ, fps, S, h⟩ := h
  obtain ⟨o, v, _, hx, rv, h1⟩ := Post.rd S hi h
  have key : ∃ k fn, Γ.own = none ∧ Γ.lam k = some fn ∧ Rep (gOf X nm) c.P R (.clo k) v ∧ Post (gOf X nm) W c σ τ R H (fun v ρ' R' H' fps' => ∀ x, VR (gOf X nm) c R' H' fps' v x → Q x H') (callFn none (some fn) [] ρ) := by
    cases o with
    | frz d =>
      cases d with
      | clo k =>
        obtain ⟨f, q⟩ := rv.ro
        simp only [RO] at q
        have h2 : Post (gOf X nm) W c σ τ R H (fun v ρ' R' H' fps' => ∀ x, VR (gOf X nm) c R' H' fps' v x → Q x H') ((if Γ.own.isNone && (Γ.lam k).isSome then callFn Γ.own (Γ.lam k) [] else bad) ρ) := h1
        cases ho : Γ.own with
        | some is => rw [ho] at h2; exact h2.elim
        | none =>
          cases hl : Γ.lam k with
          | none => rw [ho, hl] at h2; exact h2.elim
          | some fn =>
            rw [ho, hl] at h2
            exact ⟨k, fn, rfl, hl, q.1, h2⟩
      | _ => exact h1.elim
    | _ => exact h1.elim
  obtain ⟨k, fn, _, hl, rk, h2⟩ := key
  simp only [Rep] at rk
  obtain ⟨f, c', l, rfl, _, hk, hf, hc, _⟩ := rk
  have sp : spF (gOf X nm) fn [] H Q (WE W σ) := sp_of_r ⟨c, R, τ, ρ, fps, [], S, RepL.nil, h2⟩
  refine wpAny_Call_Name_kw (thn ((pe_var (pos := p2) hN hv hd hcd).run pins s σ H (fun v H1 => v = .ref f ∧ H1 = H) I ⟨_, hx, rfl, rfl⟩) fun u s1 ⟨v, H1, I1, r1, e1, e2⟩ => ?_)
  subst e1 e2
  obtain rfl : u = Value.ref f := r1
  have objf : ObjOk X.prog X.w H1 s1.heap f (LamO l nm.cells f c') := I1.hok f _ (S.same f _ hf)
  obtain ⟨⟨pm, ctv, objf⟩, _, _⟩ := objf
  refine PySem.W.callWith_F0 ⟨_, _, _, _, objf⟩ ?_
  exact after_call tk I1 ((C k l fn hl hk).run X.A X.stack s1 H1 f c' Q (WE W σ) m.gd m.room I1.env0 (S.same f _ hf) (S.same c' _ hc) sp)
end
end DL

set_option Elab.async false
set_option linter.all false
set_option maxRecDepth 100000
/-! DL21: the text's own exceptions: made, raised. -/
namespace DL
open PySem PySem.Spec PyProof.Rows L2
/-- the base of the text's exceptions, whose __init__ is ValueError's -/
structure RootX (K : PySem.W.Frag) (C0 : Addr) : Prop where
  ga : PySem.W.specialIn K (.ref C0) "__getattribute__" = some (some (.builtin "type.__getattribute__"))
  rd : PySem.W.readsIn K C0 (.type "type") = true
  at_ : PySem.W.findCls K (.ref C0) (.type "type") "__init__" = some (.val (.builtin "ValueError.__init__"))
section
variable {X : Cx} {e : Expr} {es : List Expr} {ta : TA} {x0 : Str} {C0 : Addr} {pos p1 p2 : Pos}
/-- C0.__init__(self, ..) -/
theorem pe_rootinit (T0 : RootX X.K C0) (hg : Gl X x0) (hm : X.mg x0 = some (.ref C0)) (hdb : (x0 == ("__debug__" : Str)) = false) (ha : PA X (e :: es) ta)
    (hform : methodCallForm ((e :: es).length + ([] : List Keyword).length) (backTo pos (starEach (e :: es) X.env)) (backToKw pos (keywordEach [] X.env)) = true) (hline : (p2.endLine == pos.line) = true)
    (he : starEach (e :: es) X.env = (false, eval e X.env) :: starEach es X.env := by rfl) (hpl : (backTo pos (starEach es X.env)).any (·.1) = false := by rfl) :
    PE X (.Call (.Attribute (.Name x0 p1) "__init__" p2) (e :: es) [] pos) (tVeI X.K ta) := by
  refine ⟨fun pins s σ H Q I h => ?_⟩
  have hc : eval (.Call (.Attribute (.Name x0 p1) "__init__" p2) (e :: es) [] pos) X.env = (do
      let ov ← eval (.Name x0 p1) X.env
      standAt p2.atName
      let (f, first) ← holding [ov] (getMethod ov "__init__" (plainOf (.Name x0 p1) X.env))
      callWith pos f first (backTo pos (starEach (e :: es) X.env)) (backToKw pos (keywordEach [] X.env))) := by
    show (do
      let ov ← eval (.Name x0 p1) X.env
      standAt p2.atName
      methodCall (.Name x0 p1) "__init__" p2 pos X.env ov ((e :: es).length + ([] : List Keyword).length) (backTo pos (starEach (e :: es) X.env)) (backToKw pos (keywordEach [] X.env))) = _
    simp only [mcall_line hform hline]
  refine PySem.W.methodCall_KW (ld_glob I hg hm ?_ hdb) hc
  refine PySem.W.method_cls I.kIn T0.ga ?_
  refine PySem.W.cls_value I.kIn T0.rd T0.at_ rfl ?_
  show wpAny _ _ (callWith pos (Value.builtin "ValueError.__init__") [] (backTo pos (starEach (e :: es) X.env)) []) _ _ _
  refine PyProof.Rows.callWith_method1 (thn (ha.run pos pins _ σ H _ (I.tok _) h) fun us s1 ⟨vs, H1, I1, r1, a, C, ws, ev, hl, T, ea, q⟩ => ?_) he hpl
  subst ev
  cases r1 with
  | @cons _ u0 _ ur ra rw' =>
    obtain rfl : u0 = Value.ref a := ra
    exact oinit_ok T I1 ea (by rw [← Paired.length rw', sizeLine_eq]; omega) fun s' J => ⟨.non, H1, J, rfl, q⟩
end
abbrev sSelf : Str := "self"
/-- self.f = f for each field -/
inductive FldS : List Str → List Stmt → Prop where
  | nil : FldS [] []
  | cons {f : Str} {fs : List Str} {ss : List Stmt} {p1 p2 p3 p4 : Pos} : FldS fs ss → FldS (f :: fs) (.Assign [.Attribute (.Name "self" p1) f p2] (.Name f p3) p4 :: ss)
def fldsB : List Str → List Stmt → Bool
  | [], [] => true
  | f :: fs, .Assign [.Attribute (.Name y _) g _] (.Name z _) _ :: ss => y == ("self" : Str) && (g == f && (z == f && fldsB fs ss))
  | _, _ => false
theorem fldS_by : ∀ {fs : List Str} {ss : List Stmt}, fldsB fs ss = true → FldS fs ss
  | [], [], _ => .nil
  | [], _ :: _, h => by simp [fldsB] at h
  | f :: fs, ss, h => by
    unfold fldsB at h
    split at h
    · rename_i e; cases e
    · rename_i f' fs' y _ g _ z _ _ ss' e1
      cases e1
      simp only [Bool.and_eq_true, beq_iff_eq] at h
      obtain ⟨rfl, rfl, rfl, h⟩ := h
      exact .cons (fldS_by h)
    · cases h
/-- behind the fields so far -/
def tFlds (K : PySem.W.Frag) : Nat → List Str → TS
  | _, [] => tNext
  | i, f :: fs => tSeq (tOst K f (tVar 0) (tVar i)) (tFlds K (i + 1) fs)
theorem pss_flds {X : Cx} (hN : X.N.Nodup) (h0 : X.N[0]? = some sSelf) (hv : ∀ x ∈ X.N, Vis X.env.scope x) (hd : ∀ x ∈ X.N, (x == ("__debug__" : Str)) = false ∧ (x == ("__classdict__" : Str)) = false) : ∀ {fs : List Str} {ss : List Stmt} (i : Nat), FldS fs ss → (∀ j f, fs[j]? = some f → X.N[i + j]? = some f) → PSs X ss (tFlds X.K i fs)
  | [], _, i, .nil, _ => pss_nil
  | f :: fs, _, i, .cons r, hx => by
    have h1 : X.N[i]? = some f := hx 0 f rfl
    have m1 := List.mem_of_getElem? h1
    have m0 := List.mem_of_getElem? h0
    exact pss_cons (ps_ost (pe_var h0 (hv _ m0) (hd _ m0).1 (hd _ m0).2) (pe_var h1 (hv _ m1) (hd _ m1).1 (hd _ m1).2)) (pss_flds hN h0 hv hd (i + 1) r fun j g hg => by
      have := hx (j + 1) g (by simpa using hg)
      rw [show i + 1 + j = i + (j + 1) by omega]; exact this)
/-- what stands where an exception is made -/
def madeX (H : Hp) (a C dx : Addr) (fs : List (Str × V)) : Hp := upd (upd H dx (exd dx fs)) a (exo a C (some dx))
theorem exd_congr {dx : Addr} {fs gs : List (Str × V)} (h : ∀ f, fs.lookup f = gs.lookup f) : exd dx fs = exd dx gs := by
  unfold exd
  congr 1
  funext h'
  congr 1
  funext mA
  congr 1
  exact forall_congr fun f => by rw [h f]
theorem lookup_zip_rev {flds : List Str} (nd : flds.Nodup) : ∀ {xs : List V}, xs.length = flds.length → ∀ f, ((flds.zip xs).reverse).lookup f = (flds.zip xs).lookup f := by
  intro xs hl f
  have key : ∀ {l : List (Str × V)}, (l.map (·.1)).Nodup → l.reverse.lookup f = l.lookup f := by
    intro l
    induction l with
    | nil => intro _; rfl
    | cons p l ih =>
      intro h
      obtain ⟨g, v⟩ := p
      rw [List.map_cons, List.nodup_cons] at h
      rw [List.reverse_cons, List.lookup_append, ih h.2, lookup_put]
      by_cases e : f = g
      · subst e
        rw [if_pos rfl]
        cases q : l.lookup f with
        | none => simp
        | some u => exact absurd (List.mem_map.mpr ⟨(f, u), PySem.mem_of_lookup q, rfl⟩) h.1
      · rw [if_neg e]
        cases q : l.lookup f with
        | none => rw [lookup_put, if_neg e, q]; rfl
        | some u => rw [lookup_put, if_neg e, q]; rfl
  exact key (by rw [List.map_fst_zip (by omega)]; exact nd)
/-- the fields, one by one -/
theorem flds_read {K : PySem.W.Frag} {C a : Addr} (T : OexC K C) {D : Ends} {H : Hp} (hHa : H a = some (exo a C none)) : ∀ (fs : List Str) (xs : List V) (i : Nat) (σ : L2.St) (prev : List (Str × V)) (H' : Hp),
    (∀ f ∈ fs, PySem.W.findIn K (.ref C) f = some none) → fs.length = xs.length → prev.length + fs.length ≤ 500 → σ[0]? = some (some (.ref a)) → (∀ j v, xs[j]? = some v → σ[i + j]? = some (some v)) →
    ((prev = [] ∧ H' = H) ∨ ∃ dx, H dx = none ∧ dx ≠ a ∧ H' = madeX H a C dx prev) →
    (∀ H'', ((prev = [] ∧ fs = [] ∧ H'' = H) ∨ ∃ dx, H dx = none ∧ dx ≠ a ∧ H'' = madeX H a C dx ((fs.zip xs).reverse ++ prev)) → D.nx σ H'') → tFlds K i fs D σ H'
  | [], [], i, σ, prev, H', hf, hl, hb, h0, hx, hw, k => by
    refine k H' ?_
    rcases hw with ⟨h1, h2⟩ | h
    · exact .inl ⟨h1, rfl, h2⟩
    · exact .inr (by simpa using h)
  | [], _ :: _, _, _, _, _, _, hl, _, _, _, _, _ => by cases hl
  | _ :: _, [], _, _, _, _, _, hl, _, _, _, _, _ => by cases hl
  | f :: fs, x :: xs, i, σ, prev, H', hf, hl, hb, h0, hx, hw, k => by
    simp only [List.length_cons] at hl hb
    refine ⟨x, by simpa using hx 0 x rfl, .ref a, h0, a, C, rfl, T, hf f (List.mem_cons_self ..), ?_⟩
    have go : ∀ dx, H dx = none → dx ≠ a → tFlds K (i + 1) fs D σ (madeX H a C dx ((f, x) :: prev)) := fun dx h1 h2 => by
      refine flds_read T hHa fs xs (i + 1) σ ((f, x) :: prev) _ (fun g hg => hf g (List.mem_cons_of_mem _ hg)) (by omega) (by simp only [List.length_cons]; omega) h0 (fun j v hj => by
        have := hx (j + 1) v (by simpa using hj)
        rw [show i + 1 + j = i + (j + 1) by omega]; exact this) (.inr ⟨dx, h1, h2, rfl⟩) fun H'' hh => ?_
      refine k H'' (.inr ?_)
      rcases hh with ⟨z, _⟩ | ⟨dx', e1, e2, e3⟩
      · cases z
      · exact ⟨dx', e1, e2, by rw [e3]; congr 1; simp⟩
    rcases hw with ⟨rfl, rfl⟩ | ⟨dx, h1, h2, rfl⟩
    · exact .inl ⟨hHa, fun dx h1 h2 => go dx h1 h2⟩
    · refine .inr ⟨dx, prev, upd_same, ?_, by omega, ?_⟩
      · unfold madeX
        rw [upd_ne h2, upd_same]
      · have e : upd (madeX H a C dx prev) dx (exd dx ((f, x) :: prev)) = madeX H a C dx ((f, x) :: prev) := by
          funext b
          unfold madeX
          by_cases e1 : b = dx
          · rw [e1, upd_same, upd_ne h2, upd_same]
          · rw [upd_ne e1]
            by_cases e2 : b = a
            · rw [e2, upd_same, upd_same]
            · rw [upd_ne e2, upd_ne e2, upd_ne e1, upd_ne e1]
        show tFlds K (i + 1) fs D σ (upd (madeX H a C dx prev) dx (exd dx ((f, x) :: prev)))
        rw [e]
        exact go dx h1 h2
/-- what __init__ promises -/
def spInit (C : Addr) (flds : List Str) : Sp := fun vs H Q _ => ∃ a xs, vs = .ref a :: xs ∧ xs.length = flds.length ∧ H a = some (exo a C none) ∧ (flds = [] → Q .non H) ∧ (flds ≠ [] → ∀ dx, H dx = none → dx ≠ a → Q .non (madeX H a C dx (flds.zip xs)))
/-- an exception class of the text: its fields -/
structure ExcC (P : Program) (w : World) (K : PySem.W.Frag) (mg : Str → Option Value) (k : Nat) (x : Str) (flds : List Str) : Prop where
  T : OexC K (He.ga K x)
  gl : mg x = some (.ref (He.ga K x))
  init : ∃ fI fd, PySem.W.findIn K (.ref (He.ga K x)) "__init__" = some (some (.ref fI)) ∧ PySem.W.typeIn K (.ref fI) = some (.type "function") ∧ Binds K fd (sSelf :: flds) [] ∧ ∀ base, FnOk P w K mg base (L2.CX P w) k fI fd (sSelf :: flds) (spInit (He.ga K x) flds)
section
variable {P : Program} {w : World} {K : PySem.W.Frag} {mg : Str → Option Value} {k : Nat} {x x0 qual : Str} {flds : List Str}
theorem init_ok {params : Arguments} {scope : Scope} {kws : List (Str × V)} {fI : Addr} {fd : FuncData} {ss : List Stmt} {y : Str} {j : Nat} {p1 p2 p3 p4 p5 p6 : Pos} {base : Heap} {txt : Str} (T : OexC K (He.ga K x)) (T0 : RootX K (He.ga K x0)) (mg0 : mg x0 = some (.ref (He.ga K x0)))
    (F : FunD K "__init__" qual params (.Expr (.Call (.Attribute (.Name x0 p1) "__init__" p2) [.Name "self" p3, .Constant (.str txt) j p4] [] p5) p6 :: ss) scope [] kws fI fd) (S : FnScope (sSelf :: flds) (sSelf :: flds) scope) (hs : FldS flds ss) (nd : flds.Nodup) (hl : flds.length ≤ 100)
    (hno : ∀ f ∈ flds, PySem.W.findIn K (.ref (He.ga K x)) f = some none) (hv : ∀ z ∈ sSelf :: flds, scope.names.lookup z = some .local) (hg : scope.names.lookup x0 = some .globalImplicit) (hd : ∀ z ∈ sSelf :: flds, (z == ("__debug__" : Str)) = false ∧ (z == ("__classdict__" : Str)) = false) (hd0 : (x0 == ("__debug__" : Str)) = false) (hline : (p2.endLine == p5.line) = true) :
    FnOk P w K mg base (L2.CX P w) (k + 1) fI fd (sSelf :: flds) (spInit (He.ga K x) flds) := by
  refine F.ok S (fun vs H Q E ⟨a, xs, e, h1, _⟩ => by rw [e]; simp [h1]) fun cdv A outer s H vs Q E hr sp => ?_
  obtain ⟨a, xs, rfl, hxl, hHa, hQ0, hQ⟩ := sp
  refine ⟨_, pss_cons (ps_expr (pe_rootinit (x0 := x0) (C0 := He.ga K x0) T0 hg mg0 hd0 (pa_cons (pe_var (i := 0) rfl (.inl (hv _ (List.mem_cons_self ..))) (hd _ (List.mem_cons_self ..)).1 (hd _ (List.mem_cons_self ..)).2) (pa_cons pe_str pa_nil)) rfl hline))
    (pss_flds S.nd rfl (fun z hz => .inl (hv z hz)) hd 1 hs fun j f hj => by
      rw [show 1 + j = j + 1 by omega]
      show (sSelf :: flds)[j + 1]? = some f
      simpa using hj), ?_⟩
  have sg : ∀ (i : Nat) v, (V.ref a :: xs)[i]? = some v → (L2.start (sSelf :: flds) (.ref a :: xs))[i]? = some (some v) := fun i v hi => by
    unfold L2.start
    have lt : i < (V.ref a :: xs).length := (List.getElem?_eq_some_iff.mp hi).1
    rw [List.getElem?_append_left (by simpa using lt), List.getElem?_map, hi]; rfl
  refine ⟨_, sg 0 _ rfl, a, He.ga K x, [.str txt], rfl, by simp, T, hHa, ?_⟩
  by_cases hne : flds = []
  · subst hne
    exact hQ0 rfl
  refine flds_read T hHa flds xs 1 _ [] H hno hxl.symm (by simp; omega) (sg 0 _ rfl) (fun j v hj => by rw [show 1 + j = j + 1 by omega]; exact sg (j + 1) v (by simpa using hj)) (.inl ⟨rfl, rfl⟩) fun H'' hh => ?_
  rcases hh with ⟨_, z, z2⟩ | ⟨dx, h1, h2, h3⟩
  · exact absurd z hne
  · rw [List.append_nil] at h3
    have e : madeX H a (He.ga K x) dx (flds.zip xs).reverse = madeX H a (He.ga K x) dx (flds.zip xs) := by
      unfold madeX
      rw [exd_congr (lookup_zip_rev nd hxl)]
    rw [h3, e]
    exact hQ hne dx h1 h2
end
section
variable {X : Cx} {nm : Nm} {W : WX} {Γ : Gam} {as : List E} {e : Expr} {es : List Expr} {pos p1 p2 : Pos} {k g : Nat} {flds : List Str}
theorem s_rse (C : ExcC X.prog X.w X.K X.mg k (nm g) flds) (hx : Γ.exf g = some flds) (m : Rm X (k + 1)) (tk : Takes X W) (hg : Gl X (nm g)) (hdb : (nm g == ("__debug__" : Str)) = false) (hl : flds.length ≤ 100) (hne : flds ≠ []) (hs : (e :: es).all noStar = true) (ha : pAs X nm W Γ as (e :: es)) :
    pS X nm W Γ (.rse g as) (.Raise (some (.Call (.Name (nm g) p1) (e :: es) [] p2)) none pos) := by
  obtain ⟨fI, fd, iC, tI, hb, F1⟩ := C.init
  rw [List.all_cons, Bool.and_eq_true] at hs
  refine (ps_raise m.calm tk (pmk_oex C.T iC tI (F1 X.base) m.room hb .nil (passes_call tk fun _ _ _ _ z => z.elim) hg C.gl ha hdb (star_of hs.1) (stars_of hs.2))).weak fun D σ H _ ⟨c, R, ρ, fps, S, h⟩ => ?_
  have h' : PostS (gOf X nm) W c R σ.length D (bnd (evs Γ as) (fun ds => fun ρ => match Γ.exf g with
    | some ns => if ns.length = ds.length then .err g ns ds ρ else .bad
    | none => .bad) ρ) := h
  refine PostS.at_ S h' fun ds ρ1 R1 H1 fp1 e1 sx S1 h1 xs rx => ?_
  rw [hx] at h1
  have hlen := rx.length
  by_cases hn : flds.length = ds.length
  · have h2 : PostS (gOf X nm) W c R1 σ.length D (.err g flds ds ρ1) := by
      have h3 : PostS (gOf X nm) W c R1 σ.length D (if flds.length = ds.length then .err g flds ds ρ1 else .bad) := h1
      rw [if_pos hn] at h3; exact h3
    refine ⟨by omega, fun a na => ?_⟩
    rw [List.append_nil]
    refine ⟨a, xs, rfl, by omega, upd_same, fun z => absurd z hne, fun _ dx hdx ne => ?_⟩
    rw [upd_ne ne] at hdx
    refine ⟨rfl, dx, flds.zip xs, ?_, ?_, hdx, ?_⟩
    · unfold madeX; exact upd_same
    · unfold madeX; rw [upd_ne ne, upd_same]
    · have eH : upd (del (madeX (upd H1 a (exo a (He.ga X.K (nm g)) none)) a (He.ga X.K (nm g)) dx (flds.zip xs)) a) dx (.xd (flds.zip xs)) = upd H1 dx (.xd (flds.zip xs)) := by
        funext b
        by_cases e1 : b = dx
        · rw [e1, upd_same, upd_same]
        · rw [upd_ne e1, upd_ne e1]
          by_cases e2 : b = a
          · rw [e2, del_same, na]
          · rw [del_ne e2]
            unfold madeX
            rw [upd_ne e2, upd_ne e1, upd_ne e2]
      rw [eH]
      obtain ⟨S2, e2, _⟩ := S1.new (o := .xd (flds.zip xs)) hdx
      refine h2 dx (flds.zip xs) _ _ σ [] _ rfl e2 (by rw [List.append_nil]; exact S2) upd_same (List.map_fst_zip (by omega)) ?_
      rw [List.map_snd_zip (by omega)]
      exact rx.mono e2
  · exfalso
    have h3 : PostS (gOf X nm) W c R1 σ.length D (if flds.length = ds.length then .err g flds ds ρ1 else .bad) := h1
    rw [if_neg hn] at h3; exact h3
end
end DL

set_option Elab.async false
set_option linter.all false
set_option maxRecDepth 100000
/-! DL22: try with several clauses 'except C as n'. -/
namespace DL
open PySem PySem.Spec PyProof.Rows L2
/-- the ends behind a suite that binds slot i -/
def endsAs (i : Nat) (D : Ends) : Ends := { nx := fun σ' H' => D.nx (σ'.set i none) H', rt := D.rt, bk := fun σ' H' => D.bk (σ'.set i none) H', ct := fun σ' H' => D.ct (σ'.set i none) H' }
/-- what the clauses wish of an exception of the body, one behind another -/
def wAll (K : PySem.W.Frag) (Wo : WX) (D : Ends) : List (Value × Nat × (Addr → Value → Option Addr → TS)) → WX
  | [] => Wo
  | (c, i, ts) :: l => fun cls d σ H => ∃ hit, PySem.W.exmOne K cls c = some hit ∧ (hit = true → ∀ a, H a = none → ts a cls d (endsAs i D) (σ.set i (some (.ref a))) H) ∧ (hit = false → wAll K Wo D l cls d σ H)
inductive Clauses (X : Cx) : List ExceptHandler → List (Value × Nat × (Addr → Value → Option Addr → TS)) → Prop where
  | nil : Clauses X [] []
  | cons {x n : Str} {c : Value} {i : Nat} {ts : Addr → Value → Option Addr → TS} {st : Stmt} {sts : List Stmt} {p1 p2 : Pos} {hds : List ExceptHandler} {l : List (Value × Nat × (Addr → Value → Option Addr → TS))} (names : Names X x c) (slot : X.N[i]? = some n) (loc : X.env.kindOf n = some .local)
      (suite : ∀ (a : Addr) (oe : Obj) (cls : Value) (d : Option Addr) (pn : List (Addr × Obj)), Zc cls d oe → (∃ vs, oe.data = .fields vs) → PSs (X.suite a ((a, oe) :: pn)) (st :: sts) (ts a cls d)) (more : Clauses X hds l) :
      Clauses X (.ExceptHandler (some (.Name x p1)) (some n) (st :: sts) p2 :: hds) ((c, i, ts) :: l)
theorem ps_tries {X : Cx} {body : List Stmt} {h1 : ExceptHandler} {hds : List ExceptHandler} {l : List (Value × Nat × (Addr → Value → Option Addr → TS))} {pos : Pos} {tb : WX → TS} {Wo : WX} (hN : X.N.Nodup) (hs : X.stack = X.env :: X.outer) (hf : X.env.frame = some X.env.locals) (tk : Takes X Wo)
    (hb : ∀ (W : WX) (pn : List (Addr × Obj)) (xe : Value → Shared → Prop), Takes (X.tr pn xe) W → PassesOwn (model X.prog X.w) X.A X.env xe → PSs (X.tr pn xe) body (tb W)) (hc : Clauses X (h1 :: hds) l) :
    PS X (.Try body (h1 :: hds) [] [] pos) (fun D σ H => tb (wAll X.K Wo D l) D σ H) := by
  refine ⟨fun pins s σ H D I h => ?_⟩
  have xok := I.ok
  have frA : X.A.frames = some (X.env :: X.outer) := by rw [xok.frames, hs]
  refine wpAny_Try_except ?_
  have run := (hb (wAll X.K Wo D l) (X.pn ++ pins) (fun u s₁ => wpAny (model X.prog X.w) X.A (noteFrame u X.env) (fun _ s₂ => wpAny (model X.prog X.w) X.A (setFlight u none) (fun _ s₃ => wpAny (model X.prog X.w) X.A (handleBy u X.env (h1 :: hds)) (SP X pins D) X.xe s₃) X.xe s₂) X.xe s₁) (fun u s' air => ?_) PassesOwn.looking).run [] s σ H D (I.toTry _) h
  · refine wpAny_mono run (fun f s1 hsp => ?_) (fun _ _ z => z)
    cases f with
    | next => obtain ⟨σ', H', J, q⟩ := hsp; exact wpAny_execs_nil ⟨σ', H', J.ofTry xok, q⟩
    | brk => obtain ⟨σ', H', J, q⟩ := hsp; exact ⟨σ', H', J.ofTry xok, q⟩
    | cont => obtain ⟨σ', H', J, q⟩ := hsp; exact ⟨σ', H', J.ofTry xok, q⟩
    | ret u => obtain ⟨v, σ', H', J, r, q⟩ := hsp; exact ⟨v, σ', H', J.ofTry xok, r, q⟩
  · -- an exception in the air
    obtain ⟨a, B, sI, pins', σ1, H1, cls, d, rfl, J0, ground, same, air, free, eos, gens, wish⟩ := air
    have J : Inv X pins σ1 H1 sI := J0.ofTry xok
    have air' : Sky B (X.env :: X.outer) a (Zc cls d) X.env.locals s'.heap := by rw [← hs]; exact air
    show wpAny (model X.prog X.w) X.A (noteFrame (.ref a) X.env) _ _ _
    refine Sky.land Zc.steady frA hf air' fun g fl sl => ?_
    have Jg : Inv X pins σ1 H1 { s' with heap := g } := J.landed ground fl.1 (same.trans sl) eos gens
    obtain ⟨oe, vs, geta, zoe, dat⟩ := fl.there
    have apart : ∀ b ∈ frs (X.env :: X.outer), b ≠ a := fun b hb z => by
      obtain ⟨_, o2, geto, nof⟩ := fl.2.2.1.mem hb
      rw [z, geta] at geto
      exact nof _ (Option.some.inj geto ▸ dat)
    have aL : a ≠ X.env.locals := fun z => apart X.env.locals (List.mem_filterMap.mpr ⟨X.env, List.mem_cons_self, hf⟩) z.symm
    have aF : a ∉ X.fs := fun z => by
      obtain ⟨en, m1, m2⟩ := List.mem_filterMap.mp z
      exact apart a (List.mem_filterMap.mpr ⟨en, List.mem_cons_of_mem _ m1, m2⟩) rfl
    have Js := Jg.suite geta dat free aL aF
    have tries : ∀ {hs' : List ExceptHandler} {l' : List (Value × Nat × (Addr → Value → Option Addr → TS))}, Clauses X hs' l' → wAll X.K Wo D l' cls d σ1 H1 → wpAny (model X.prog X.w) X.A (handleBy (.ref a) X.env hs') (SP X pins D) X.xe { s' with heap := g } := by
      intro hs' l' cl
      induction cl with
      | nil =>
        intro want
        refine wpAny_handleBy_nil ?_
        obtain ⟨_, _, _, ob, fv, T, oT, tv, getb, _, datb, at1, _⟩ := id fl
        unfold PySem.passOn
        refine wpAny_bind (wpAny_field getb datb at1 ?_)
        rw [if_neg (show ¬ ((Value.ref T == Value.none) = true) from by simp)]
        have on : wpAny (model X.prog X.w) X.A (setFlight (.ref a) X.env.frame) (fun _ s4 => wpAny (model X.prog X.w) X.A (throw (.ref a) : Sem Flow) (SP X pins D) X.xe s4) X.xe { s' with heap := g } := by
          rw [hf]
          refine HandSPX.setFlight_upZ fl fun g2 held sl2 => wpAny_throw (tk _ _ ?_)
          exact ⟨a, B, sI, pins, σ1, H1, cls, d, rfl, J, ground, (same.trans sl).trans sl2, .inr (.inr (hs ▸ held)), free, eos, gens, want⟩
        first
          | exact wpAny_bind on
          | exact wpAny_bind (wpAny_pure (wpAny_bind on))
      | @cons x n c i ts st sts p1 p2 hds2 l2 names slot loc suite more ih =>
        intro want
        obtain ⟨hit, eHit, yes, no⟩ := want
        refine wpAny_handleBy_cons (codeAny_handlers_test ?_) (fun q => nomatch q)
        have typeA : PySem.W.Looks (model X.prog X.w) g (typeOf (.ref a)) cls := fun A Q E s2 k q => wpAny_typeOf_ref (k _ _ geta) (by rw [zoe.1]; exact q)
        have asked : ∀ {Q : Value → Shared → Prop} {E : Value → Shared → Prop}, Q c { s' with heap := g } → wpAny (model X.prog X.w) (X.A.mark (some (.ref a))) (eval (.Name x p1) X.env) Q E { s' with heap := g } := fun {Q E} q => by
          obtain ⟨gl, nd, way⟩ := names
          rcases way with m | ⟨m, bt, nn⟩
          · exact ld_glob (X := X.suite a ((a, oe) :: (X.pn ++ pins))) Js gl m q nd
          · exact ld_blt (X := X.suite a ((a, oe) :: (X.pn ++ pins))) Js gl m bt q nn nd
        refine asked ((PySem.W.exm_one (M := model X.prog X.w) Jg.kIn typeA eHit).here ?_)
        cases hit with
        | false => exact ih (no rfl)
        | true =>
          refine codeAny_handlers_suite_as (HandSPX.lands_againZ fl fun g2 fl2 sl2 => ?_)
          have J2 : Inv X pins σ1 H1 { s' with heap := g2 } := J.landed ground fl2.1 ((same.trans sl).trans sl2) eos gens
          obtain ⟨oe2, vs2, geta2, zoe2, dat2⟩ := fl2.there
          refine store_ok (X := X.suite a ((a, oe2) :: (X.pn ++ pins))) (v := .ref a) (J2.suite geta2 dat2 free aL aF) hN slot (.inl loc) rfl (fun s5 J5 => ?_) (.inr loc)
          refine wpAny_mono ((suite a oe2 cls d (X.pn ++ pins) zoe2 ⟨_, dat2⟩).run [] s5 _ H1 _ J5 (yes rfl a free)) (fun f s6 hsp => ?_) (fun _ _ z => z.elim)
          have gone : ∀ {σ6 : L2.St} {H6 : Hp} {Q : Shared → Prop}, Inv (X.suite a ((a, oe2) :: (X.pn ++ pins))) [] σ6 H6 s6 → (∀ s7, Inv X pins (σ6.set i none) H6 s7 → Q s7) → wpAny (model X.prog X.w) X.A (do bindName X.env n .none; unbindBehindTheSuite X.env n p2) (fun _ s7 => Q s7) X.xe s6 :=
            fun J6 q => gone_ok (J6.unsuite xok) hN slot loc q
          cases f with
          | next => obtain ⟨σ6, H6, J6, q6⟩ := hsp; exact gone J6 fun s7 J7 => ⟨_, _, J7, q6⟩
          | brk => obtain ⟨σ6, H6, J6, q6⟩ := hsp; exact gone J6 fun s7 J7 => ⟨_, _, J7, q6⟩
          | cont => obtain ⟨σ6, H6, J6, q6⟩ := hsp; exact gone J6 fun s7 J7 => ⟨_, _, J7, q6⟩
          | ret u => obtain ⟨v6, σ6, H6, J6, r6, q6⟩ := hsp; exact gone J6 fun s7 J7 => ⟨_, _, _, J7, r6, q6⟩
    exact tries hc wish
/-! ### what a suite returns -/
/-- the parts of a told fault: n the error's name -/
inductive ItS (n : Str) : List HIt → List Expr → Prop where
  | nil : ItS n [] []
  | str {z : Str} {j : Nat} {p : Pos} {is : List HIt} {es : List Expr} : ItS n is es → ItS n (.c (.str z) :: is) (.Constant (.str z) j p :: es)
  | fld {f : Str} {p1 p2 : Pos} {is : List HIt} {es : List Expr} : ItS n is es → ItS n (.f f :: is) (.Attribute (.Name n p1) f p2 :: es)
inductive HbS (n : Str) : HB → List Stmt → Prop where
  | bl {b : Bool} {j : Nat} {p p2 : Pos} : HbS n (.c (.bl b)) [.Return (some (.Constant (.bool b) j p)) p2]
  | tup {is : List HIt} {es : List Expr} {k : Nat} {p p2 : Pos} : ItS n is es → HbS n (.t is) [.Return (some (.Tuple es k p)) p2]
/-- the fields that a suite reads -/
def HIt.fs : List HIt → List Str
  | [] => []
  | .c _ :: l => HIt.fs l
  | .f x :: l => x :: HIt.fs l
def HB.fs : HB → List Str
  | .c _ => []
  | .t l => HIt.fs l
def HB.len : HB → Nat
  | .c _ => 0
  | .t l => l.length
def tIts (a : Addr) (cls : Value) (d : Option Addr) (C : Addr) (i : Nat) : List HIt → TA
  | [] => tNil
  | .c (.str z) :: l => tCons (tC (.str z)) (tIts a cls d C i l)
  | .c _ :: l => fun _ _ _ => False
  | .f x :: l => tCons (tXf a cls d C x (tVar i)) (tIts a cls d C i l)
def tHb (a : Addr) (cls : Value) (d : Option Addr) (C : Addr) (i : Nat) : HB → TS
  | .c (.bl b) => tRet (tC (.bl b))
  | .c _ => fun _ _ _ => False
  | .t l => tRet (tTup (tIts a cls d C i l))
section
variable {X : Cx} {C : Addr} {i : Nat} {n : Str}
theorem pa_its (T : XfC X.K C) {a : Addr} {oe : Obj} {cls : Value} {d : Option Addr} {pn : List (Addr × Obj)} (hz : Zc cls d oe) (hf : ∃ vs, oe.data = .fields vs) (hN : X.N[i]? = some n) (hv : Vis X.env.scope n) (hd : (n == ("__debug__" : Str)) = false) (hcd : (n == ("__classdict__" : Str)) = false) :
    ∀ {is : List HIt} {es : List Expr}, ItS n is es → (∀ f ∈ HIt.fs is, PySem.W.findIn X.K (.ref C) f = some none) → PA (X.suite a ((a, oe) :: pn)) es (tIts a cls d C i is)
  | _, _, .nil, _ => pa_nil
  | _, _, .str r, hno => pa_cons pe_str (pa_its T hz hf hN hv hd hcd r hno)
  | _, _, .fld (f := f) r, hno => pa_cons (pe_xf T (hno f (List.mem_cons_self ..)) hz hf (pe_var (X := X.suite a ((a, oe) :: pn)) hN hv hd hcd)) (pa_its T hz hf hN hv hd hcd r fun g hg => hno g (List.mem_cons_of_mem _ hg))
theorem pss_hb (T : XfC X.K C) {a : Addr} {oe : Obj} {cls : Value} {d : Option Addr} {pn : List (Addr × Obj)} (hz : Zc cls d oe) (hf : ∃ vs, oe.data = .fields vs) (hN : X.N[i]? = some n) (hv : Vis X.env.scope n) (hd : (n == ("__debug__" : Str)) = false) (hcd : (n == ("__classdict__" : Str)) = false)
    {h : HB} {sts : List Stmt} (S : HbS n h sts) (hno : ∀ f ∈ h.fs, PySem.W.findIn X.K (.ref C) f = some none) : PSs (X.suite a ((a, oe) :: pn)) sts (tHb a cls d C i h) := by
  cases S with
  | bl => exact pss_one (ps_ret pe_bl)
  | tup r => exact pss_one (ps_ret (pe_tup (pa_its T hz hf hN hv hd hcd r hno)))
end
/-- the fields by name -/
theorem fld_look {G : Gx} {P : Addr} {H : Hp} {x : Str} {d : D} : ∀ {fs : List (Str × V)} {xs : List D}, RepL G P H xs (fs.map (·.2)) → ((fs.map (·.1)).zip xs).lookup x = some d → ∃ v, fs.lookup x = some v ∧ Rep G P H d v
  | [], xs, _, h => by simp at h
  | (f, v) :: fs, xs, rx, h => by
    cases xs with
    | nil => simp at h
    | cons y ys =>
      simp only [List.map_cons, RepL] at rx
      obtain ⟨z, zs, e, r1, r2⟩ := rx
      cases e
      rw [List.map_cons, List.zip_cons_cons, List.lookup_cons] at h
      rw [List.lookup_cons]
      cases q : x == f with
      | true => rw [q] at h; cases h; exact ⟨v, rfl, r1⟩
      | false => rw [q] at h; exact fld_look r2 h
theorem its_read {G : Gx} {P : Addr} {R H : Hp} {a C dd : Addr} {i : Nat} {σ : L2.St} {fs : List (Str × V)} {xs : List D} (hd : H dd = some (.xd fs)) (rx : RepL G P R xs (fs.map (·.2))) (hi : σ[i]? = some (some (.ref a))) :
    ∀ {is : List HIt} {ds : List D} {Q : List V → Hp → Prop}, is.mapM (HIt.d (fs.map (·.1)) xs) = some ds → (∀ it ∈ is, ∀ k, it = .c k → ∃ z, k = .str z) → (∀ ys, RepL G P R ds ys → Q ys H) → tIts a (.ref C) (some dd) C i is σ H Q
  | [], ds, Q, h, _, k => by
    simp at h
    subst h
    exact k [] RepL.nil
  | .c u :: is, ds, Q, h, hc, k => by
    obtain ⟨z, rfl⟩ := hc _ (List.mem_cons_self ..) u rfl
    rw [List.mapM_cons] at h
    obtain ⟨d, h1, h⟩ := Option.bind_eq_some_iff.mp h
    obtain ⟨ds', h2, h⟩ := Option.bind_eq_some_iff.mp h
    cases h
    cases h1
    show tIts a (.ref C) (some dd) C i is σ H fun ys H2 => Q (.str z :: ys) H2
    refine its_read hd rx hi h2 (fun it m => hc it (List.mem_cons_of_mem _ m)) fun ys ry => k _ (RepL.cons ?_ ry)
    show Rep G P R (.str z) (.str z)
    simp only [Rep]
  | .f x :: is, ds, Q, h, hc, k => by
    rw [List.mapM_cons] at h
    obtain ⟨d, h1, h⟩ := Option.bind_eq_some_iff.mp h
    obtain ⟨ds', h2, h⟩ := Option.bind_eq_some_iff.mp h
    cases h
    obtain ⟨v, e1, rv⟩ := fld_look rx h1
    refine ⟨.ref a, hi, rfl, rfl, dd, fs, v, rfl, hd, e1, ?_⟩
    exact its_read hd rx hi h2 (fun it m => hc it (List.mem_cons_of_mem _ m)) fun ys ry => k _ (RepL.cons rv ry)
theorem its_str {n : Str} : ∀ {is : List HIt} {es : List Expr}, ItS n is es → ∀ it ∈ is, ∀ k, it = .c k → ∃ z, k = .str z
  | _, _, .nil, it, m, _, _ => by cases m
  | _, _, .str (z := z) r, it, m, k, e => by
    rcases List.mem_cons.mp m with h | h
    · rw [h] at e; cases e; exact ⟨_, rfl⟩
    · exact its_str r it h k e
  | _, _, .fld r, it, m, k, e => by
    rcases List.mem_cons.mp m with h | h
    · rw [h] at e; cases e
    · exact its_str r it h k e
theorem hb_read {G : Gx} {c : Cf} {R H : Hp} {σ ν : L2.St} {ρ : Env} {fps : List (List Addr)} {a C dd : Addr} {i : Nat} {n : Str} {sts : List Stmt} {h : HB} {d : D} {fs : List (Str × V)} {xs : List D} {rt : V → Hp → Prop} (S : Sim G c R H ν ρ fps) (hd : R dd = some (.xd fs)) (rx : RepL G c.P R xs (fs.map (·.2)))
    (hi : σ[i]? = some (some (.ref a))) (hs : HbS n h sts) (hh : h.d (fs.map (·.1)) xs = some d) (hl : h.len ≤ 1000) (k : ∀ R' H' x fps', Same R R' → Sim G c R' H' ν ρ fps' → Rep G c.P R' d x → rt x H') {D : Ends} (eD : D.rt = rt) : tHb a (.ref C) (some dd) C i h D σ H := by
  cases hs with
  | bl =>
    cases hh
    show D.rt _ H
    rw [eD]
    refine k R H _ fps (Same.refl R) S ?_
    show Rep G c.P R (.bl _) (.bl _)
    simp only [Rep]
  | @tup is es kk p p2 r =>
    obtain ⟨ds, h1, e1⟩ := Option.map_eq_some_iff.mp (show (is.mapM (HIt.d (fs.map (·.1)) xs)).map DL.D.tup = some d from hh)
    subst e1
    show tTup (tIts a (.ref C) (some dd) C i is) σ H D.rt
    rw [eD]
    have key : ∀ {is : List HIt} {ds : List DL.D}, is.mapM (HIt.d (fs.map (·.1)) xs) = some ds → ds.length = is.length := by
      intro is
      induction is with
      | nil => intro ds h; simp at h; subst h; rfl
      | cons u us ih =>
        intro ds h
        rw [List.mapM_cons] at h
        obtain ⟨d, _, h⟩ := Option.bind_eq_some_iff.mp h
        obtain ⟨ds', h2, h⟩ := Option.bind_eq_some_iff.mp h
        cases h
        simp [ih h2]
    refine its_read (S.same _ _ hd) rx hi h1 (its_str r) fun ys ry => ?_
    have l1 := ry.length
    have l2 := key h1
    have l3 : is.length ≤ 1000 := hl
    refine ⟨by rw [sizeLine_eq]; omega, fun q hq => ?_⟩
    obtain ⟨S2, e2, _⟩ := S.new (o := .tup ys) hq
    refine k _ _ _ _ e2 S2 ?_
    simp only [Rep]
    exact ⟨q, ys, rfl, upd_same, ry.mono e2⟩
/-! ### the statement -/
inductive HdS (X : Cx) (nm : Nm) (n : Str) : List (Nat × HB) → List ExceptHandler → Prop where
  | nil : HdS X nm n [] []
  | cons {g : Nat} {h : HB} {st : Stmt} {sts : List Stmt} {p1 p2 : Pos} {hs : List (Nat × HB)} {hds : List ExceptHandler} (gl : X.mg (nm g) = some (.ref (He.ga X.K (nm g)))) (hg : Gl X (nm g)) (hdb : (nm g == ("__debug__" : Str)) = false) (T : XfC X.K (He.ga X.K (nm g)))
      (hno : ∀ f ∈ h.fs, PySem.W.findIn X.K (.ref (He.ga X.K (nm g))) f = some none) (S : HbS n h (st :: sts)) (hl : h.len ≤ 1000) (more : HdS X nm n hs hds) : HdS X nm n ((g, h) :: hs) (.ExceptHandler (some (.Name (nm g) p1)) (some n) (st :: sts) p2 :: hds)
def clsOf (K : PySem.W.Frag) (nm : Nm) (i : Nat) (hs : List (Nat × HB)) : List (Value × Nat × (Addr → Value → Option Addr → TS)) := hs.map fun p => (Value.ref (He.ga K (nm p.1)), i, fun a cls d => tHb a cls d (He.ga K (nm p.1)) i p.2)
theorem HdS.clauses {X : Cx} {nm : Nm} {n : Str} {i : Nat} (slot : X.N[i]? = some n) (loc : X.env.scope.names.lookup n = some .local) (hd : (n == ("__debug__" : Str)) = false) (hcd : (n == ("__classdict__" : Str)) = false) : ∀ {hs : List (Nat × HB)} {hds : List ExceptHandler}, HdS X nm n hs hds → Clauses X hds (clsOf X.K nm i hs)
  | _, _, .nil => .nil
  | _, _, .cons gl hg hdb T hno S hl more => .cons ⟨hg, hdb, .inl gl⟩ slot loc (fun a oe cls d pn hz hf => pss_hb T hz hf slot (.inl loc) hd hcd S hno) (more.clauses slot loc hd hcd)
section
variable {X : Cx} {nm : Nm} {W : WX} {n : Str} {i g : Nat} {c : Cf} {R H : Hp} {σ ν : L2.St} {ρ : Env} {fps : List (List Addr)} {En : Ends} {dd : Addr} {fs : List (Str × V)} {xs : List D}
theorem clauses_read (S : Sim (gOf X nm) c R H ν ρ fps) (hd : R dd = some (.xd fs)) (rx : RepL (gOf X nm) c.P R xs (fs.map (·.2))) (hi : i < σ.length) : ∀ {hs : List (Nat × HB)} {hds : List ExceptHandler}, HdS X nm n hs hds →
    (∀ p ∈ hs, PySem.W.exmOne X.K (.ref (He.ga X.K (nm g))) (.ref (He.ga X.K (nm p.1))) = some (g == p.1)) →
    (match hs.lookup g with
      | some h => ∃ d, h.d (fs.map (·.1)) xs = some d ∧ ∀ R' H' x fps', Same R R' → Sim (gOf X nm) c R' H' ν ρ fps' → Rep (gOf X nm) c.P R' d x → En.rt x H'
      | none => W (.ref (He.ga X.K (nm g))) (some dd) σ H) → wAll X.K W En (clsOf X.K nm i hs) (.ref (He.ga X.K (nm g))) (some dd) σ H
  | _, _, .nil, _, k => k
  | _, _, .cons (g := g') (h := h) (hs := hs) gl hg hdb T hno Sb hl more, hx, k => by
    refine ⟨g == g', hx _ (List.mem_cons_self ..), fun e a na => ?_, fun e => ?_⟩
    · rw [List.lookup_cons, e] at k
      obtain ⟨d, e1, k⟩ := k
      have eg : g = g' := beq_iff_eq.mp e
      subst eg
      exact hb_read S hd rx (by rw [List.getElem?_set_self hi]) Sb e1 hl k rfl
    · rw [List.lookup_cons, e] at k
      exact clauses_read S hd rx hi more (fun p m => hx p (List.mem_cons_of_mem _ m)) k
end
section
variable {X : Cx} {nm : Nm} {W : WX} {Γ : Gam} {pos : Pos}
theorem s_try {n : Str} {i : Nat} {ss : List S} {sts : List Stmt} {hs : List (Nat × HB)} {h1 : ExceptHandler} {hds : List ExceptHandler} (hN : X.N.Nodup) (est : X.stack = X.env :: X.outer) (hf : X.env.frame = some X.env.locals) (tk : Takes X W) (slot : X.N[i]? = some n) (loc : X.env.scope.names.lookup n = some .local) (hd : (n == ("__debug__" : Str)) = false) (hcd : (n == ("__classdict__" : Str)) = false)
    (hb : ∀ (W' : WX) (pn : List (Addr × Obj)) (xe : Value → Shared → Prop), Takes (X.tr pn xe) W' → PassesOwn (model X.prog X.w) X.A X.env xe → pSs (X.tr pn xe) nm W' Γ ss sts) (hc : HdS X nm n hs (h1 :: hds))
    (hx : ∀ g, (Γ.exf g).isSome = true → ∀ p ∈ hs, PySem.W.exmOne X.K (.ref (He.ga X.K (nm g))) (.ref (He.ga X.K (nm p.1))) = some (g == p.1)) : pS X nm W Γ (.try_ ss hs) (.Try sts (h1 :: hds) [] [] pos) := by
  refine (ps_tries hN est hf tk (tb := fun W' => tSs (gOf X nm) W' Γ ss) hb (hc.clauses slot loc hd hcd)).weak fun D σ H hlen ⟨c, R, ρ, fps, S, h⟩ => ?_
  have hi : i < σ.length := by rw [hlen]; exact (List.getElem?_eq_some_iff.mp slot).1
  refine ⟨c, R, ρ, fps, S, ?_⟩
  have h' : PostS (gOf X nm) W c R σ.length D (hndF (fun g => (Γ.exf g).isSome) hs (evSs Γ ss) ρ) := h
  unfold hndF at h'
  cases e : evSs Γ ss ρ with
  | ok f ρ' => rw [e] at h'; cases f <;> exact h'
  | bad => rw [e] at h'; exact h'.elim
  | err g ns xs ρ' =>
    rw [e] at h'
    intro d fs R' H' σ' ν fps' l1 e1 S' h1' h2' h3'
    have h4 : PostS (gOf X nm) W c R σ.length D (if (Γ.exf g).isSome = false then .bad else (match hs.lookup g with
      | some h => (match h.d ns xs with
        | some d => .ok (.ret d) ρ'
        | none => .bad)
      | none => .err g ns xs ρ')) := h'
    by_cases ok : (Γ.exf g).isSome = true
    · rw [if_neg (by rw [ok]; simp)] at h4
      refine clauses_read S' h1' h3' (by omega) hc (hx g ok) ?_
      cases el : hs.lookup g with
      | none =>
        rw [el] at h4
        exact h4 d fs R' H' σ' ν fps' l1 e1 S' h1' h2' h3'
      | some h =>
        rw [el] at h4
        dsimp only at h4
        cases ed : h.d ns xs with
        | none => rw [ed] at h4; exact h4.elim
        | some d' =>
          rw [ed] at h4
          refine ⟨d', by rw [h2']; exact ed, fun R2 H2 x fp2 e2 S2 rd => ?_⟩
          exact h4 R2 H2 _ fp2 x (e1.trans e2) S2 rd
    · have ok' : (Γ.exf g).isSome = false := by simpa using ok
      rw [if_pos ok'] at h4; exact h4.elim
end
end DL

set_option Elab.async false
set_option linter.all false
set_option maxRecDepth 100000
set_option maxHeartbeats 2000000
/-! DL42: itertools.combinations of a tuple, walked, at the library's level (after HandS.RepeatKit's manner). -/
namespace PySem.DLX
open PySem PySem.Spec PyProof.Rows DL
theorem mro_cmb : mroOf (.type "itertools.combinations") = pure [.type "itertools.combinations", .type "object"] := by rw [mroOf_type]; kernel_rfl
theorem lookup_cmb_new : typeLookup (.type "itertools.combinations") "__new__" = pure (some (.builtin "itertools.combinations.__new__")) := by rw [typeLookup_type, builtinLookup_eq_fast]; kernel_rfl
theorem slot_cmb_init : Slot "itertools.combinations" "__init__" "object.__init__" :=
  .of (owner := "object") (n := "__init__") (by rw [typeLookup_type, builtinLookup_eq_fast]; kernel_rfl) (by decide +kernel) (by decide +kernel) (by decide +kernel)
    (by first | exact .inl (by decide +kernel) | exact .inr (by decide +kernel)) (by rw [isSubtype_type]; kernel_rfl)
theorem sub_cmb : isSubtype (.type "itertools.combinations") (.type "itertools.combinations") = pure true := by rw [isSubtype_type]; kernel_rfl
theorem called_cmb : TypeCalled "itertools.combinations" "itertools.combinations.__new__" "object.__init__" :=
  ⟨by decide +kernel, by decide +kernel, ⟨_, _, mro_cmb⟩, madeBy_type mro_cmb lookup_cmb_new (by decide +kernel), by decide +kernel, sub_cmb, slot_cmb_init⟩
theorem typeCall_cmb_2 (a b : Value) : checkTypeCall "itertools.combinations" ⟨[a, b], []⟩ = pure () := by kernel_rfl
theorem newCall_cmb_2 (a b : Value) : checkBuiltinCall "itertools.combinations.__new__" ⟨[.type "itertools.combinations", a, b], []⟩ = pure () := by kernel_rfl
theorem entry_cmb_new : entryFor table "itertools.combinations.__new__" = some Builtin.«itertools.combinations.__new__» := entryFor_of_tree (by kernel_rfl)
theorem slot_cmb_iter : Slot "itertools.combinations" "__iter__" "itertools.combinations.__iter__" :=
  .of (owner := "itertools.combinations") (n := "__iter__") (by rw [typeLookup_type, builtinLookup_eq_fast]; kernel_rfl) (by decide +kernel) (by decide +kernel) (by decide +kernel)
    (by first | exact .inl (by decide +kernel) | exact .inr (by decide +kernel)) sub_cmb
theorem slot_cmb_next : Slot "itertools.combinations" "__next__" "itertools.combinations.__next__" :=
  .of (owner := "itertools.combinations") (n := "__next__") (by rw [typeLookup_type, builtinLookup_eq_fast]; kernel_rfl) (by decide +kernel) (by decide +kernel) (by decide +kernel)
    (by first | exact .inl (by decide +kernel) | exact .inr (by decide +kernel)) sub_cmb
theorem entry_cmb_iter : entryFor table "itertools.combinations.__iter__" = some Builtin.«dict_keyiterator.__iter__» :=
  entryFor_alias (id' := "dict_keyiterator.__iter__") (by kernel_rfl) (by first | rfl | decide +kernel | (unfold String.splitOn; simp +decide [String.splitOnAux])) (by decide +kernel) (by kernel_rfl)
theorem entry_cmb_next : entryFor table "itertools.combinations.__next__" = some Builtin.«itertools.combinations.__next__» := entryFor_of_tree (by kernel_rfl)
theorem owner_cmb : Manifest.owners.lookup (String.ofList ['s', 'n', 'o', 'i', 't', 'a', 'n', 'i', 'b', 'm', 'o', 'c', '.', 's', 'l', 'o', 'o', 't', 'r', 'e', 't', 'i'].reverse) = some Manifest.sig_itertools_combinations := by kernel_rfl
theorem args_cmb_iter (a : Value) : argsOk "itertools.combinations.__iter__" ⟨[a], []⟩ := by
  unfold argsOk; rw [signature?_of (id := "itertools.combinations.__iter__") (n := ['_', '_', 'r', 'e', 't', 'i', '_', '_']) (o := ['s', 'n', 'o', 'i', 't', 'a', 'n', 'i', 'b', 'm', 'o', 'c', '.', 's', 'l', 'o', 'o', 't', 'r', 'e', 't', 'i']) (by kernel_rfl) owner_cmb]; kernel_rfl
theorem args_cmb_next (a : Value) : argsOk "itertools.combinations.__next__" ⟨[a], []⟩ := by
  unfold argsOk; rw [signature?_of (id := "itertools.combinations.__next__") (n := ['_', '_', 't', 'x', 'e', 'n', '_', '_']) (o := ['s', 'n', 'o', 'i', 't', 'a', 'n', 'i', 'b', 'm', 'o', 'c', '.', 's', 'l', 'o', 'o', 't', 'r', 'e', 't', 'i']) (by kernel_rfl) owner_cmb]; kernel_rfl
theorem noDict_cmb : typeHasDict (.type "itertools.combinations") = false := by decide +kernel
end PySem.DLX

namespace PySem.DLX
open PySem PySem.Spec PyProof.Rows DL
/-- an object of combinations: what it draws from, how far it is, what it handed out last, the places -/
def CmbO (pool : Addr) (st : Nat) (prev : Value) (idx : List Nat) : Obj := { cls := .type "itertools.combinations", dict := none, data := .fields (([.ref pool, rawInt (st : Nat), prev] ++ idx.map fun (i : Nat) => rawInt i).toArray), slots := #[] }
abbrev IsCmb (h : Heap) (it pool : Addr) (st : Nat) (prev : Value) (idx : List Nat) : Prop := h.get? it = some (CmbO pool st prev idx)
theorem cmb_nums (pool : Addr) (st : Nat) (prev : Value) (idx : List Nat) : ((([Value.ref pool, rawInt (st : Nat), prev] ++ idx.map fun (i : Nat) => rawInt i).toArray.toList.drop 3).map fun | .int n _ => n.toNat | _ => 0) = idx := by
  simp only [List.toList_toArray]
  show ((idx.map fun (i : Nat) => rawInt i).map fun | .int n _ => n.toNat | _ => 0) = idx
  rw [List.map_map]
  conv => rhs; rw [← List.map_id idx]
  rfl
section
variable {prog : Program} {w : World} {A : Around} {E : Value → Shared → Prop} {s : Shared}
theorem iter_cmb {it pool : Addr} {st : Nat} {prev : Value} {idx : List Nat} {Q : Value → Shared → Prop} (hit : IsCmb s.heap it pool st prev idx) (h : Q (.ref it) s) : wpAny (model prog w) A (pyIter (.ref it)) Q E s := by
  have hT : s.TypeIs (.ref it) "itertools.combinations" := ⟨_, hit, rfl⟩
  refine wpAny_pyIter_slot hT slot_cmb_iter (wpAny_call_entry slot_cmb_iter hT entry_cmb_iter ?_ (args_cmb_iter _))
  show wpAny _ _ (ret (.ref it)) _ _ s
  exact wpAny_pure ⟨_, rfl, "itertools.combinations", _, hT, slot_cmb_next.lookup, h⟩
theorem cmb_numbers {it pool : Addr} {st : Nat} {prev : Value} {idx : List Nat} {Q : List Nat → Shared → Prop} (hit : IsCmb s.heap it pool st prev idx) (h : Q idx s) : wpAny (model prog w) A (Builtin.Itertools.itNumbersFrom (.ref it) 3) Q E s := by
  unfold Builtin.Itertools.itNumbersFrom
  refine wpAny_bind (wpAny_load hit ?_)
  refine wpAny_pure ?_
  have e := cmb_nums pool st prev idx
  show Q ((([Value.ref pool, rawInt (st : Nat), prev] ++ idx.map fun (i : Nat) => rawInt i).toArray.toList.drop 3).map fun | .int n _ => n.toNat | _ => 0) s
  rw [e]; exact h
theorem cmb_state {it pool : Addr} {st : Nat} {prev : Value} {idx : List Nat} {Q : Int → Shared → Prop} (hit : IsCmb s.heap it pool st prev idx) (h : Q (st : Nat) s) : wpAny (model prog w) A (Builtin.Itertools.itIntField (.ref it) 1) Q E s := by
  unfold Builtin.Itertools.itIntField
  exact wpAny_bind (wpAny_field hit rfl (x := rawInt (st : Nat)) rfl (wpAny_pure h))
theorem cmb_set1 {it pool : Addr} {st st' : Nat} {prev : Value} {idx : List Nat} {Q : Unit → Shared → Prop} (hit : IsCmb s.heap it pool st prev idx) (h : ∀ h', IsCmb h' it pool st' prev idx → Heap.SameBut it s.heap h' → Q () { s with heap := h' }) :
    wpAny (model prog w) A (setField (.ref it) 1 (rawInt (st' : Nat))) Q E s :=
  wpAny_setField_rec hit (by simp) fun h' e sb => h h' (by rw [IsCmb, e]; simp [CmbO]) sb
theorem cmb_set2 {it pool : Addr} {st : Nat} {prev prev' : Value} {idx : List Nat} {Q : Unit → Shared → Prop} (hit : IsCmb s.heap it pool st prev idx) (h : ∀ h', IsCmb h' it pool st prev' idx → Heap.SameBut it s.heap h' → Q () { s with heap := h' }) :
    wpAny (model prog w) A (setField (.ref it) 2 prev') Q E s :=
  wpAny_setField_rec hit (by simp) fun h' e sb => h h' (by rw [IsCmb, e]; simp [CmbO]) sb
/-- the tuple picked -/
abbrev pickO (us : List Value) (idx : List Nat) : Obj := { cls := .type "tuple", data := .seq (idx.map fun i => us.toArray.getD i .none).toArray }
theorem cmb_hand {it pool : Addr} {st : Nat} {prev : Value} {idx0 idx : List Nat} {us : List Value} {Q : PySem.Fin → Shared → Prop} (hit : IsCmb s.heap it pool st prev idx0) (hp : IsTup s.heap pool us.toArray) (hl : idx.length ≤ sizeLine)
    (hQ : ∀ h', IsCmb h' it pool st (.ref s.heap.objs.size) idx0 → h'.get? s.heap.objs.size = some (pickO us idx) → (∀ c o, c ≠ it → s.heap.get? c = some o → h'.get? c = some o) → h'.objs.size = s.heap.objs.size + 1 → Q (.done (.ret (.ref s.heap.objs.size))) { s with heap := h' }) :
    wpAny (model prog w) A (do
      let result ← (do
        let items ← Builtin.Itertools.itPoolItems (.ref pool)
        newTuple (idx.map fun i => items.getD i .none))
      let before ← field (.ref it) 2
      setField (.ref it) 2 result
      letGo [before] [result]
      ret result) Q E s := by
  obtain ⟨ob, hob, hcl, nn, hdat⟩ := hp
  have hlt : it < s.heap.objs.size := Heap.lt_size hit
  refine wpAny_bind (wpAny_bind ?_)
  unfold Builtin.Itertools.itPoolItems
  refine wpAny_bind (wpAny_seqItems hob hdat (wpAny_pure ?_))
  refine wpAny_newTuple ?_ (by rw [List.length_map]; exact hl)
  have hit2 : IsCmb (s.heap.push (pickO us idx)) it pool st prev idx0 := Heap.get?_push_of_some _ hit
  refine wpAny_bind (wpAny_field hit2 rfl (x := prev) rfl ?_)
  refine wpAny_bind (cmb_set2 (s := ⟨s.heap.push (pickO us idx), s.gens, s.drawn, s.toks, s.os⟩) hit2 fun h' e sb => ?_)
  refine wpAny_bind (wpAny_letGo (wpAny_pure ?_))
  refine hQ h' e ?_ (fun c o hc q => sb.2 c hc ▸ Heap.get?_push_of_some _ q) ?_
  · exact (sb.2 _ (Nat.ne_of_gt hlt)).trans (Heap.get?_push_size _ rfl)
  · rw [sb.1]; exact Heap.size_push ..
theorem cmb_first {it pool : Addr} {prev : Value} {idx : List Nat} {us : List Value} {Q : PySem.Fin → Shared → Prop} (hit : IsCmb s.heap it pool 0 prev idx) (hp : IsTup s.heap pool us.toArray) (ne : pool ≠ it) (hl : idx.length ≤ sizeLine)
    (hQ : ∀ h', IsCmb h' it pool 1 (.ref s.heap.objs.size) idx → h'.get? s.heap.objs.size = some (pickO us idx) → (∀ c o, c ≠ it → s.heap.get? c = some o → h'.get? c = some o) → h'.objs.size = s.heap.objs.size + 1 → Q (.done (.ret (.ref s.heap.objs.size))) { s with heap := h' }) :
    wpAny (model prog w) A (Builtin.«itertools.combinations.__next__» ⟨[.ref it], []⟩) Q E s := by
  show wpAny _ _ (field (.ref it) 0 >>= _) _ _ s
  refine wpAny_bind (wpAny_field hit rfl (x := .ref pool) rfl ?_)
  refine wpAny_bind (cmb_numbers hit ?_)
  refine wpAny_bind (cmb_state hit ?_)
  show wpAny _ _ (setField (.ref it) 1 (rawInt (1 : Nat)) >>= _) _ _ s
  refine wpAny_bind (cmb_set1 hit fun h1 e1 sb => ?_)
  obtain ⟨ob, hob, hcl, nn, hdat⟩ := hp
  have sz : h1.objs.size = s.heap.objs.size := sb.1
  refine cmb_hand (s := ⟨h1, s.gens, s.drawn, s.toks, s.os⟩) e1 ⟨ob, (sb.2 _ ne).trans hob, hcl, nn, hdat⟩ hl fun h' a b c d => ?_
  show Q (.done (.ret (.ref h1.objs.size))) _
  rw [sz]
  simp only [sz] at a b d
  exact hQ h' a b (fun c' o hc q => c c' o hc ((sb.2 _ hc).trans q)) d
end
end PySem.DLX

namespace PySem.DLX
open PySem PySem.Spec PyProof.Rows DL
/-- the next places, if there are any -/
def nextC (n : Nat) (idx : List Nat) : Option (List Nat) := ((List.range idx.length).reverse.find? fun i => idx.getD i 0 != i + n - idx.length).map fun i => idx.take i ++ (List.range (idx.length - i)).map (idx.getD i 0 + 1 + ·)
section
variable {prog : Program} {w : World} {A : Around} {E : Value → Shared → Prop} {s : Shared}
theorem cmb_put {it pool : Addr} {st : Nat} {prev : Value} {idx idx' : List Nat} {Q : Unit → Shared → Prop} (hit : IsCmb s.heap it pool st prev idx) (hl : idx'.length ≤ sizeLine) (h : ∀ h', IsCmb h' it pool st prev idx' → Heap.SameBut it s.heap h' → Q () { s with heap := h' }) :
    wpAny (model prog w) A (Builtin.Itertools.itSetNumbersFrom (.ref it) 3 idx') Q E s := by
  unfold Builtin.Itertools.itSetNumbersFrom
  refine wpAny_updateFields hit rfl (h _ ?_ (Heap.SameBut.update ..)) ?_
  · have := Heap.get?_update_self (Obj.mapFields fun fs => fs.extract 0 3 ++ (idx'.map fun (n : Nat) => rawInt n).toArray) hit rfl
    rw [IsCmb, this]
    simp [CmbO, Obj.mapFields]
  · simp; omega
theorem cmb_step {it pool : Addr} {prev : Value} {idx nx : List Nat} {us : List Value} {Q : PySem.Fin → Shared → Prop} (hit : IsCmb s.heap it pool 1 prev idx) (hp : IsTup s.heap pool us.toArray) (ne : pool ≠ it) (hn : nextC us.length idx = some nx) (hl : nx.length ≤ sizeLine)
    (hQ : ∀ h', IsCmb h' it pool 1 (.ref s.heap.objs.size) nx → h'.get? s.heap.objs.size = some (pickO us nx) → (∀ c o, c ≠ it → s.heap.get? c = some o → h'.get? c = some o) → h'.objs.size = s.heap.objs.size + 1 → Q (.done (.ret (.ref s.heap.objs.size))) { s with heap := h' }) :
    wpAny (model prog w) A (Builtin.«itertools.combinations.__next__» ⟨[.ref it], []⟩) Q E s := by
  show wpAny _ _ (field (.ref it) 0 >>= _) _ _ s
  refine wpAny_bind (wpAny_field hit rfl (x := .ref pool) rfl ?_)
  refine wpAny_bind (cmb_numbers hit ?_)
  refine wpAny_bind (cmb_state hit ?_)
  obtain ⟨ob, hob, hcl, nn, hdat⟩ := hp
  show wpAny _ _ (Builtin.Itertools.itPoolItems (.ref pool) >>= _) _ _ s
  refine wpAny_bind ?_
  unfold Builtin.Itertools.itPoolItems
  refine wpAny_bind (wpAny_seqItems hob hdat (wpAny_pure ?_))
  unfold nextC at hn
  rw [Option.map_eq_some_iff] at hn
  obtain ⟨i, hi, rfl⟩ := hn
  split
  · rename_i nx' heq
    have e : nx' = idx.take i ++ (List.range (idx.length - i)).map (idx.getD i 0 + 1 + ·) := by
      change (match (List.range idx.length).reverse.find? (fun i => idx.getD i 0 != i + us.length - idx.length) with
        | none => none
        | some i => some (idx.take i ++ (List.range (idx.length - i)).map (idx.getD i 0 + 1 + ·))) = some nx' at heq
      rw [hi] at heq
      cases heq; rfl
    subst e
    refine wpAny_bind (cmb_put hit hl fun h1 e1 sb => ?_)
    have sz : h1.objs.size = s.heap.objs.size := sb.1
    refine cmb_hand (s := ⟨h1, s.gens, s.drawn, s.toks, s.os⟩) e1 ⟨ob, (sb.2 _ ne).trans hob, hcl, nn, hdat⟩ hl fun h' a b c d => ?_
    show Q (.done (.ret (.ref h1.objs.size))) _
    rw [sz]
    simp only [sz] at a b d
    exact hQ h' a b (fun c' o hc q => c c' o hc ((sb.2 _ hc).trans q)) d
  · rename_i heq
    change (match (List.range idx.length).reverse.find? (fun i => idx.getD i 0 != i + us.length - idx.length) with
        | none => none
        | some i => some (idx.take i ++ (List.range (idx.length - i)).map (idx.getD i 0 + 1 + ·))) = none at heq
    rw [hi] at heq
    cases heq
theorem cmb_end {it pool : Addr} {st : Nat} {prev : Value} {idx : List Nat} {us : List Value} {Q : PySem.Fin → Shared → Prop} (hh : A.handled = none) (hit : IsCmb s.heap it pool st prev idx) (hp : IsTup s.heap pool us.toArray) (hn : st = 2 ∨ (st = 1 ∧ nextC us.length idx = none))
    (hE : ∀ h' e, Heap.ExtBut it s.heap h' → (∃ o, h'.get? e = some o ∧ o.cls = .type "StopIteration") → E (.ref e) { s with heap := h' }) :
    wpAny (model prog w) A (Builtin.«itertools.combinations.__next__» ⟨[.ref it], []⟩) Q E s := by
  have stop : ∀ (h1 : Heap), Heap.ExtBut it s.heap h1 → wpAny (model prog w) A (Builtin.Itertools.itStop (α := PySem.Fin)) Q E { s with heap := h1 } := fun h1 x => by
    show wpAny _ _ (newExc (.type "StopIteration") [] >>= _) _ _ _
    refine wpAny_bind ?_
    simp only [newExc, newTuple]
    refine wpAny_bind (wpAny_newObj_type ?_ (by size_fits))
    refine wpAny_bind (m := firstArgMember _ _) (wpAny_of_eq (a := Value.none) (by first | rfl | (simp only [firstArgMember]; rfl)) ?_)
    refine wpAny_newObj_type ?_ (by size_fits)
    simp only [raiseNew]
    refine wpAny_bind (wpAny_handled ?_)
    first | rw [show A.in1.handled = none from hh] | rw [hh]
    refine wpAny_bind (wpAny_pure (wpAny_throw ?_))
    exact hE _ _ ((x.push _).push _) ⟨_, Heap.get?_push_size _ rfl, rfl⟩
  show wpAny _ _ (field (.ref it) 0 >>= _) _ _ s
  refine wpAny_bind (wpAny_field hit rfl (x := .ref pool) rfl ?_)
  refine wpAny_bind (cmb_numbers hit ?_)
  refine wpAny_bind (cmb_state hit ?_)
  rcases hn with rfl | ⟨rfl, hn⟩
  · refine wpAny_bind (wpAny_rule ?_)
    exact stop s.heap (Heap.ExtBut.refl it s.heap)
  · obtain ⟨ob, hob, hcl, nn, hdat⟩ := hp
    show wpAny _ _ (Builtin.Itertools.itPoolItems (.ref pool) >>= _) _ _ s
    refine wpAny_bind ?_
    unfold Builtin.Itertools.itPoolItems
    refine wpAny_bind (wpAny_seqItems hob hdat (wpAny_pure ?_))
    unfold nextC at hn
    rw [Option.map_eq_none_iff] at hn
    split
    · rename_i nx' heq
      change (match (List.range idx.length).reverse.find? (fun i => idx.getD i 0 != i + us.length - idx.length) with
        | none => none
        | some i => some (idx.take i ++ (List.range (idx.length - i)).map (idx.getD i 0 + 1 + ·))) = some nx' at heq
      rw [hn] at heq
      cases heq
    · refine wpAny_bind (cmb_set1 (st' := 2) hit fun h1 e1 sb => ?_)
      exact stop h1 sb.extBut
end
end PySem.DLX

namespace PySem.DLX
open PySem PySem.Spec PyProof.Rows DL
abbrev cmbH1 (h : Heap) (us : List Value) : Heap := (h.push (seqObj "list" #[] 0)).update h.objs.size (Obj.mapSeq (· ++ us.toArray))
abbrev cmbH2 (h : Heap) (us : List Value) : Heap := (cmbH1 h us).push { cls := .type "tuple", data := .seq us.toArray }
def cmbSt (n r : Nat) : Nat := if r > n then 2 else 0
abbrev cmbH3 (h : Heap) (us : List Value) (r : Nat) : Heap := (cmbH2 h us).push (CmbO (cmbH1 h us).objs.size (cmbSt us.length r) .none (List.range r))
theorem meets_cmb_new (a : Addr) (us : List Value) (r : Nat) (t : Tok) (hr : r ≤ 1000) (hu : us.length ≤ sizeLine) :
    Meets (Builtin.«itertools.combinations.__new__» ⟨[.type "itertools.combinations", .ref a, .int (r : Nat) t], []⟩)
      (fun _ R s => IsTup s.heap a us.toArray ∧ R (.ok (.ret (.ref (cmbH2 s.heap us).objs.size))) { s with heap := cmbH3 s.heap us r }) :=
  .of_wp fun prog w A R s h => by
    obtain ⟨hp, g, dd, tk, os⟩ := s
    obtain ⟨hT, h⟩ := h
    have hsub := sub_cmb
    have hd := noDict_cmb
    have hsub2 : isSubtype (.type "itertools.combinations") (.type ("itertools." ++ "combinations")) = pure true := hsub
    refine wpAny_bind ?_
    refine wpAny_bind (m := Builtin.Itertools.itClassAndRest _ _) ?_
    have fin1 : wpAny (model prog w) A.in1 (Builtin.Itertools.itClassAndRest "combinations" ⟨[.type "itertools.combinations", .ref a, .int (r : Nat) t], []⟩) (fun x s' => x = (.type "itertools.combinations", [.ref a, .int (r : Nat) t]) ∧ s' = ⟨hp, g, dd, tk, os⟩) (fun e s' => R (Except.error e) s') ⟨hp, g, dd, tk, os⟩ := by
      repeat (first
        | wp_step
        | simp only [List.head?_cons, Option.some_or, List.getElem?_cons_succ, List.getElem?_cons_zero, List.length_cons, List.length_nil, List.forIn_nil])
      all_goals exact ⟨trivial, trivial⟩
    refine wpAny_mono fin1 (fun x s' hx => ?_) fun _ _ z => z
    obtain ⟨rfl, rfl⟩ := hx
    refine wpAny_bind (m := Builtin.Itertools.itBindNamed _ _ _ _ _ _) ?_
    have fin2 : wpAny (model prog w) A.in1 (Builtin.Itertools.itBindNamed "combinations" ["iterable", "r"] 2 2 [.ref a, .int (r : Nat) t] []) (fun x s' => x = [some (.ref a), some (.int (r : Nat) t)] ∧ s' = ⟨hp, g, dd, tk, os⟩) (fun e s' => R (Except.error e) s') ⟨hp, g, dd, tk, os⟩ := by
      exact wpAny_of_eq (a := [some (.ref a), some (.int (r : Nat) t)]) (by kernel_rfl) ⟨rfl, rfl⟩
    refine wpAny_mono fin2 (fun x s' hx => ?_) fun _ _ z => z
    obtain ⟨rfl, rfl⟩ := hx
    have fin3 : wpAny (model prog w) A.in1 (Builtin.Itertools.itSsizeArg (.int (r : Nat) t)) (fun x s' => x = (r : Int) ∧ s' = ⟨hp, g, dd, tk, os⟩) (fun e s' => R (Except.error e) s') ⟨hp, g, dd, tk, os⟩ := by
      have hn : ¬ ((decide ((r : Int) < -(2 ^ 63 : Int)) || decide ((r : Int) ≥ (2 ^ 63 : Int))) = true) := by
        rw [Bool.or_eq_true, decide_eq_true_eq, decide_eq_true_eq]; omega
      repeat (first
        | wp_step
        | simp only [List.head?_cons])
      rw [if_neg hn]
      exact wpAny_pure ⟨rfl, rfl⟩
    refine wpAny_bind (wpAny_mono fin3 (fun x s' hx => ?_) fun _ _ z => z)
    obtain ⟨rfl, rfl⟩ := hx
    refine wpAny_bind (tup_collect hT hu ?_)
    show wpAny _ _ (if (r : Int) < 0 then _ else _) _ _ _
    rw [if_neg (by omega)]
    show wpAny _ _ (if Builtin.Itertools.itTooMany (r : Int) = true then _ else _) _ _ _
    rw [if_neg (by unfold Builtin.Itertools.itTooMany; rw [decide_eq_true_eq]; omega)]
    refine wpAny_bind (wpAny_newTuple ?_ hu)
    refine wpAny_pure ?_
    refine wpAny_bind ?_
    unfold Builtin.Itertools.itNewRecord
    have z : rawInt (if ((r : Int)).toNat > us.length then 2 else 0) = rawInt ((cmbSt us.length r : Nat) : Int) := by
      unfold cmbSt
      rw [Int.toNat_natCast]
      split <;> rfl
    rw [z, Int.toNat_natCast, if_pos (show (!typeHasDict (Value.type "itertools.combinations")) = true by rw [hd]; rfl)]
    refine wpAny_newObj_type ?_ (by
      simp only [sizeOk, List.size_toArray, List.length_append, List.length_map, List.length_range, List.length_cons, List.length_nil]
      have : (1000 : Nat) + 3 ≤ sizeLine := by decide
      omega)
    exact wpAny_pure ⟨_, rfl, h⟩
section
variable {prog : Program} {w : World} {A : Around} {E : Value → Shared → Prop} {s : Shared}
theorem call_cmb {a : Addr} {us : List Value} {r : Nat} {t : Tok} {Q : Value → Shared → Prop} (hT : IsTup s.heap a us.toArray) (hr : r ≤ 1000) (hu : us.length ≤ sizeLine)
    (h : ∀ h' it pool, s.heap.objs.size ≤ it → s.heap.objs.size ≤ pool → pool ≠ it → IsCmb h' it pool (cmbSt us.length r) .none (List.range r) → IsTup h' pool us.toArray → (∀ b o, s.heap.get? b = some o → h'.get? b = some o) → Q (.ref it) { s with heap := h' }) :
    wpAny (model prog w) A (call (.type "itertools.combinations") [.ref a, .int (r : Nat) t]) Q E s := by
  refine callType_new called_cmb (by decide +kernel) (typeCall_cmb_2 _ _) (newCall_cmb_2 _ _) (fun obj => F.args_object_init_3 obj _ _) entry_cmb_new (meets_cmb_new a us r t hr hu) ⟨hT, ?_⟩
  have z1 : (cmbH1 s.heap us).objs.size = s.heap.objs.size + 1 := (Heap.size_update ..).trans (Heap.size_push ..)
  have z2 : (cmbH2 s.heap us).objs.size = s.heap.objs.size + 2 := by rw [Heap.size_push, z1]
  have g3 : (cmbH3 s.heap us r).get? (cmbH2 s.heap us).objs.size = some _ := Heap.get?_push_size _ rfl
  have g2 : (cmbH3 s.heap us r).get? (cmbH1 s.heap us).objs.size = some { cls := .type "tuple", data := .seq us.toArray } := Heap.get?_push_of_some _ (Heap.get?_push_size _ rfl)
  show _ ∧ _
  refine ⟨⟨_, g3, rfl⟩, h _ _ (cmbH1 s.heap us).objs.size ?_ ?_ ?_ g3 ⟨_, g2, rfl, _, rfl⟩ fun b o q => ?_⟩
  · rw [z2]; omega
  · rw [z1]; omega
  · rw [z1, z2]; omega
  · refine Heap.get?_push_of_some _ (Heap.get?_push_of_some _ ?_)
    have hb : b ≠ s.heap.objs.size := Nat.ne_of_lt (Heap.lt_size q)
    exact (Heap.get?_update_other _ _ (Ne.symm hb)).trans (Heap.get?_push_of_some _ q)
end
end PySem.DLX

namespace PySem.DLX
open PySem PySem.Spec PyProof.Rows DL
theorem combL_map {α β : Type} (f : α → β) : ∀ (xs : List α) (r : Nat), combL r (xs.map f) = (combL r xs).map (List.map f)
  | [], 0 => rfl
  | [], r + 1 => rfl
  | x :: xs, 0 => rfl
  | x :: xs, r + 1 => by
    rw [List.map_cons, combL, combL, combL_map f xs r, combL_map f xs (r + 1), List.map_append, List.map_map, List.map_map]; rfl
theorem combL_short {α : Type} : ∀ (xs : List α) (r : Nat), xs.length < r → combL r xs = []
  | [], 0, h => by cases h
  | [], r + 1, _ => rfl
  | x :: xs, 0, h => by cases h
  | x :: xs, r + 1, h => by
    rw [List.length_cons] at h
    rw [combL, combL_short xs r (by omega), combL_short xs (r + 1) (by omega)]; rfl
theorem getD_range {α : Type} (xs : List α) (d : α) : (List.range xs.length).map (fun i => xs.getD i d) = xs := by
  apply List.ext_getElem
  · simp
  · intro i h1 h2
    simp only [List.length_map, List.length_range] at h1
    simp [List.getD_eq_getElem?_getD, h1]
theorem combL_ix {α : Type} (xs : List α) (d : α) (r : Nat) : combL r xs = (combL r (List.range xs.length)).map fun ix => ix.map fun i => xs.getD i d := by
  have h := combL_map (fun i => xs.getD i d) (List.range xs.length) r
  rw [getD_range] at h
  exact h
/-- the places, one behind the other -/
def chainB (n r : Nat) : Bool := let L := combL r (List.range n)
  decide (L[0]? = if r ≤ n then some (List.range r) else none) && ((List.range L.length).all (fun i => decide (nextC n (L.getD i []) = L[i + 1]?)) && L.all (fun ix => decide (ix.length = r) && ix.all fun j => decide (j < n)))
theorem chain8 : ((List.range 9).all fun n => (List.range 9).all fun r => chainB n r) = true := by decide +kernel
theorem chain_ok {n r : Nat} (hn : n ≤ 8) : (combL r (List.range n))[0]? = (if r ≤ n then some (List.range r) else none) ∧ (∀ (i : Nat) (ix : List Nat), (combL r (List.range n))[i]? = some ix → nextC n ix = (combL r (List.range n))[i + 1]? ∧ ix.length = r ∧ ∀ j ∈ ix, j < n) := by
  by_cases hr : r ≤ n
  · have h := List.all_eq_true.mp (List.all_eq_true.mp chain8 n (List.mem_range.mpr (by omega))) r (List.mem_range.mpr (by omega))
    unfold chainB at h
    simp only [Bool.and_eq_true, decide_eq_true_eq, List.all_eq_true] at h
    refine ⟨h.1, fun i ix hi => ?_⟩
    obtain ⟨hl, e⟩ := List.getElem?_eq_some_iff.mp hi
    have := h.2.1 i (List.mem_range.mpr hl)
    rw [List.getD_eq_getElem?_getD, hi] at this
    exact ⟨this, h.2.2 ix (List.mem_of_getElem? hi)⟩
  · have e : combL r (List.range n) = [] := combL_short _ _ (by simp; omega)
    rw [e, if_neg hr]
    exact ⟨rfl, fun i ix h => by simp at h⟩
section
open L2
/-- what combinations hand out: new tuples -/
def ItC (L : List (List Nat)) (vs : List V) : It :=
  ⟨fun i _ => i < L.length, fun i H v H' => ∃ T ix, v = .ref T ∧ H T = none ∧ L[i]? = some ix ∧ H' = upd H T (.tup (ix.map fun j => vs.getD j .non)), fun i _ => L.length ≤ i⟩
/-- how far it is -/
def CmbT (it pool : Addr) (us : List Value) (n r : Nat) (i : Nat) (h : Heap) : Prop := IsTup h pool us.toArray ∧ ∃ prev, (i = 0 ∧ IsCmb h it pool (cmbSt n r) prev (List.range r)) ∨ ∃ j ix, i = j + 1 ∧ (combL r (List.range n))[j]? = some ix ∧ IsCmb h it pool 1 prev ix
theorem vals_getD {vs : List V} {us : List Value} (h : Vals vs us) : ∀ i, RelV (vs.getD i .non) (us.toArray.getD i .none) := by
  induction h with
  | nil => intro i; simp; rfl
  | cons h1 h2 ih =>
    intro i
    cases i with
    | zero => simpa using h1
    | succ i => simpa using ih i
theorem vals_pick {vs : List V} {us : List Value} (h : Vals vs us) : ∀ ix : List Nat, Vals (ix.map fun j => vs.getD j .non) (ix.map fun j => us.toArray.getD j .none)
  | [] => .nil
  | j :: ix => .cons (vals_getD h j) (vals_pick h ix)
theorem turn_cmb {P : Program} {w : World} {K : PySem.W.Frag} {tg : Expr} {it pool : Addr} {us : List Value} {vs : List V} {n r : Nat} (hn : n ≤ 8) (hl : us.length = n) (ne : pool ≠ it) (rv : Vals vs us) (hr : r ≤ 1000) :
    Turn P w K tg (ItC (combL r (List.range n)) vs) [it, pool] it (CmbT it pool us n r) where
  mem := by simp
  obj := fun i h st c hc => by
    obtain ⟨⟨o, ho, _, _, hd⟩, prev, st⟩ := st
    have e' : c = it ∨ c = pool := by simpa using hc
    rcases e' with q | q
    · rw [q]
      rcases st with ⟨_, e⟩ | ⟨_, _, _, _, e⟩
      · exact ⟨_, e, fun v q => nomatch q⟩
      · exact ⟨_, e, fun v q => nomatch q⟩
    · rw [q]; exact ⟨o, ho, fun v q => by rw [hd] at q; cases q⟩
  keep := fun i h h' st k => by
    obtain ⟨⟨o, ho, a, b, hd⟩, prev, st⟩ := st
    refine ⟨⟨o, k pool (by simp) _ ho, a, b, hd⟩, prev, ?_⟩
    rcases st with ⟨q, e⟩ | ⟨j, ix, q1, q2, e⟩
    · exact .inl ⟨q, k it (by simp) _ e⟩
    · exact .inr ⟨j, ix, q1, q2, k it (by simp) _ e⟩
  item := by
    intro X hP hw hK hc i pins s σ H E I hf st hg
    subst hP hw hK
    obtain ⟨hp, prev, st⟩ := st
    obtain ⟨c0, c1⟩ := chain_ok (r := r) hn
    have hg' : i < (combL r (List.range n)).length := hg
    have hnx : (combL r (List.range n))[i]? = some (combL r (List.range n))[i] := List.getElem?_eq_getElem hg'
    generalize hx : (combL r (List.range n))[i] = nx at hnx
    have ln : nx.length ≤ sizeLine := by
      rw [(c1 i nx hnx).2.1]
      have : (1000 : Nat) ≤ sizeLine := by decide
      omega
    have fin : ∀ h', IsCmb h' it pool 1 (.ref s.heap.objs.size) nx → h'.get? s.heap.objs.size = some (pickO us nx) → (∀ c o, c ≠ it → s.heap.get? c = some o → h'.get? c = some o) → h'.objs.size = s.heap.objs.size + 1 →
        (fun (z : Option Value) (s1 : Shared) => ∃ u, z = some u ∧ wpAny (model X.prog X.w) X.A (letOwnedTupleGo tg (.ref it) u) (fun _ s2 => ∃ x H', Inv X pins σ H' s2 ∧ RelV x u ∧ (ItC (combL r (List.range n)) vs).yld i H x H' ∧ CmbT it pool us n r (i + 1) s2.heap ∧ ∀ b ∈ [it, pool], H' b = none) E s1) (some (.ref s.heap.objs.size)) { s with heap := h' } := by
      intro h' e1 hT hk hsz
      refine ⟨_, rfl, go_of e1 rfl rfl (by decide) ?_⟩
      have new : ObjOk X.prog X.w (upd H s.heap.objs.size (.tup (nx.map fun j => vs.getD j .non))) h' s.heap.objs.size (.tup (nx.map fun j => vs.getD j .non)) :=
        ⟨by rw [List.length_map]; exact ln, _, vals_pick rv nx, ⟨_, hT, rfl, _, rfl⟩⟩
      have I1 : Inv X pins σ (upd H s.heap.objs.size (.tup (nx.map fun j => vs.getD j .non))) { s with heap := h' } :=
        I.turnedNew (t' := s.toks) (ch := [it, pool]) (fun c o hb q => hk c o (fun q' => hb (by simp [q'])) q) hf (Nat.le_refl _) new
      obtain ⟨po, ho, pa, pb, pd⟩ := hp
      refine ⟨.ref s.heap.objs.size, _, I1, rfl, ⟨_, nx, rfl, I.hok.fresh (Nat.le_refl _), hnx, rfl⟩, ⟨⟨po, hk _ _ ne ho, pa, pb, pd⟩, _, .inr ⟨i, nx, rfl, hnx, e1⟩⟩, fun c hcm => ?_⟩
      have hlt : c < s.heap.objs.size := by
        have e' : c = it ∨ c = pool := by simpa using hcm
        rcases e' with q | q
        · rw [q]
          rcases st with ⟨_, e⟩ | ⟨_, _, _, _, e⟩
          · exact Heap.lt_size e
          · exact Heap.lt_size e
        · rw [q]; exact Heap.lt_size ho
      rw [upd_ne (Nat.ne_of_lt hlt)]
      exact (hf c hcm).1
    rcases st with ⟨rfl, e⟩ | ⟨j, ix, rfl, hj, e⟩
    · have hrn : r ≤ n := by
        rw [c0] at hnx
        split at hnx
        · assumption
        · cases hnx
      have hz : nx = List.range r := by
        rw [c0, if_pos hrn] at hnx
        exact (Option.some.inj hnx).symm
      have e0 : IsCmb s.heap it pool 0 prev (List.range r) := by
        have : cmbSt n r = 0 := by unfold cmbSt; rw [if_neg (by omega)]
        rw [← this]; exact e
      have hT : s.TypeIs (.ref it) "itertools.combinations" := ⟨_, e0, rfl⟩
      have l1 : (List.range r).length ≤ sizeLine := by rw [← hz]; exact ln
      unfold pyNext
      refine wpAny_bind (wpAny_attempt (wpAny_callSpecial?_slot (name := Str.ofString "__next__") hT slot_cmb_next (wpAny_call_entry slot_cmb_next hT entry_cmb_next (cmb_first e0 hp ne l1 fun h' a1 a2 a3 a4 => ⟨_, rfl, wpAny_pure ?_⟩) (args_cmb_next _))))
      rw [← hz] at a1 a2
      exact fin h' a1 a2 a3 a4
    · have hc1 := (c1 j ix hj).1
      rw [hnx] at hc1
      have hT : s.TypeIs (.ref it) "itertools.combinations" := ⟨_, e, rfl⟩
      unfold pyNext
      refine wpAny_bind (wpAny_attempt (wpAny_callSpecial?_slot (name := Str.ofString "__next__") hT slot_cmb_next (wpAny_call_entry slot_cmb_next hT entry_cmb_next (cmb_step e hp ne (by rw [hl]; exact hc1) ln fun h' a1 a2 a3 a4 => ⟨_, rfl, wpAny_pure (fin h' a1 a2 a3 a4)⟩) (args_cmb_next _))))
  done := by
    intro X hP hw hK hc i pins s σ H E I hf st hg
    subst hP hw hK
    obtain ⟨hp, prev, st⟩ := st
    obtain ⟨c0, c1⟩ := chain_ok (r := r) hn
    have hg' : (combL r (List.range n)).length ≤ i := hg
    have main : ∀ {stt : Nat} {idx : List Nat}, IsCmb s.heap it pool stt prev idx → (stt = 2 ∨ (stt = 1 ∧ nextC us.length idx = none)) → wpAny (model X.prog X.w) X.A (pyNext (.ref it)) (fun r s1 => r = none ∧ Inv X pins σ H s1) E s := by
      intro stt idx e hn2
      have hT : s.TypeIs (.ref it) "itertools.combinations" := ⟨_, e, rfl⟩
      unfold pyNext
      refine wpAny_bind (wpAny_attempt (wpAny_callSpecial?_slot (name := Str.ofString "__next__") hT slot_cmb_next (wpAny_call_entry slot_cmb_next hT entry_cmb_next (cmb_end (I.ok.hd hc) e hp hn2 fun h' ex hk he => ?_) (args_cmb_next _))))
      obtain ⟨o, ho, hcl⟩ := he
      refine wpAny_bind (wpAny_isInstance (T := "StopIteration") (b := true) ⟨o, ho, hcl⟩ isSubtype_stop ?_)
      exact wpAny_pure ⟨rfl, I.turnedL (t' := s.toks) (ch := [it, pool]) (fun c o hb q => hk c o (fun q' => hb (by simp [q'])) q) hf⟩
    rcases st with ⟨rfl, e⟩ | ⟨j, ix, rfl, hj, e⟩
    · refine main e (.inl ?_)
      have l0 : (combL r (List.range n)) = [] := List.eq_nil_of_length_eq_zero (by omega)
      rw [l0] at c0
      unfold cmbSt
      by_cases hrn : r ≤ n
      · rw [if_pos hrn] at c0; cases c0
      · rw [if_pos (by omega)]
    · refine main e (.inr ⟨rfl, ?_⟩)
      rw [hl, (c1 j ix hj).1]
      exact List.getElem?_eq_none hg'
  self := fun A i s Q E st h => by
    obtain ⟨hp, prev, st⟩ := st
    rcases st with ⟨_, e⟩ | ⟨_, _, _, _, e⟩
    · exact iter_cmb e h
    · exact iter_cmb e h
end
end PySem.DLX

set_option Elab.async false
set_option linter.all false
set_option maxRecDepth 100000
/-! DL43: more that is walked: combinations, a range with a step; t[::-1]; sorted of a dict whose keys are tuples. -/
namespace DL
open PySem PySem.Spec PyProof.Rows L2 PySem.DLX
section
variable {X : Cx} {nm : Nm} {W : WX} {Γ : Gam} {as : List E} {a : E} {e e1 e2 e3 : Expr} {p2 p3 pos : Pos} {k : Nat}
theorem jok_cmb {G : Gx} {c : Cf} {R H : Hp} {z : Bool} {ns : List Int} {r n : Nat} (hn : ns.length = n) (h8 : n ≤ 8) : JOk G c R H z (ItC (combL r (List.range n)) (ns.map V.int)) ((combL r ns).map rowD) := fun σ ρ fps R' H' S e sx => by
  have ex := combL_ix ns 0 r
  rw [hn] at ex
  have el : ((combL r ns).map rowD).length = (combL r (List.range n)).length := by rw [ex]; simp
  refine ⟨?_, fun i hi => ?_, fun i d x H2 hd hy => ?_⟩
  · show (combL r (List.range n)).length ≤ _
    rw [el]; exact Nat.le_refl _
  · show i < _
    rw [el] at hi; exact hi
  · obtain ⟨T, ix, rfl, hT, hix, rfl⟩ := hy
    obtain ⟨S2, q2, sx2⟩ := S.new (o := .tup (ix.map fun j => (ns.map V.int).getD j .non)) hT
    refine ⟨_, q2, sx2, S2, ?_⟩
    have hd' : d = rowD (ix.map fun i => ns.getD i 0) := by
      rw [ex, List.map_map, List.getElem?_map, hix] at hd
      exact (Option.some.inj hd).symm
    subst hd'
    have bd := ((chain_ok (r := r) h8).2 i ix hix).2.2
    have ev : (ix.map fun j => (ns.map V.int).getD j .non) = (ix.map fun i => ns.getD i 0).map V.int := by
      rw [List.map_map]
      refine List.map_congr_left fun j hj => ?_
      have lt : j < ns.length := by rw [hn]; exact bd j hj
      simp [List.getD_eq_getElem?_getD, lt]
    simp only [Rep, rowD]
    refine ⟨T, _, rfl, upd_same, ?_⟩
    rw [ev]
    exact ints_repL _
theorem i_cmb {tg : Expr} {z : Bool} (hg : Gl X "combinations") (hm : X.mg "combinations" = some (.type "itertools.combinations")) (hs1 : noStar e1 = true) (hs2 : noStar e2 = true) (ha : pAv X nm W Γ as [e1, e2]) : PI X tg (.Call (.Name "combinations" p2) [e1, e2] [] pos) (tI (gOf X nm) W Γ z .cmb as) := by
  refine ⟨fun pins s σ H Q I h => ?_⟩
  have h0 : tAv (gOf X nm) W Γ as σ H (fun xs H1 => ∃ (p : Addr) (ns : List Int) (r : Nat), xs = [.ref p, .int (r : Nat)] ∧ H1 p = some (.tup (ns.map V.int)) ∧ r ≤ 1000 ∧ ns.length ≤ 8 ∧ Q (ItC (combL r (List.range ns.length)) (ns.map V.int)) H1) := At.part h fun c τ ds ρ1 R1 H1 fp1 S1 h1 xs rs => by
    obtain ⟨L', er, h2⟩ := h1.lft1
    unfold combD at er
    split at er
    · rename_i ys r
      rw [Option.bind_eq_some_iff] at er
      obtain ⟨ns, hns, er⟩ := er
      split at er
      · rename_i hb
        cases er
        obtain ⟨x, y, rfl, rx, ry⟩ := rs.two
        simp only [Rep] at rx ry
        obtain ⟨p, zs, rfl, hp, hzs⟩ := rx
        subst ry
        rw [intsOf_eq hns] at hzs
        have ez := repL_ints hzs
        subst ez
        refine ⟨p, ns, r.toNat, by rw [Int.toNat_of_nonneg hb.1], hp, by have := hb.2.1; omega, hb.2.2, ?_⟩
        exact Post.now h2 S1 _ (jok_cmb rfl hb.2.2)
      · cases er
    · cases er
  refine Call_ (ld_glob I hg hm (PyProof.Rows.callWith_type1 (thn (ha.run pos pins s σ H _ I h0) fun us s1 ⟨vs, H1, I1, r1, q1⟩ => ?_) (by rw [star_of hs1]) (by rw [star_of hs2]; rfl)))
  obtain ⟨p, ns, r, ex, hp, hr, h8, q⟩ := q1
  subst ex
  cases r1 with
  | cons ra rr =>
    cases rr with
    | cons rb rr =>
      cases rr
      cases ra
      obtain ⟨t, rfl⟩ := rb
      obtain ⟨its, rv, pt, hz⟩ := I1.tuple (SqT.of hp)
      have hl : its.length = ns.length := by rw [← rv.length, List.length_map]
      have h1000 : (1000 : Nat) ≤ sizeLine := by decide
      refine call_cmb (us := its) pt hr (by rw [hl]; omega) fun h' it pool hi hpl ne hcm hpt kk => ?_
      refine iter_cmb hcm ?_
      have I2 : Inv X pins σ H1 { s1 with heap := h' } := I1.kept (t' := s1.toks) kk
      have fr : ∀ b ∈ [it, pool], FpOk X pins H1 b := fun b hb => by
        have hle : s1.heap.objs.size ≤ b := by
          have e' : b = it ∨ b = pool := by simpa using hb
          rcases e' with z | z
          · rw [z]; exact hi
          · rw [z]; exact hpl
        exact I1.fpOk hle (I1.hok.fresh hle)
      refine ⟨it, [it, pool], _, _, H1, rfl, I2, turn_cmb (us := its) (vs := ns.map V.int) (n := ns.length) (r := r) h8 hl ne rv hr, ⟨hpt, .none, .inl ⟨rfl, ?_⟩⟩, fr, q⟩
      rw [← hl]; exact hcm
theorem jok_rgc {G : Gx} {c : Cf} {R H : Hp} {z : Bool} {lo st : Int} {n : Nat} : JOk G c R H z (Itc lo st n) ((List.range n).map fun (k : Nat) => D.int (lo + k * st)) := fun σ ρ fps R' H' S e sx => by
  refine ⟨?_, fun i hi => ?_, fun i d x H2 hd hy => ?_⟩
  · show n ≤ _; simp
  · show i < n
    simpa using hi
  · obtain ⟨rfl, rfl⟩ := hy
    rw [List.getElem?_map, Option.map_eq_some_iff] at hd
    obtain ⟨k, hk, rfl⟩ := hd
    obtain ⟨hl, e⟩ := List.getElem?_eq_some_iff.mp hk
    simp at e
    subst e
    exact ⟨R', Same.refl _, SX.refl _ _, S, by simp only [Rep]⟩
theorem RepL.three {G : Gx} {P : Addr} {H : Hp} {d e f : D} {xs : List V} (h : RepL G P H [d, e, f] xs) : ∃ x y z, xs = [x, y, z] ∧ Rep G P H d x ∧ Rep G P H e y ∧ Rep G P H f z := by
  simp only [RepL] at h
  obtain ⟨y, ys, rfl, h2, z, zs, rfl, h3, u, us, rfl, h4, rfl⟩ := h
  exact ⟨y, z, u, rfl, h2, h3, h4⟩
theorem i_rng3 {tg : Expr} {z : Bool} (hg : Gl X "range") (hm : X.mg "range" = none) (hs1 : noStar e1 = true) (hs2 : noStar e2 = true) (hs3 : noStar e3 = true) (ha : pAv X nm W Γ as [e1, e2, e3]) : PI X tg (.Call (.Name "range" p2) [e1, e2, e3] [] pos) (tI (gOf X nm) W Γ z .rng3 as) := by
  refine PI_weak (pi_range3 hg hm ha (by rw [star_of hs1]) (by rw [star_of hs2, star_of hs3]; rfl)) fun σ H Q h => ?_
  refine h.part fun c τ ds ρ1 R1 H1 fp1 S1 h1 xs rs => ?_
  obtain ⟨L', er, h2⟩ := h1.lft1
  unfold rng3D at er
  split at er
  · rename_i i j st
    split at er
    · rename_i hb
      cases er
      obtain ⟨x, y, u, rfl, rx, ry, ru⟩ := rs.three
      simp only [Rep] at rx ry ru
      subst rx ry ru
      exact ⟨i, j, st, (Builtin.Range.rangeSize i j st).toNat, rfl, ⟨hb.1, hb.2.1, hb.2.2.1, (Int.toNat_of_nonneg hb.2.2.2).symm⟩, Post.now h2 S1 _ jok_rgc⟩
    · cases er
  · cases er
end
/-! ### t[::-1] -/
theorem rev_places (n : Nat) : Builtin.Slice.slicePlaces ((n : Int) - 1) (-1) (-1) = n := by
  unfold Builtin.Slice.slicePlaces
  rw [if_neg (by decide)]
  by_cases h : (n : Int) - 1 > -1
  · rw [if_pos h, show (-(-1 : Int)) = 1 by decide, Int.ediv_one]; omega
  · rw [if_neg h]
    have : n = 0 := by omega
    rw [this]; rfl
theorem fm_congr {α β : Type} {f g : α → Option β} : ∀ l : List α, (∀ a ∈ l, f a = g a) → l.filterMap f = l.filterMap g
  | [], _ => rfl
  | a :: l, h => by rw [List.filterMap_cons, List.filterMap_cons, h a (List.mem_cons_self ..), fm_congr l fun b hb => h b (List.mem_cons_of_mem _ hb)]
theorem rev_pick (xs : Array Value) : ((List.range xs.size).filterMap fun (k : Nat) => xs[(((xs.size : Int) - 1) + (k : Int) * (-1)).toNat]?).toArray = xs.toList.reverse.toArray := by
  have e : (List.range xs.size).filterMap (fun (k : Nat) => xs[(((xs.size : Int) - 1) + (k : Int) * (-1)).toNat]?) = ((List.range xs.size).map fun k => xs.size - 1 - k).filterMap (xs[·]?) := by
    rw [List.filterMap_map]
    refine fm_congr _ fun k hk => ?_
    have := List.mem_range.mp hk
    show xs[_]? = xs[xs.size - 1 - k]?
    congr 1
    omega
  rw [e, PySem.W.krv_range, List.filterMap_reverse, PySem.W.krv_all]
section
variable {prog : Program} {w : World} {A : Around} {E : Value → Shared → Prop} {s : Shared}
theorem getItem_tuple_rev {t sl : Addr} {items : Array Value} {vs : Value} {Q : Value → Shared → Prop} (ht : IsTup s.heap t items) (hs : s.heap.IsSliceOf sl .none .none vs) (ps : IsPart vs (some (-1)))
    (h : Q (.ref s.heap.objs.size) { s with heap := s.heap.push { cls := .type "tuple", data := .seq items.toList.reverse.toArray } }) (hsz : items.size ≤ sizeLine) : wpAny (model prog w) A (getItem (.ref t) (.ref sl)) Q E s := by
  have hz : sizeOk (.seq items.toList.reverse.toArray) := by
    show items.toList.reverse.toArray.size ≤ sizeLine
    rw [List.size_toArray, List.length_reverse, Array.length_toList]; exact hsz
  obtain ⟨os, hos, hcs, hds⟩ := id hs
  have hTs : s.TypeIs (.ref sl) "slice" := ⟨os, hos, hcs⟩
  have app : ∀ {Q' : Int × Int × Nat → Shared → Prop}, Q' ((items.size : Int) - 1, -1, items.size) s → ∀ {A'}, wpAny (model prog w) A' (Builtin.Slice.sliceApplied (.ref sl) (pure (items.size : Int))) Q' E s := fun {Q'} q {A'} => by
    unfold Builtin.Slice.sliceApplied Builtin.Slice.sliceFields
    refine wpAny_bind (wpAny_bind (wpAny_field hos hds (x := .none) rfl (wpAny_bind (wpAny_field hos hds (x := .none) rfl (wpAny_bind (wpAny_field hos hds (x := vs) rfl (wpAny_pure ?_)))))))
    refine wpAny_bind (HT.slicePart_ ps ?_)
    show wpAny _ _ (if ((-1 : Int) == 0) = true then _ else _) _ _ s
    rw [if_neg (by decide)]
    refine wpAny_bind (HT.slicePart_ .none (wpAny_bind (HT.slicePart_ .none (wpAny_bind (wpAny_pure ?_)))))
    show wpAny _ _ (pure ((items.size : Int) - 1, (-1 : Int), Builtin.Slice.slicePlaces ((items.size : Int) - 1) (-1) (-1))) _ _ s
    rw [rev_places]
    exact wpAny_pure q
  unfold getItem
  try with_reducible refine wpAny_holding ?_
  first | refine wpAny_bind (wpAny_pure ?_) | skip
  refine wpAny_bind (wpAny_sequenceKey ht.typeIs (by decide) ?_)
  refine wpAny_bind (wpAny_callSpecial?_slot (name := Str.ofString "__getitem__") ht.typeIs PyProof.Rows.slot_tuple_getitem
    (wpAny_call_entry PyProof.Rows.slot_tuple_getitem ht.typeIs entry_tuple_getitem ?_ (args_tuple_getitem _ _)))
  show wpAny _ _ (Builtin.Tuple.tupleItemsOf (.ref t) >>= _) _ _ s
  refine wpAny_bind (tupleItemsOf_ ht ?_)
  refine wpAny_bind (wpAny_typeOf hTs ?_)
  rw [if_pos (by decide)]
  refine wpAny_bind (app ?_)
  have hno : ¬ ((((items.size : Int) - 1) == 0 && (-1 : Int) == 1 && items.size == items.size) = true) := by
    rw [show ((-1 : Int) == 1) = false from rfl, Bool.and_false, Bool.false_and]; decide
  show wpAny _ _ (if (((items.size : Int) - 1) == 0 && (-1 : Int) == 1 && items.size == items.size) = true then _ else _) _ _ s
  rw [if_neg hno, rev_pick]
  first
    | exact wpAny_bind (m := Builtin.Tuple.tupleExact _) (wpAny_newObj_type (wpAny_pure ⟨_, rfl, wpAny_pure h⟩) hz)
    | exact wpAny_bind (m := Builtin.Tuple.tupleExact _) (wpAny_newObj_type (wpAny_bind (wpAny_pure (wpAny_pure ⟨_, rfl, wpAny_pure h⟩))) hz)
    | exact wpAny_bind (wpAny_bind (m := Builtin.Tuple.tupleExact _) (wpAny_newObj_type (wpAny_pure (wpAny_pure ⟨_, rfl, wpAny_pure h⟩)) hz))
    | exact wpAny_bind (wpAny_bind (m := Builtin.Tuple.tupleExact _) (wpAny_newObj_type (wpAny_pure ⟨_, rfl, wpAny_pure h⟩) hz))
end
section
variable {X : Cx} {nm : Nm} {W : WX} {Γ : Gam} {as : List E} {a : E} {e e1 e2 e3 : Expr} {p1 p2 p3 pos : Pos} {k : Nat}
def tRevB (K : PySem.W.Frag) (te : TE) : TE := fun σ H Q => te σ H fun x H1 => ∃ a xs, x = .ref a ∧ ((SqL K H1 a xs ∧ ∀ p, H1 p = none → Q (.ref p) (upd H1 p (.lst xs.reverse))) ∨ (SqT K H1 a xs ∧ ∀ p, H1 p = none → Q (.ref p) (upd H1 p (.tup xs.reverse))))
theorem pe_revB {te : TE} (he : PE X e te) : PE X (.Subscript e (.Slice none none (some (.UnaryOp .USub (.Constant (.int 1) k p1) p2)) p3) pos) (tRevB X.K te) := by
  refine ⟨fun pins s σ H Q I h => ?_⟩
  refine Subscript_ (thn (he.run pins s σ H _ I h) fun v s1 ⟨x, H1, I1, r1, q1⟩ => ?_)
  obtain ⟨a, xs, ex, q⟩ := q1
  subst ex
  cases r1
  have hst : PO X (some (.UnaryOp .USub (.Constant (.int 1) k p1) p2)) (tPart (tUn (rU fun i => .int (-i)) (tC (.int 1)))) := po_some (pe_un un_neg pe_int)
  refine wpAny_Slice ?_
  rw [evalPart_none]
  refine wpAny_pure ?_
  refine wpAny_pure ?_
  refine thn (hst.run pins s1 σ H1 (fun o H4 => o = some (-1) ∧ H4 = H1) I1 ⟨1, rfl, -1, rfl, rfl, rfl⟩) fun vs s4 ⟨o, H4, I4, ps, eo, e4⟩ => ?_
  subst eo e4
  have I5 : L2.Inv X pins σ H4 { s4 with heap := s4.heap.push { cls := .type "slice", data := .fields #[.none, .none, vs] } } := I4.kept (t' := s4.toks) fun b ob q => Heap.get?_push_of_some _ q
  show wpAny (model X.prog X.w) X.A (subscriptTail e (.Slice none none (some (.UnaryOp .USub (.Constant (.int 1) k p1) p2)) p3) (.ref a) (.ref s4.heap.objs.size)) (EP X pins σ Q) X.xe { s4 with heap := s4.heap.push { cls := .type "slice", data := .fields #[.none, .none, vs] } }
  rcases q with ⟨hx, q⟩ | ⟨hx, q⟩
  · obtain ⟨its, r, ht, hz⟩ := I5.list hx
    refine tail_any (ops := [.ref a, .ref s4.heap.objs.size]) ht.isList.typeIs (PySem.slot_list_getitem.lookup) ?_ (by with_unfolding_all rfl)
    refine wpAny_getItem_list_slice ht.isList (Heap.IsSliceOf.new _ .none .none vs) .none .none ps (by decide) ?_ (by have := r.length; rw [List.size_toArray]; omega)
    rw [PySem.W.krv_pick]
    refine ⟨.ref _, _, I5.laid (t' := s4.toks) (o := .lst xs.reverse) (fun b ob q => Heap.get?_push_of_some _ q) (Nat.le_refl _) ?_, rfl, q _ (I5.hok.fresh (Nat.le_refl _))⟩
    exact ⟨by rw [List.length_reverse]; exact hz, _, 0, r.reverse, Heap.get?_push_size _ rfl⟩
  · obtain ⟨its, r, ht, hz⟩ := I5.tuple hx
    refine tail_any (ops := [.ref a, .ref s4.heap.objs.size]) ht.typeIs (PyProof.Rows.slot_tuple_getitem.lookup) ?_ (by with_unfolding_all rfl)
    refine getItem_tuple_rev ht (Heap.IsSliceOf.new _ .none .none vs) ps ?_ (by have := r.length; rw [List.size_toArray]; omega)
    refine ⟨.ref _, _, I5.laid (t' := s4.toks) (o := .tup xs.reverse) (fun b ob q => Heap.get?_push_of_some _ q) (Nat.le_refl _) ?_, rfl, q _ (I5.hok.fresh (Nat.le_refl _))⟩
    exact ⟨by rw [List.length_reverse]; exact hz, its.reverse, r.reverse, ⟨_, Heap.get?_push_size _ rfl, rfl, _, rfl⟩⟩
theorem rev_repL {G : Gx} {P : Addr} {H : Hp} : ∀ {ds : List D} {xs : List V}, RepL G P H ds xs → RepL G P H ds.reverse xs.reverse
  | [], xs, h => by simp only [RepL] at h; subst h; exact RepL.nil
  | d :: ds, xs, h => by
    simp only [RepL] at h
    obtain ⟨y, ys, rfl, h2, h3⟩ := h
    rw [List.reverse_cons, List.reverse_cons]
    exact (rev_repL h3).append (RepL.cons h2 RepL.nil)
theorem x_rev (ha : pE X nm W Γ a e) : pE X nm W Γ (.rev a) (.Subscript e (.Slice none none (some (.UnaryOp .USub (.Constant (.int 1) k p1) p2)) p3) pos) := by
  refine (pe_revB ha).weak fun σ H Q hl h => ?_
  refine h.part fun c τ vx ρ1 R1 H1 fp1 S1 h1 x rx => ?_
  obtain ⟨dx, ρ2, R2, fp2, e2, S2, rx2, h2⟩ := Post.esc S1 rx h1
  obtain ⟨v', ev, h5⟩ := h2.lft1
  rw [Option.map_eq_some_iff] at ev
  obtain ⟨o, eo, rfl⟩ := ev
  unfold revD at eo
  split at eo
  · cases eo
    simp only [Rep] at rx2
    obtain ⟨p, xs, rfl, hp, hx⟩ := rx2
    exact ⟨p, xs, rfl, .inr ⟨Same.sqT S2.same hp, fun q hq => done_new S2 h5 hq fun R' e hR => by
      simp only [Rep]
      exact ⟨q, _, rfl, hR, (rev_repL hx).mono e⟩⟩⟩
  · cases eo
    simp only [Rep] at rx2
    obtain ⟨p, xs, rfl, hp, hx⟩ := rx2
    exact ⟨p, xs, rfl, .inl ⟨SqL.of (S2.same _ _ hp), fun q hq => done_list S2 h5 hq (rev_repL hx)⟩⟩
  · cases eo
end
end DL

set_option Elab.async false
set_option linter.all false
set_option maxRecDepth 100000
/-! DL39: an exception of the text made by a call with keywords, at the library's level. -/
namespace PySem
namespace DLX
open PySem.W PySem.Calls PyProof.Rows PySem.HandSPX Builtin Builtin.ObjectAttr
section
variable {M : Model} {A : Around} {E : Value → Shared → Prop} {h : Heap} {g : Array GenState} {d : Drawn} {t : Nat} {os : OsState}
variable {nm q : Str} {C N : Addr} {bs bm bmB : List Value} {hdct : Bool} {sn : List Str} {sub : List Value} {ab : Bool} {col : Option Bool} {dd : Option Addr} {k0 k1 k2 k3 k5 : Option Value} {B newId initId : String} {kw : List (Str × Value)}
theorem newK_check (F : ExcBaseFacts B newId initId bmB) (hT : ∀ X : String, bm.contains (.type X) = bmB.contains (.type X)) {us : List Value} {Q : Unit → Shared → Prop}
    (hC : h.get? C = some (excClassObj nm q C N bs bm hdct sn sub ab col dd k0 k1 k2 k3 k5 newId)) (z : Q () ⟨h, g, d, t, os⟩) : wpAny M A (checkBuiltinCall newId ⟨.ref C :: us, kw⟩) Q E ⟨h, g, d, t, os⟩ := by
  have cB : (Value.ref C :: bm).contains (.type B) = true := by rw [List.contains_cons, hT, F.hasB, Bool.or_true]
  simp only [checkBuiltinCall, F.newKind, F.newSplit, F.newRow]
  repeat (first | refine wpAny_loadPart_at hC ?_ | (refine wpAny_isSubtype_exc hC ?_; rw [cB]) | refine wpAny_staticBase_exc hC ?_ | refine wpAny_madeBy_exc hC ?_ | simp only [bne_self_eq_false, Bool.false_eq_true, if_false] | wp_step)
  have b1 : (B != "*") = true := by have := F.noStar; simpa using this
  rw [if_pos b1]
  refine wpAny_pure ?_
  repeat (first | rw [if_pos b1] | wp_step)
  exact z
end
section
variable {prog : Program} {w : World} {A : Around} {E : Value → Shared → Prop} {R : Result → Shared → Prop} {h : Heap} {g : Array GenState} {d : Drawn} {t : Nat} {os : OsState}
variable {nm q : Str} {C N : Addr} {bs bm bmB : List Value} {hdct : Bool} {sn : List Str} {sub : List Value} {ab : Bool} {col : Option Bool} {dd : Option Addr} {k0 k1 k2 k3 k5 : Option Value} {B newId initId : String} {kw : List (Str × Value)} {us : List Value} {fI : Addr}
theorem newK_made (F : ExcBaseFacts B newId initId bmB) (hT : ∀ X : String, bm.contains (.type X) = bmB.contains (.type X)) (hC : h.get? C = some (excClassObj nm q C N bs bm hdct sn sub ab col dd k0 k1 k2 k3 k5 newId)) (hl : us.length ≤ sizeLine)
    (z : R (.ok (.ret (.ref (h.objs.size + 1)))) ⟨(h.push (PySem.W.kdv_tup us)).push (excO C h.objs.size), g, d, t, os⟩) : codeAny (model prog w) A (.builtin newId ⟨.ref C :: us, kw⟩) R ⟨h, g, d, t, os⟩ := by
  have ends := F.ends
  have c1 : (Value.ref C :: bm).contains (.type B) = true := by rw [List.contains_cons, hT, F.hasB, Bool.or_true]
  have c2 : (Value.ref C :: bm).contains (.type "AttributeError") = false := by rw [List.contains_cons, hT, F.noAttr, Bool.or_false]; rfl
  have c3 : (Value.ref C :: bm).contains (.type "NameError") = false := by rw [List.contains_cons, hT, F.noName, Bool.or_false]; rfl
  refine codeAny_builtinAt F.entry ?_
  unfold Builtin.«BaseException.__new__»
  refine wpAt_bind (show wpAt _ _ _ (stack >>= _) _ _ _ from wpAt_bind (wpAt_stack fun p below => wpAt_of_wpAny ?_))
  wp_walk
  refine wpAt_of_wpAny ?_
  rw [F.owner]
  repeat (first | with_reducible refine wpAny_madeHere_exc F.canon hC ?_ | with_reducible refine wpAny_loadPart_at hC ?_ | (with_reducible refine wpAny_isSubtype_exc hC ?_; first | rw [c1] | rw [c2] | rw [c3]) | wp_step)
  show R _ _
  rw [Heap.size_push]
  exact z
theorem newK_type (F : ExcBaseFacts B newId initId bmB) (hT : ∀ X : String, bm.contains (.type X) = bmB.contains (.type X)) {Q : Fin → Shared → Prop} (hC : h.get? C = some (excClassObj nm q C N bs bm hdct sn sub ab col dd k0 k1 k2 k3 k5 newId)) (hl : us.length ≤ sizeLine)
    (hi : W.Looks (model prog w) h (typeLookup (.ref C) "__init__") (some (.ref fI))) (hb : ∀ self, W.Looks (model prog w) h (bindSpecial (.ref fI) self) (.ref fI, [self]))
    (z : codeAny (model prog w) A (.call (.ref fI) ⟨.ref (h.objs.size + 1) :: us, kw⟩)
      (fun r s' => match r with | .ok (.ret v) => v = .none ∧ Q (.done (.ret (.ref (h.objs.size + 1)))) s' | .ok _ => False | .error e => E e s') ⟨(h.push (PySem.W.kdv_tup us)).push (excO C h.objs.size), g, d, t, os⟩) :
    wpAny (model prog w) A (Builtin.«type.__call__» ⟨.ref C :: us, kw⟩) Q E ⟨h, g, d, t, os⟩ := by
  repeat (first | with_reducible refine wpAny_loadPart_at hC ?_ | with_reducible refine wpAny_madeBy_exc hC ?_ | wp_step)
  refine codeAny_call_builtin_code (Code.quiet_builtin _ F.quiet) (newK_check F hT hC (newK_made F hT hC hl ?_))
  show wpAny _ _ _ _ _ _
  have k : ∀ b o, h.get? b = some o → ((h.push (PySem.W.kdv_tup us)).push (excO C h.objs.size)).get? b = some o := fun b o e => Heap.get?_push_of_some _ (Heap.get?_push_of_some _ e)
  have C1 := k _ _ hC
  have at1 : ((h.push (PySem.W.kdv_tup us)).push (excO C h.objs.size)).get? (h.objs.size + 1) = some (excO C h.objs.size) := by heap_get
  have self : (Value.ref C :: bm).contains (.ref C) = true := by simp
  have i1 := hi.keeps k
  have b1 := (hb (.ref (h.objs.size + 1))).keeps k
  unfold isInstance
  repeat (first | with_reducible refine wpAny_loadPart_at at1 ?_ | (with_reducible refine wpAny_isSubtype_exc C1 ?_; rw [self]) | wp_step)
  refine i1.at (wpAny_holding (wpAny_bind (b1.at (wpAny_bind (wpAny_call (codeAny_mono z fun r s' y => ?_))))))
  cases r with
  | error e => exact y
  | ok fl =>
    cases fl with
    | ret v =>
      obtain ⟨rfl, y⟩ := y
      first
        | exact wpAny_pure (wpAny_pure y)
        | (wp_walk; exact y)
    | next => exact y.elim
    | brk => exact y.elim
    | cont => exact y.elim
theorem newK_call (F : ExcBaseFacts B newId initId bmB) (hT : ∀ X : String, bm.contains (.type X) = bmB.contains (.type X)) (hC : h.get? C = some (excClassObj nm q C N bs bm hdct sn sub ab col dd k0 k1 k2 k3 k5 newId)) (hl : us.length ≤ sizeLine)
    (hi : W.Looks (model prog w) h (typeLookup (.ref C) "__init__") (some (.ref fI))) (hb : ∀ self, W.Looks (model prog w) h (bindSpecial (.ref fI) self) (.ref fI, [self]))
    (z : codeAny (model prog w) (A.under (.builtin "type.__call__" ⟨.ref C :: us, kw⟩)) (.call (.ref fI) ⟨.ref (h.objs.size + 1) :: us, kw⟩) (W.InitBack (h.objs.size + 1) R) ⟨(h.push (PySem.W.kdv_tup us)).push (excO C h.objs.size), g, d, t, os⟩) :
    codeAny (model prog w) A (.call (.ref C) ⟨us, kw⟩) R ⟨h, g, d, t, os⟩ := by
  have f1 := tc_lookup
  have f2 := tc_bind (.ref C)
  have ty : (⟨h, g, d, t, os⟩ : Shared).TypeIs (.ref C) "type" := ⟨_, hC, rfl⟩
  refine codeAny_of_tree ?_
  show wpAny _ _ (callAny (.ref C) ⟨us, kw⟩) _ _ _
  repeat (any_goals (first | assumption | with_reducible refine wpAny_loadPart_at hC ?_ | wp_step))
  refine ⟨rfl, codeAny_call_builtin_at (Code.quiet_builtin _ (by decide +kernel)) entry_typeCall (wpAny_check_type_call_sub hC (newK_type F hT hC hl hi hb (codeAny_mono z fun r s' y => ?_)))⟩
  rcases r with e | (v | _ | _ | _) <;> exact y
end
end DLX
end PySem

set_option Elab.async false
set_option linter.all false
set_option maxRecDepth 100000
/-! DL38: the text's own exceptions as values: made, their fields read, asked for their class. -/
namespace DL
open PySem PySem.Spec PyProof.Rows L2
/-- an exception's worth -/
def excFn (g : Nat) (flds : List Str) : Fn := fun ds p => if ds.length = flds.length then .ok (.obj g flds ds) p else .bad
theorem noX {P : Program} {w : World} {outer : List PySem.Env} {H : Hp} {s s' : Shared} {e : Value} (h : L2.CX P w outer H s (fun _ _ _ => False) e s') : False := by
  obtain ⟨_, _, _, _, _, _, _, _, _, _, _, _, z⟩ := h
  exact z
section
variable {P : Program} {w : World} {K : PySem.W.Frag} {mg : Str → Option Value} {base : Heap} {A : Around} {outer : List PySem.Env} {s : Shared} {H : Hp}
theorem env0_add {a : Addr} {u : HO} {h' : Heap} {t' : Nat} (e0 : Env0 P w K mg base A outer s H) (kp : ∀ b x, s.heap.get? b = some x → h'.get? b = some x) (sz : s.heap.objs.size ≤ h'.objs.size) (ha : s.heap.objs.size ≤ a) (new : ObjOk P w (upd H a u) h' a u) :
    Env0 P w K mg base A outer { s with heap := h', toks := t' } (upd H a u) := by
  have ne : ∀ {b : Addr} {x : Obj}, s.heap.get? b = some x → b ≠ a := fun {b x} e => Nat.ne_of_lt (Nat.lt_of_lt_of_le (Heap.lt_size e) ha)
  refine ⟨e0.frames, e0.mod, fun b x e => ⟨kp b x (e0.bs b x e).1, ?_⟩, Nat.le_trans e0.bsz sz, Heap.FunFrames.of_keeps (fun b x e _ => ⟨x, kp b x e, rfl⟩) e0.funs, fun b hb => ?_, e0.hok.laid kp ha new, e0.bare⟩
  · rw [upd_ne (ne (e0.bs b x e).1)]
    exact (e0.bs b x e).2
  · obtain ⟨_, x, hx, _⟩ := e0.funs.mem hb
    rw [upd_ne (ne hx)]
    exact e0.frf b hb
end
/-- what stands behind the making, as data -/
theorem exc_new {G : Gx} {Pp : Addr} {R H : Hp} {g : Nat} {flds : List Str} {ds : List D} {vs : List V} {p : Pen} {a : Addr} {Q : VK} (hx : G.nm.xc g = true) (rx : RepL G Pp R ds vs) (same : Same R H) (pr : Pr R Pp) (pen : PenOk G Pp H R p) (tab : LamX.Tabs G.nm.T H) (hl : ds.length = flds.length) (na : H a = none)
    (k : ∀ R' H' x, Same R R' → Same R' H' → SX Pp H H' → (∀ b, R' b ≠ none → R b ≠ none ∨ New H b) → Pr R' Pp → PenOk G Pp H' R' p → LamX.Tabs G.nm.T H' → Rep G Pp R' (.obj g flds ds) x → Q x H') :
    (flds = [] → Q (.ref a) (upd H a (exo a (He.ga G.K (G.nm g)) none))) ∧ ∀ dx, (upd H a (exo a (He.ga G.K (G.nm g)) none)) dx = none → dx ≠ a → Q (.ref a) (madeX (upd H a (exo a (He.ga G.K (G.nm g)) none)) a (He.ga G.K (G.nm g)) dx (flds.zip vs)) := by
  obtain ⟨c, hP, pe2, pe3⟩ := pen
  have aP : a ≠ Pp := fun z => by rw [z, hP] at na; cases na
  have ra : R a = none := same.free na
  have tb : ∀ {e C : Addr} {d : Option Addr} (ps : Array Value), exo e C d ≠ .tbl ps := fun {e C d} ps => exo_tbl
  have tb2 : ∀ {e : Addr} {fs : List (Str × V)} (ps : Array Value), exd e fs ≠ .tbl ps := fun {e fs} ps z => by unfold exd at z; cases z
  have len := rx.length
  constructor
  · intro e0
    subst e0
    have eds : ds = [] := List.eq_nil_of_length_eq_zero hl
    subst eds
    have e1 : Same R (upd R a (exo a (He.ga G.K (G.nm g)) none)) := fun b u h => by rw [upd_ne (ne_of_none h ra)]; exact h
    have e2 : Same H (upd H a (exo a (He.ga G.K (G.nm g)) none)) := fun b u h => by rw [upd_ne (ne_of_none h na)]; exact h
    refine k (upd R a (exo a (He.ga G.K (G.nm g)) none)) _ _ e1 (fun b u h => ?_) (Same.sx e2) (fun b h => ?_) ⟨by rw [upd_ne aP.symm]; exact pr.p, fun b ps z => ?_⟩ ⟨c, by rw [upd_ne aP.symm]; exact hP, e1.seq pe2, pe3.mono e1⟩ (tab.ext e2) ?_
    · by_cases q : b = a
      · rw [q, upd_same] at h ⊢; exact h
      · rw [upd_ne q] at h ⊢; exact same b u h
    · by_cases q : b = a
      · exact .inr (.inl (q ▸ na))
      · rw [upd_ne q] at h; exact .inl h
    · by_cases q : b = a
      · rw [q, upd_same] at z; exact tb ps (Option.some.inj z)
      · rw [upd_ne q] at z; exact pr.t b ps z
    · simp only [Rep]
      exact ⟨a, a, [], rfl, .inr ⟨hx, .inr ⟨rfl, upd_same⟩⟩, rfl, RepL.nil⟩
  · intro dx ndx ne
    have nd : H dx = none := by rw [upd_ne ne] at ndx; exact ndx
    have rd : R dx = none := same.free nd
    have dP : dx ≠ Pp := fun z => by rw [z, hP] at nd; cases nd
    generalize hC : He.ga G.K (G.nm g) = C
    have e1 : Same R (upd (upd R dx (exd dx (flds.zip vs))) a (exo a C (some dx))) := fun b u h => by rw [upd_ne (ne_of_none h ra), upd_ne (ne_of_none h rd)]; exact h
    have eH : madeX (upd H a (exo a C none)) a C dx (flds.zip vs) = upd (upd H dx (exd dx (flds.zip vs))) a (exo a C (some dx)) := by
      funext b
      unfold madeX
      by_cases q : b = a
      · rw [q, upd_same, upd_same]
      · rw [upd_ne q, upd_ne q]
        by_cases q2 : b = dx
        · rw [q2, upd_same, upd_same]
        · rw [upd_ne q2, upd_ne q, upd_ne q2]
    rw [eH]
    have e2 : Same H (upd (upd H dx (exd dx (flds.zip vs))) a (exo a C (some dx))) := fun b u h => by rw [upd_ne (ne_of_none h na), upd_ne (ne_of_none h nd)]; exact h
    refine k (upd (upd R dx (exd dx (flds.zip vs))) a (exo a C (some dx))) _ _ e1 (fun b u h => ?_) (Same.sx e2) (fun b h => ?_) ⟨by rw [upd_ne aP.symm, upd_ne dP.symm]; exact pr.p, fun b ps z => ?_⟩ ⟨c, by rw [upd_ne aP.symm, upd_ne dP.symm]; exact hP, e1.seq pe2, pe3.mono e1⟩ (tab.ext e2) ?_
    · by_cases q : b = a
      · rw [q, upd_same] at h ⊢; exact h
      · rw [upd_ne q] at h ⊢
        by_cases q2 : b = dx
        · rw [q2, upd_same] at h ⊢; exact h
        · rw [upd_ne q2] at h ⊢; exact same b u h
    · by_cases q : b = a
      · exact .inr (.inl (q ▸ na))
      · rw [upd_ne q] at h
        by_cases q2 : b = dx
        · exact .inr (.inl (q2 ▸ nd))
        · rw [upd_ne q2] at h; exact .inl h
    · by_cases q : b = a
      · rw [q, upd_same] at z; exact tb ps (Option.some.inj z)
      · rw [upd_ne q] at z
        by_cases q2 : b = dx
        · rw [q2, upd_same] at z; exact tb2 ps (Option.some.inj z)
        · rw [upd_ne q2] at z; exact pr.t b ps z
    · simp only [Rep]
      refine ⟨a, dx, flds.zip vs, rfl, .inr ⟨hx, .inl ⟨by rw [upd_same, hC], by rw [upd_ne ne, upd_same]⟩⟩, List.map_fst_zip (by omega), ?_⟩
      rw [List.map_snd_zip (by omega)]
      exact rx.mono e1
theorem fnF_exc {G : Gx} {k g : Nat} {flds : List Str} (C : ExcC G.prog G.w G.K G.mg k (G.nm g) flds) (hx : G.nm.xc g = true) (hl : flds.length ≤ 100) : FnF G (k + 1) g (excFn g flds) where
  kp := C.T.kC
  mg := C.gl
  run := fun base cells cv B A outer s H us vs Q E hg hr e0 r sp => by
    obtain ⟨Pp, R, ds, p, rx, same, pr, pen, tab, k'⟩ := sp
    have hlen : ds.length = flds.length := by
      by_cases e : ds.length = flds.length
      · exact e
      · unfold excFn at k'; rw [if_neg e] at k'; exact k'.elim
    unfold excFn at k'
    rw [if_pos hlen] at k'
    have len := rx.length
    obtain ⟨nm, q, N, bs, bm, sn, sub, ab, col, dd, k0, k1, k2, k3, k5, hC, hbm⟩ := C.T.cls
    obtain ⟨fI, fd, iC, tI, hb, F1⟩ := C.init
    have KX : G.K.In s.heap := e0.mod.kin.keeps fun b o e => (e0.bs b o e).1
    obtain ⟨hp, gs, dr, tk, os⟩ := s
    have hsz : hp.objs.size ≤ hp.objs.size + 1 := Nat.le_succ _
    have hn : H (hp.objs.size + 1) = none := e0.hok.fresh hsz
    have kk : ∀ b o, hp.get? b = some o → ((hp.push (PySem.W.kdv_tup us)).push (PySem.HandSPX.excO (He.ga G.K (G.nm g)) hp.objs.size)).get? b = some o := fun b o e => Heap.get?_push_of_some _ (Heap.get?_push_of_some _ e)
    have hget : ((hp.push (PySem.W.kdv_tup us)).push (PySem.HandSPX.excO (He.ga G.K (G.nm g)) hp.objs.size)).get? (hp.objs.size + 1) = some (PySem.HandSPX.excO (He.ga G.K (G.nm g)) hp.objs.size) := by heap_get
    have new : ObjOk G.prog G.w (upd H (hp.objs.size + 1) (exo (hp.objs.size + 1) (He.ga G.K (G.nm g)) none)) ((hp.push (PySem.W.kdv_tup us)).push (PySem.HandSPX.excO (He.ga G.K (G.nm g)) hp.objs.size)) (hp.objs.size + 1) (exo (hp.objs.size + 1) (He.ga G.K (G.nm g)) none) := exo_ok hget
    have e2 : Env0 G.prog G.w G.K G.mg base A outer ⟨(hp.push (PySem.W.kdv_tup us)).push (PySem.HandSPX.excO (He.ga G.K (G.nm g)) hp.objs.size), gs, dr, tk, os⟩ (upd H (hp.objs.size + 1) (exo (hp.objs.size + 1) (He.ga G.K (G.nm g)) none)) :=
      env0_add (s := ⟨hp, gs, dr, tk, os⟩) e0 kk (by show hp.objs.size ≤ _; rw [Heap.size_push, Heap.size_push]; omega) hsz new
    have un1 : Un (frs outer) [] H (upd H (hp.objs.size + 1) (exo (hp.objs.size + 1) (He.ga G.K (G.nm g)) none)) hp ((hp.push (PySem.W.kdv_tup us)).push (PySem.HandSPX.excO (He.ga G.K (G.nm g)) hp.objs.size)) := Un.laid kk hsz hn
    have r2 : Vals (V.ref (hp.objs.size + 1) :: vs) (Value.ref (hp.objs.size + 1) :: us) := .cons rfl r
    have hus : us.length ≤ sizeLine := by
      rw [← Paired.length r, ← len, hlen, sizeLine_eq]; omega
    obtain ⟨w1, w2⟩ := exc_new (G := G.at_ base cells cv) (a := hp.objs.size + 1) (Q := Q) hx rx same pr pen tab hlen hn k'
    have bb := hb ⟨(hp.push (PySem.W.kdv_tup us)).push (PySem.HandSPX.excO (He.ga G.K (G.nm g)) hp.objs.size), gs, dr, tk, os⟩ (Value.ref (hp.objs.size + 1) :: us) (KX.keeps kk) (by simp [← r.length, ← len, hlen])
    rw [List.append_nil] at bb
    refine PySem.HandSPX.call_own PySem.F.excBase_ValueError (fun Y => PySem.HandSPX.refsVE_contains Y bm hbm) (KX _ _ hC) (PySem.W.looks_findIn KX iC) (fun self => PySem.W.bind_fn KX self tI) hus
      (codeAny_mono ((F1 base).run _ outer _ _ ⟨Value.ref (hp.objs.size + 1) :: us, []⟩ (Value.ref (hp.objs.size + 1) :: us) _ (fun v H3 => v = .non ∧ Q (.ref (hp.objs.size + 1)) H3) (fun _ _ _ => False) (hr.make _ us []) (e2.make _ us []) bb r2 ⟨hp.objs.size + 1, vs, rfl, by omega, upd_same, fun z => ⟨rfl, w1 z⟩, fun _ dx h1 h2 => ⟨rfl, w2 dx h1 h2⟩⟩) fun rr s' hq' => ?_)
    cases rr with
    | error er => exact (noX hq').elim
    | ok fl =>
      cases fl with
      | ret u =>
        obtain ⟨v, H2, os2, bare2, un2, hok2, rv, ev, q2⟩ := hq'
        subst ev
        exact ⟨rv, V.ref (hp.objs.size + 1), H2, os2, bare2, un1.trans un2, hok2, rfl, q2⟩
      | next => exact False.elim hq'
      | brk => exact False.elim hq'
      | cont => exact False.elim hq'
/-! ### what a class says, so that isinstance asks its instances rightly -/
structure IsxC (K : PySem.W.Frag) (D : Addr) : Prop where
  cl : (PySem.W.clsIn K D).isSome = true
  ga : PySem.W.findIn K (.ref D) "__getattribute__" = some (some (.builtin "BaseException.__getattribute__"))
  gt : PySem.W.findIn K (.ref D) "__getattr__" = some none
  sb : PySem.W.subIn K (.ref D) (.type "BaseException") = some true
  ca : PySem.W.findIn K (.ref D) "__class__" = some (some (.builtin "object.__class__"))
  cg : PySem.W.specialIn K (.builtin "object.__class__") "__get__" = some (some (.builtin "getset_descriptor.__get__"))
  ct : PySem.W.takesIn K (.builtin "object.__class__") = some true
  mo : PySem.W.mroIn K D (.type "object") = some true
def isxB (K : PySem.W.Frag) (D : Addr) : Bool := (PySem.W.clsIn K D).isSome && (decide (PySem.W.findIn K (.ref D) "__getattribute__" = some (some (.builtin "BaseException.__getattribute__"))) && (decide (PySem.W.findIn K (.ref D) "__getattr__" = some none) && (decide (PySem.W.subIn K (.ref D) (.type "BaseException") = some true) &&
  (decide (PySem.W.findIn K (.ref D) "__class__" = some (some (.builtin "object.__class__"))) && (decide (PySem.W.specialIn K (.builtin "object.__class__") "__get__" = some (some (.builtin "getset_descriptor.__get__"))) && (decide (PySem.W.takesIn K (.builtin "object.__class__") = some true) && decide (PySem.W.mroIn K D (.type "object") = some true)))))))
theorem isxB_ok {K : PySem.W.Frag} {D : Addr} (h : isxB K D = true) : IsxC K D := by
  simp only [isxB, Bool.and_eq_true, decide_eq_true_eq] at h
  obtain ⟨h1, h2, h3, h4, h5, h6, h7, h8⟩ := h
  exact ⟨h1, h2, h3, h4, h5, h6, h7, h8⟩
/-! ### fields -/
/-- what the class of the number g says of its field f -/
structure AttC (K : PySem.W.Frag) (nm : Nm) (g : Nat) (f : Str) : Prop where
  x : nm.xc g = true → XfC K (He.ga K (nm g)) ∧ PySem.W.findIn K (.ref (He.ga K (nm g))) f = some none
  i : nm.xc g = false → Cls K (He.ga K (nm g)) ∧ NoAttr K (He.ga K (nm g)) f
section
variable {X : Cx} {nm : Nm} {W : WX} {Γ : Gam} {a : E} {e : Expr} {pos p2 : Pos}
theorem x_att {f : Str} (T : ∀ g, (Γ.att g).contains f = true → AttC X.K nm g f) (hsup : noSup e = true) (ha : pE X nm W Γ a e) : pE X nm W Γ (.att a f) (.Attribute e f pos) := by
  refine ⟨fun pins s σ H Q I h => ?_⟩
  have h0 : tE (gOf X nm) W Γ a σ H (fun x H1 => ∃ (b dx : Addr) (g : Nat) (fs : List (Str × V)) (v : V), x = .ref b ∧ ObjAt (gOf X nm) H1 b dx g fs ∧ AttC X.K nm g f ∧ fs.lookup f = some v ∧ Q v H1) := by
    refine At.part h fun c τ vx ρ1 R1 H1 fp1 S1 h1 x rx => ?_
    obtain ⟨d, ρ2, R2, fp2, e2, S2, rx2, h2⟩ := Post.esc S1 rx h1
    obtain ⟨d', eq, h3⟩ := h2.lftB
    unfold attD at eq
    split at eq
    · rename_i g ns xs _
      split at eq
      · rename_i hc
        simp only [Rep] at rx2
        obtain ⟨b, dx, fs, rfl, ho, rfl, rxs⟩ := rx2
        obtain ⟨v, hv, rv⟩ := fld_look rxs eq
        refine ⟨b, dx, _, fs, v, rfl, ho.keep fun b o q _ _ => S2.same b o q, T _ hc, hv, done_frz S2 h3 rv⟩
      · cases eq
    · cases eq
  refine attr_of (ab_of hsup) (thn (ha.run pins s σ H _ I h0) fun u s1 hh => ?_)
  obtain ⟨x, H1, I1, rx, b, dx, g, fs, v, ex, ho, A, l, q⟩ := hh
  subst ex
  obtain rfl : u = Value.ref b := rx
  rcases ho with ⟨hx, ea⟩ | ⟨hx, ⟨ea, ed⟩ | ⟨e0, _⟩⟩
  · obtain ⟨c1, c2⟩ := A.i hx
    exact getattr_ok I1 ea c1 c2 l fun u' s2 I2 ru => ⟨v, H1, I2, ru, q⟩
  · obtain ⟨T1, hno⟩ := A.x hx
    obtain ⟨t1, he⟩ := exo_at I1.hok ea
    obtain ⟨mA, hns, hr⟩ := exd_at I1.hok ed
    obtain ⟨od, ho, hl⟩ := lookIn_ns hns
    obtain ⟨u, hu, ru⟩ := RelO.some_of (v := v) (o := mA f) (by rw [← l]; exact hr f)
    have J : PySem.W.InstAt s1.heap b { cls := .ref (He.ga X.K (nm g)), dict := some dx, data := .fields #[.ref t1, .none, .none, .none, .bool false, .none] } (He.ga X.K (nm g)) (some od) := ⟨he, rfl, rfl, ho⟩
    exact HandSPX.exc_get I1.kIn J T1.ga T1.gg T1.exC (PySem.W.findObj_own T1.hdC hno rfl (by rw [hl, hu])) (handed_of ru) ⟨v, H1, I1.tok _, ru, q⟩
  · rw [e0] at l; cases l
/-- isinstance of an exception, of an exception's class -/
theorem x_isx {g : Nat} {y : Expr} (F : ∀ h t, Γ.xs h g = some t → IsxC X.K (He.ga X.K (nm h)) ∧ nm.xc h = true ∧ PySem.W.kitOne X.K (.ref (He.ga X.K (nm h))) (.ref (He.ga X.K (nm g))) = some t) (hg : Gl X "isinstance") (hm : X.mg "isinstance" = none) (hs : noStar e = true) (hst : noStar y = true)
    (ht : PE X y (tC (.ref (He.ga X.K (nm g))))) (ha : pE X nm W Γ a e) : pE X nm W Γ (.isx a g) (.Call (.Name "isinstance" p2) [e, y] [] pos) := by
  have hall : [y].all noStar = true := by simp [hst]
  have call : CallR X (.builtin "isinstance") (fun xs H Q => ∃ (b dx : Addr) (h : Nat) (fs : List (Str × V)) (t : Bool), xs = [.ref b, .ref (He.ga X.K (nm g))] ∧ ObjAt (gOf X nm) H b dx h fs ∧ Γ.xs h g = some t ∧ Q (.bl t) H) := by
    intro pins s σ H xs us Q I r h
    obtain ⟨b, dx, k, fs, t, rfl, ho, et, q⟩ := h
    obtain ⟨C, hx, ek⟩ := F k t et
    cases r with
    | cons rx rr =>
      cases rr with
      | cons rt rr =>
        cases rr
        cases rx
        cases rt
        have J : ∃ oe od, PySem.W.InstAt s.heap b oe (He.ga X.K (nm k)) od := by
          rcases ho with ⟨z, _⟩ | ⟨_, ⟨ea, ed⟩ | ⟨_, ea⟩⟩
          · have z' : nm.xc k = false := z
            rw [hx] at z'; cases z'
          · obtain ⟨t1, he⟩ := exo_at I.hok ea
            obtain ⟨mA, hns, _⟩ := exd_at I.hok ed
            obtain ⟨od, ho, _⟩ := lookIn_ns hns
            exact ⟨_, some od, he, rfl, rfl, ho⟩
          · obtain ⟨t1, he⟩ := exo_at I.hok ea
            exact ⟨_, none, he, rfl, rfl, trivial⟩
        obtain ⟨oe, od, J⟩ := J
        exact PySem.W.kia_one (PySem.W.kitx_exc C.cl C.ga C.gt C.sb C.ca C.cg C.ct C.mo) I.kIn J ek (fun z => nomatch z) fun tk => ⟨.bl t, H, I.kept (t' := tk) fun _ _ z => z, rfl, q⟩
  refine (pe_callB call hg hm boot_isi (pa_cons ha (pa_cons ht pa_nil (star_of hst)) (star_of hs)) (by decide) (by decide) (star_of hs) (stars_of hall)).weak fun σ H Q _ h => ?_
  refine At.part h fun c τ vx ρ1 R1 H1 fp1 S1 h1 x rx => ?_
  obtain ⟨d, rd, h2⟩ := Post.vw S1 rx h1
  obtain ⟨t, eb, h3⟩ := h2.lftB
  unfold isxD at eb
  split at eb
  · simp only [Rep] at rd
    obtain ⟨b, dx, fs, rfl, ho, _, _⟩ := rd
    exact ⟨b, dx, _, fs, t, rfl, ho, eb, done_frz S1 h3 (by simp only [Rep])⟩
  · cases eb
end
/-! ### calls with keywords alone -/
/-- a def or a class of the text, called by the names ks of its arguments -/
structure FnK (G : Gx) (L g : Nat) (ks : List Str) (fn : Fn) : Prop where
  run : ∀ base cells cv, GB (G.at_ base cells cv) → ∀ (A : Around) (outer : List PySem.Env) (s : Shared) (H : Hp) (us : List Value) (vs : List V) (Q : VK) (E : XK), A.guards = some [] → Room L A → Env0 G.prog G.w G.K G.mg base A outer s H → Vals vs us → us.length = ks.length → spF (G.at_ base cells cv) fn vs H Q E →
    codeAny (model G.prog G.w) A (.call (.ref (He.ga G.K (G.nm g))) ⟨[], ks.zip us⟩) (CR (L2.CX G.prog G.w) outer G.prog G.w H s Q E) s
  kp : PySem.W.keepIn G.K (.ref (He.ga G.K (G.nm g))) = true
  mg : G.mg (G.nm g) = some (.ref (He.ga G.K (G.nm g)))
theorem FnK.mono {G : Gx} {j k g : Nat} {ks : List Str} {fn : Fn} (F : FnK G j g ks fn) (h : j ≤ k) : FnK G k g ks fn := ⟨fun base cells cv B A outer s H us vs Q E hg hr => F.run base cells cv B A outer s H us vs Q E hg (hr.mono h), F.kp, F.mg⟩
theorem FnK.at_ {G : Gx} {k g : Nat} {ks : List Str} {fn : Fn} {base : Heap} {cells : List (Str × Addr)} {cv : List (Option V)} (F : FnK G k g ks fn) : FnK (G.at_ base cells cv) k g ks fn := ⟨F.run, F.kp, F.mg⟩
theorem kws_of {env : PySem.Env} {pos : Pos} : ∀ {kws : List Keyword} {ks : List Str}, kws.map (·.arg) = ks.map some → (backToKw pos (keywordEach kws env)).all (·.1.isSome) = true ∧ (backToKw pos (keywordEach kws env)).filterMap (·.1) = ks ∧ (backToKw pos (keywordEach kws env)).any (·.1.isNone) = false
  | [], ks, h => by
    cases ks with
    | nil => exact ⟨rfl, rfl, rfl⟩
    | cons => cases h
  | ⟨a, e, p⟩ :: kws, ks, h => by
    cases ks with
    | nil => cases h
    | cons k ks =>
      rw [List.map_cons, List.map_cons] at h
      injection h with h1 h2
      obtain ⟨q1, q2, q3⟩ := kws_of (env := env) (pos := pos) h2
      have h1' : a = some k := h1
      subst h1'
      refine ⟨?_, ?_, ?_⟩
      · show (true && _) = true
        exact q1
      · show k :: _ = k :: ks
        exact congrArg _ q2
      · show (false || _) = false
        exact q3
section
variable {X : Cx} {nm : Nm} {W : WX} {Γ : Gam} {a : E} {as : List E} {e : Expr} {kws : List Keyword} {pos p2 kp : Pos} {k : Option Str}
abbrev pKs (X : Cx) (nm : Nm) (W : WX) (Γ : Gam) (as : List E) (kws : List Keyword) : Prop := PK X kws (tAs (gOf X nm) W Γ as)
theorem _root_.L2.PK.weak {X : Cx} {e : List Keyword} {t t' : TA} (h : PK X e t) (f : ∀ σ H Q, σ.length = X.N.length → t' σ H Q → t σ H Q) : PK X e t' :=
  ⟨fun pos pins s σ H Q I q => h.run pos pins s σ H Q I (f σ H Q I.len q)⟩
theorem k_nil : pKs X nm W Γ [] [] := by
  refine pk_nil.weak fun σ H Q hl h => ?_
  obtain ⟨c, R, ρ, τ, fps, S, h⟩ := h
  exact Post.now h S [] RepL.nil
theorem k_cons (ha : pE X nm W Γ a e) (hr : pKs X nm W Γ as kws) : pKs X nm W Γ (a :: as) (⟨k, e, kp⟩ :: kws) := by
  refine (pk_cons ha hr).weak fun σ H Q hl h => ?_
  refine h.part fun c τ vx ρ1 R1 H1 fp1 S1 h1 x rx => ?_
  obtain ⟨dx, ρ2, R2, fp2, e2, S2, rx2, h2⟩ := Post.esc S1 rx h1
  refine At.ofPart S2 h2 fun ds ρ3 R3 H3 fp3 e3 _ S3 h3 xs rs => ?_
  exact Post.now h3 S3 (x :: xs) (RepL.cons (rx2.mono e3) rs)
theorem after_callK {pins : List (Addr × Obj)} {s : Shared} {σ : L2.St} {H : Hp} {Q : VK} {v : Value} {us : List Value} {kw : List (Str × Value)} (tk : Takes X W) (I : Inv X pins σ H s)
    (h : codeAny (model X.prog X.w) X.A (.call v ⟨us, kw⟩) (CR (L2.CX X.prog X.w) X.stack X.prog X.w H s Q (WE W σ)) s) : wpAny (model X.prog X.w) X.A (call v us kw) (EP X pins σ Q) X.xe s := by
  refine wpAny_call (codeAny_mono h fun z s' hq => ?_)
  cases z with
  | error e => exact passAt tk σ pins H s e s' I hq
  | ok fl =>
    cases fl with
    | ret u => exact I.after hq
    | next => exact False.elim hq
    | brk => exact False.elim hq
    | cont => exact False.elim hq
theorem x_callk {L g : Nat} {ks : List Str} {fn : Fn} (F : FnK (gOf X nm) L g ks fn) (B : GB (gOf X nm)) (m : Rm X L) (tk : Takes X W) (how : Γ.own = none) (hf : Γ.fnk g ks = some fn) (hg : Gl X (nm g)) (hdb : (nm g == ("__debug__" : Str)) = false) (hk : kws.map (·.arg) = ks.map some) (hl : as.length = ks.length) (ha : pKs X nm W Γ as kws) :
    pE X nm W Γ (.callk g ks as) (.Call (.Name (nm g) p2) [] kws pos) := by
  refine ⟨fun pins s σ H Q I h => ?_⟩
  obtain ⟨q1, q2, q3⟩ := kws_of (env := X.env) (pos := pos) hk
  have h0 : tAs (gOf X nm) W Γ as σ H (fun xs H1 => xs.length = ks.length ∧ rFn (gOf X nm) W none fn σ xs H1 Q) := by
    have h' : At (gOf X nm) W (bnd (evs Γ as) fun ds => callFn Γ.own (Γ.fnk g ks) ds) (fun c _ v _ R' H' fps' => ∀ x, VR (gOf X nm) c R' H' fps' v x → Q x H') σ H := h
    obtain ⟨c, R, ρ, τ, fps, S, h2⟩ := h'
    refine ⟨c, R, ρ, τ, fps, S, ?_⟩
    have len : ∀ (as : List E) (ρ ρ' : Env) (ds : List D), evs Γ as ρ = .ok ds ρ' → ds.length = as.length := by
      intro as
      induction as with
      | nil => intro ρ ρ' ds e; rw [evs] at e; cases e; rfl
      | cons a as ih =>
        intro ρ ρ' ds e
        rw [evs] at e
        unfold bnd at e
        cases e1 : ev Γ a ρ with
        | ok x ρ1 =>
          rw [e1] at e
          dsimp only at e
          cases e2 : esc x ρ1 with
          | ok d ρ2 =>
            rw [e2] at e
            dsimp only at e
            cases e3 : evs Γ as ρ2 with
            | ok ds2 ρ3 =>
              rw [e3] at e
              cases e
              simp [ih _ _ _ e3]
            | err _ _ _ _ => rw [e3] at e; cases e
            | bad => rw [e3] at e; cases e
          | err _ _ _ _ => rw [e2] at e; cases e
          | bad => rw [e2] at e; cases e
        | err _ _ _ _ => rw [e1] at e; cases e
        | bad => rw [e1] at e; cases e
    have h3 := Post.bind h2
    cases e : evs Γ as ρ with
    | ok ds ρ1 =>
      rw [e] at h3
      intro R1 H1 fp1 e1 sx S1 xs rx
      have z := h3 R1 H1 fp1 e1 sx S1
      have z' : Post (gOf X nm) W c σ τ R1 H1 (fun v ρ' R' H' fps' => ∀ x, VR (gOf X nm) c R' H' fps' v x → Q x H') (callFn Γ.own (Γ.fnk g ks) ds ρ1) := z
      rw [how] at z'
      exact ⟨by rw [← rx.length, len _ _ _ _ e, hl], callFn_at hf S1 rx z'⟩
    | err gg ns xs ρ1 => rw [e] at h3; exact h3
    | bad => rw [e] at h3; exact h3.elim
  refine wpAny_Call_Name_kw (ld_glob I hg F.mg ?_ hdb)
  refine PySem.W.callWith_KW0 (h₀ := X.base) I.ok.mod.kin F.kp q1 ?_ (by
    show (([] : List (Bool × Sem Value)).any (·.1) || _) = false
    exact q3)
  refine thn (ha.run pos pins s σ H _ I h0) fun us s1 ⟨xs, H1, I1, r, l, q⟩ => ⟨I1.kIn, ?_⟩
  rw [q2]
  exact after_callK tk I1 (F.run X.base nm.cells nm.cv B X.A X.stack s1 H1 us xs Q (WE W σ) m.gd m.room I1.env0 r (by rw [← r.length]; exact l) (sp_of_r q))
end
/-! ### exceptions made by the names of their fields -/
def pick {α : Type} (perm : List Nat) (xs : List α) : List α := perm.filterMap fun i => xs[i]?
def pickFn (perm : List Nat) (fn : Fn) : Fn := fun ds p => fn (pick perm ds) p
theorem RepL.pick {G : Gx} {P : Addr} {H : Hp} {ds : List D} {xs : List V} (h : RepL G P H ds xs) : ∀ perm : List Nat, RepL G P H (DL.pick perm ds) (DL.pick perm xs)
  | [] => RepL.nil
  | i :: perm => by
    unfold DL.pick
    cases e : ds[i]? with
    | some d =>
      obtain ⟨v, e2, r⟩ := h.get e
      rw [List.filterMap_cons_some e, List.filterMap_cons_some e2]
      exact RepL.cons r (RepL.pick h perm)
    | none =>
      have e2 : xs[i]? = none := by
        rw [List.getElem?_eq_none_iff] at e ⊢
        rw [← h.length]; exact e
      rw [List.filterMap_cons_none e, List.filterMap_cons_none e2]
      exact RepL.pick h perm
theorem vals_pick {vs : List V} {us : List Value} (h : Vals vs us) : ∀ perm : List Nat, Vals (DL.pick perm vs) (DL.pick perm us) := by
  have get : ∀ {vs : List V} {us : List Value} (i : Nat), Vals vs us → (∃ v u, vs[i]? = some v ∧ us[i]? = some u ∧ RelV v u) ∨ (vs[i]? = none ∧ us[i]? = none) := by
    intro vs us i h
    induction h generalizing i with
    | nil => exact .inr ⟨rfl, rfl⟩
    | cons r _ ih =>
      cases i with
      | zero => exact .inl ⟨_, _, rfl, rfl, r⟩
      | succ i => simpa using ih i
  intro perm
  induction perm with
  | nil => exact .nil
  | cons i perm ih =>
    unfold DL.pick
    rcases get i h with ⟨v, u, e1, e2, r⟩ | ⟨e1, e2⟩
    · rw [List.filterMap_cons_some e1, List.filterMap_cons_some e2]
      exact .cons r ih
    · rw [List.filterMap_cons_none e1, List.filterMap_cons_none e2]
      exact ih
/-- how __init__ binds, called with the instance and with keywords -/
def BindsK (K : PySem.W.Frag) (fd : FuncData) (ps ks : List Str) (perm : List Nat) : Prop := ∀ (s : Shared) (u : Value) (us : List Value), K.In s.heap → us.length = ks.length → BindsTo s fd ⟨[u], ks.zip us⟩ (ps.zip (u :: pick perm us))
theorem fnK_exc {G : Gx} {k g : Nat} {flds ks : List Str} {perm : List Nat} (T : OexC G.K (He.ga G.K (G.nm g))) (gl : G.mg (G.nm g) = some (.ref (He.ga G.K (G.nm g)))) (hx : G.nm.xc g = true) (hl : flds.length ≤ 100) (hks : ks.length ≤ 100)
    (init : ∃ fI fd, PySem.W.findIn G.K (.ref (He.ga G.K (G.nm g))) "__init__" = some (some (.ref fI)) ∧ PySem.W.typeIn G.K (.ref fI) = some (.type "function") ∧ BindsK G.K fd (sSelf :: flds) ks perm ∧ ∀ base, FnOk G.prog G.w G.K G.mg base (L2.CX G.prog G.w) k fI fd (sSelf :: flds) (spInit (He.ga G.K (G.nm g)) flds)) :
    FnK G (k + 1) g ks (pickFn perm (excFn g flds)) where
  kp := T.kC
  mg := gl
  run := fun base cells cv B A outer s H us vs Q E hg hr e0 r hus sp => by
    obtain ⟨Pp, R, ds, p, rx0, same, pr, pen, tab, k'⟩ := sp
    have rx := rx0.pick perm
    have hlen : (pick perm ds).length = flds.length := by
      by_cases e : (pick perm ds).length = flds.length
      · exact e
      · unfold pickFn excFn at k'; rw [if_neg e] at k'; exact k'.elim
    unfold pickFn excFn at k'
    rw [if_pos hlen] at k'
    have len := rx.length
    obtain ⟨nm, q, N, bs, bm, sn, sub, ab, col, dd, k0, k1, k2, k3, k5, hC, hbm⟩ := T.cls
    obtain ⟨fI, fd, iC, tI, hb, F1⟩ := init
    have KX : G.K.In s.heap := e0.mod.kin.keeps fun b o e => (e0.bs b o e).1
    obtain ⟨hp, gs, dr, tk, os⟩ := s
    have hsz : hp.objs.size ≤ hp.objs.size + 1 := Nat.le_succ _
    have hn : H (hp.objs.size + 1) = none := e0.hok.fresh hsz
    have kk : ∀ b o, hp.get? b = some o → ((hp.push (PySem.W.kdv_tup [])).push (PySem.HandSPX.excO (He.ga G.K (G.nm g)) hp.objs.size)).get? b = some o := fun b o e => Heap.get?_push_of_some _ (Heap.get?_push_of_some _ e)
    have hget : ((hp.push (PySem.W.kdv_tup [])).push (PySem.HandSPX.excO (He.ga G.K (G.nm g)) hp.objs.size)).get? (hp.objs.size + 1) = some (PySem.HandSPX.excO (He.ga G.K (G.nm g)) hp.objs.size) := by heap_get
    have new : ObjOk G.prog G.w (upd H (hp.objs.size + 1) (exo (hp.objs.size + 1) (He.ga G.K (G.nm g)) none)) ((hp.push (PySem.W.kdv_tup [])).push (PySem.HandSPX.excO (He.ga G.K (G.nm g)) hp.objs.size)) (hp.objs.size + 1) (exo (hp.objs.size + 1) (He.ga G.K (G.nm g)) none) := exo_ok hget
    have e2 : Env0 G.prog G.w G.K G.mg base A outer ⟨(hp.push (PySem.W.kdv_tup [])).push (PySem.HandSPX.excO (He.ga G.K (G.nm g)) hp.objs.size), gs, dr, tk, os⟩ (upd H (hp.objs.size + 1) (exo (hp.objs.size + 1) (He.ga G.K (G.nm g)) none)) :=
      env0_add (s := ⟨hp, gs, dr, tk, os⟩) e0 kk (by show hp.objs.size ≤ _; rw [Heap.size_push, Heap.size_push]; omega) hsz new
    have un1 : Un (frs outer) [] H (upd H (hp.objs.size + 1) (exo (hp.objs.size + 1) (He.ga G.K (G.nm g)) none)) hp ((hp.push (PySem.W.kdv_tup [])).push (PySem.HandSPX.excO (He.ga G.K (G.nm g)) hp.objs.size)) := Un.laid kk hsz hn
    have r2 : Vals (V.ref (hp.objs.size + 1) :: pick perm vs) (Value.ref (hp.objs.size + 1) :: pick perm us) := .cons rfl (vals_pick r perm)
    obtain ⟨w1, w2⟩ := exc_new (G := G.at_ base cells cv) (a := hp.objs.size + 1) (Q := Q) hx rx same pr pen tab hlen hn k'
    have bb := hb ⟨(hp.push (PySem.W.kdv_tup [])).push (PySem.HandSPX.excO (He.ga G.K (G.nm g)) hp.objs.size), gs, dr, tk, os⟩ (Value.ref (hp.objs.size + 1)) us (KX.keeps kk) hus
    refine PySem.DLX.newK_call PySem.F.excBase_ValueError (fun Y => PySem.HandSPX.refsVE_contains Y bm hbm) (KX _ _ hC) (Nat.zero_le _) (PySem.W.looks_findIn KX iC) (fun self => PySem.W.bind_fn KX self tI)
      (codeAny_mono ((F1 base).run _ outer _ _ ⟨[Value.ref (hp.objs.size + 1)], ks.zip us⟩ (Value.ref (hp.objs.size + 1) :: pick perm us) _ (fun v H3 => v = .non ∧ Q (.ref (hp.objs.size + 1)) H3) (fun _ _ _ => False) (hr.make _ [] (ks.zip us)) (e2.make _ [] (ks.zip us)) bb r2 ⟨hp.objs.size + 1, pick perm vs, rfl, by omega, upd_same, fun z => ⟨rfl, w1 z⟩, fun _ dx h1 h2 => ⟨rfl, w2 dx h1 h2⟩⟩) fun rr s' hq' => ?_)
    cases rr with
    | error er => exact (noX hq').elim
    | ok fl =>
      cases fl with
      | ret u =>
        obtain ⟨v, H2, os2, bare2, un2, hok2, rv, ev, q2⟩ := hq'
        subst ev
        exact ⟨rv, V.ref (hp.objs.size + 1), H2, os2, bare2, un1.trans un2, hok2, rfl, q2⟩
      | next => exact False.elim hq'
      | brk => exact False.elim hq'
      | cont => exact False.elim hq'
/-! ### try: .. except C: return k -/
section
variable {X : Cx} {nm : Nm} {W : WX} {Γ : Gam} {pos p1 p2 p3 : Pos}
theorem s_tryb {ss : List S} {sts : List Stmt} {gb : Nat} {c : Cn} {v : V} {ec : Expr} (est : X.stack = X.env :: X.outer) (hf : X.env.frame = some X.env.locals) (tk : Takes X W) (gl : X.mg (nm gb) = some (.ref (He.ga X.K (nm gb)))) (hg : Gl X (nm gb)) (hdb : (nm gb == ("__debug__" : Str)) = false)
    (hb : ∀ (W' : WX) (pn : List (Addr × Obj)) (xe : Value → Shared → Prop), Takes (X.tr pn xe) W' → PassesOwn (model X.prog X.w) X.A X.env xe → pSs (X.tr pn xe) nm W' Γ ss sts) (hc : ∀ X' : Cx, PE X' ec (tC v)) (hr : ∀ P R, Rep (gOf X nm) P R c.d v)
    (hx : ∀ g t, Γ.xb g gb = some t → PySem.W.exmOne X.K (.ref (He.ga X.K (nm g))) (.ref (He.ga X.K (nm gb))) = some t) : pS X nm W Γ (.tryb ss gb c) (.Try sts [.ExceptHandler (some (.Name (nm gb) p1)) none [.Return (some ec) p3] p2] [] [] pos) := by
  refine (ps_try_only est hf ⟨hg, hdb, .inl gl⟩ tk (tb := fun W' => tSs (gOf X nm) W' Γ ss) (ts := fun _ _ _ => tRet (tC v)) hb (fun a oe cls d pn _ _ => pss_one (ps_ret (hc _)))).weak fun D σ H hlen ⟨c0, R, ρ, fps, S, h⟩ => ?_
  refine ⟨c0, R, ρ, fps, S, ?_⟩
  have h' : PostS (gOf X nm) W c0 R σ.length D (hndB Γ.xb gb c (evSs Γ ss) ρ) := h
  unfold hndB at h'
  cases e : evSs Γ ss ρ with
  | ok f ρ' => rw [e] at h'; cases f <;> exact h'
  | bad => rw [e] at h'; exact h'.elim
  | err g ns xs ρ' =>
    rw [e] at h'
    intro d fs R' H' σ' ν fps' l1 e1 S' h1' h2' h3'
    dsimp only at h'
    cases et : Γ.xb g gb with
    | none => rw [et] at h'; exact h'.elim
    | some t =>
      rw [et] at h'
      refine ⟨t, hx g t et, fun z a na => ?_, fun z => ?_⟩
      · subst z
        exact h' R' H' _ fps' v e1 S' (hr _ _)
      · subst z
        exact h' d fs R' H' σ' ν fps' l1 e1 S' h1' h2' h3'
end
end DL

set_option Elab.async false
set_option linter.all false
set_option maxRecDepth 100000
/-! DL40: sorted(xs, key=lambda x: (len(x), x)) of tuples, at the library's level. -/
namespace PySem
namespace DLX
open PySem.W PySem.Calls PyProof.Rows
/-- the text of the key's body -/
def lenBody (x : Str) (p1 p2 p3 p4 p5 : Pos) (k : Nat) : Expr := .Tuple [.Call (.Name "len" p1) [.Name x p2] [] p3, .Name x p4] k p5
theorem keyLen_turn {P : Program} {w : World} {A : Around} {s : Shared} {f c' t : Addr} {qual x : Str} {params : Arguments} {p1 p2 p3 p4 p5 : Pos} {k : Nat} {scope : Scope} {cl : List (Str × Addr)} {pm ctv : Value} {mg mb : Str → Option Value} {us : List Value}
    (hroom : A.depth < recursionLimit) (of : s.heap.get? f = some (kla_obj "<lambda>" qual params (lenBody x p1 p2 p3 p4 p5 k) scope cl pm c' ctv)) (code : s.heap.CodeRec (.ref c') qual) (hk : scope.kind = .function) (hco : scope.isCoroutine = false) (hgen : scope.isGenerator = false)
    (hx : scope.names.lookup x = some .local) (hlen : scope.names.lookup ("len" : Str) = some .globalImplicit) (hcell : ∀ y ∈ scope.names, y.2 ≠ .cell) (hb : ∀ v, bindArgs (kla_fn "<lambda>" qual params (lenBody x p1 p2 p3 p4 p5 k) scope cl pm (.ref c') ctv) ⟨[v], []⟩ = pure [(x, v)])
    (gl : s.heap.Ns mainGlobals mg) (ml : mg "len" = none) (bl : s.heap.Ns builtinsNs mb) (boot : mb "len" = some (.builtin "len")) (lim : s.heap.NoLimit) (ht : IsTup s.heap t us.toArray) (hz : us.length ≤ sizeLine) (xd : (x == ("__debug__" : Str)) = false) :
    wpAny (model P w) A (call (.ref f) [.ref t]) (fun v s₂ => ∃ h' tk p tk1, s₂ = { s with heap := h', toks := tk } ∧ (∀ b o, s.heap.get? b = some o → h'.get? b = some o) ∧ v = .ref p ∧ h'.get? p = some { cls := .type "tuple", data := .seq #[.int us.length tk1, .ref t] }) (fun _ _ => False) s := by
  refine wpAny_call ?_
  refine kla_callFunE hroom of rfl hco hgen rfl code ?_
  rw [hb]
  refine wpAny_pure (wpAny_newFunctionEnv hcell (fun y hy => by rw [List.mem_singleton.mp hy]; exact hx) (fun g hns hsb => ⟨lim.fresh _ hsb, ?_⟩) hk)
  have kp : ∀ b o, s.heap.get? b = some o → g.get? b = some o := fun b o e => hsb.extBut b o (Nat.ne_of_lt (Heap.lt_size e)) (Heap.get?_push_of_some _ e)
  show codeAny _ _ (.expr (lenBody x p1 p2 p3 p4 p5 k) (envX qual scope s.heap.objs.size f (.ref c') cl)) _ _
  have at_ : (fun y => ([(x, Value.ref t)] : List (Str × Value)).reverse.lookup y) x = some (.ref t) := by simp
  have look : ∀ {B : Around} {Q : Value → Shared → Prop} {E : Value → Shared → Prop} {pos : Pos} {tk : Nat}, Q (.ref t) { s with heap := g, toks := tk } → wpAny (model P w) B (eval (.Name x pos) (envX qual scope s.heap.objs.size f (.ref c') cl)) Q E { s with heap := g, toks := tk } := fun {B Q E pos tk} q =>
    wpAny_Name (wpAny_loadName_local hk hx hns at_ q) xd
  obtain ⟨ot, h1, h2, n, h3⟩ := ht
  have ht' : IsTup g t us.toArray := ⟨ot, kp _ _ h1, h2, n, h3⟩
  have l63 := sizeLine_eq
  refine kla_codeExpr (wpAny_mono (Q := fun v s₂ => ∃ h' tk p tk1, s₂ = { s with heap := h', toks := tk } ∧ (∀ b o, s.heap.get? b = some o → h'.get? b = some o) ∧ v = .ref p ∧ h'.get? p = some { cls := .type "tuple", data := .seq #[.int us.length tk1, .ref t] }) ?_ (fun _ _ z => z) fun _ _ z => z)
  unfold lenBody
  refine wpAny_Tuple_spliced (spliced_more ?_)
  refine wpAny_Call_Name_kw (Name_function_global hk hlen (loadGlobal_builtin (gl.keeps kp) ml (bl.keeps kp) boot ?_) (by decide))
  refine PyProof.Rows.callWith_builtin1 (spliced_more (look (spliced_none ?_)))
  refine len_tuple ht' (by simp only [List.size_toArray]; omega) ?_
  refine spliced_more (look (spliced_none ⟨by show 2 ≤ sizeLine; rw [sizeLine_eq]; decide, ?_⟩))
  have e : us.toArray.size = us.length := by simp
  rw [e]
  exact ⟨_, _, g.objs.size, s.toks + 1 + 1, rfl, fun b o e => Heap.get?_push_of_some _ (kp b o e), rfl, Heap.get?_push_size _ rfl⟩
end DLX
end PySem

set_option Elab.async false
set_option linter.all false
set_option maxRecDepth 100000
/-! DL41: sorted(xs, key=lambda x: (len(x), x)) of tuples of ints. -/
namespace DL
open PySem PySem.Spec PyProof.Rows L2
section
variable {G : Gx} {c : Cf} {R H : Hp} {σ : L2.St} {ρ : Env} {fps : List (List Addr)} {X : Cx} {pins : List (Addr × Obj)} {s' : Shared}
/-- a lambda is made, and is nobody's -/
theorem Sim.lamd {T : List (Addr × Str)} {L : LamD} {Pt : Addr} {n : Nat} {f c' : Addr} {H1 : Hp} {σ0 : L2.St} (S : Sim G c R H σ ρ fps) (N : Lamd X pins σ0 T L Pt H n f c' H1 s') (eT : T = G.nm.T) : SX c.P H H1 ∧ Sim G c R H1 σ ρ fps := by
  have toH1 : ∀ a o, (∀ ps, o ≠ .tbl ps) → H a = some o → H1 a = some o := fun a o t q => by
    rcases N.way with z | ⟨ps, more, a1, a2, a3⟩
    · rw [z]; exact q
    · rw [a3, upd_ne (ne_of_none q a2), upd_ne fun y => by
        rw [y, a1] at q
        exact t ps (Option.some.inj q).symm]
      exact q
  have sx : SX c.P H H1 := ⟨fun a o _ t q => toH1 a o t q, fun a ps _ q => by
    rcases N.way with z | ⟨ps', more, a1, a2, a3⟩
    · rw [z]; exact ⟨ps, q⟩
    · rw [a3, upd_ne (ne_of_none q a2)]
      by_cases y : a = Pt
      · rw [y, upd_same]; exact ⟨_, rfl⟩
      · rw [upd_ne y]; exact ⟨ps, q⟩⟩
  have atP : H1 c.P = H c.P := by
    obtain ⟨cl, hP, _⟩ := S.pen
    rw [hP]
    exact toH1 _ _ (fun _ z => by cases z) hP
  have S' := S.step (p := ρ.pen) (H' := H1) (Same.refl R) (fun a o q => toH1 a o (fun ps z => S.pr.t a ps (z ▸ q)) (S.same a o q)) sx (fun i g a hg ha => by
    have m := S.out i g a hg ha
    cases hu : H a with
    | none => exact absurd hu m.h
    | some w => exact ⟨toH1 a w (m.k w hu).1 hu, m.r⟩) (fun a h => .inl h) S.pr (S.pen.mono (Same.refl R) atP) (eT ▸ N.tabs)
  exact ⟨sx, S'⟩
end
theorem reads_tupInts {h : Heap} {t : Addr} {its : List Value} : ∀ {ys : List D} {xs : List V} {is : List Int} {P : Addr} {Hh : Hp} {G : Gx}, intsOf ys = some is → RepL G P Hh ys xs → Vals xs its → ReadsAll h its (D.pys ys) []
  | [], xs, is, P, Hh, G, _, rx, r => by
    simp only [RepL] at rx; subst rx
    cases r; exact ReadsAll.nil
  | d :: ys, xs, is, P, Hh, G, e, rx, r => by
    cases d with
    | int i =>
      simp only [RepL, Rep] at rx
      obtain ⟨y, zs, rfl, rfl, r2⟩ := rx
      cases r with
      | cons q1 q2 =>
        obtain ⟨tk, rfl⟩ := q1
        unfold intsOf at e
        obtain ⟨is', e', _⟩ := Option.map_eq_some_iff.mp e
        simp only [D.pys, D.py]
        exact ReadsAll.cons (Reads.int i tk) (reads_tupInts (t := t) e' r2 q2)
    | _ => simp [intsOf] at e
/-- what is known where such a lambda is made -/
structure KLam (X : Cx) (nm : Nm) : Prop where
  gm : GM (gOf X nm)
  ex : ∃ c P, (c, P) ∈ nm.cs ∧ X.env.code = .ref c ∧ (P, X.env.qual ++ "<lambda>") ∈ nm.T ∧ ∀ p ∈ nm.T, p.1 = P → p.2 = X.env.qual ++ "<lambda>"
def oneParam : Arguments → Bool
  | ⟨[], [⟨y, none, _⟩], none, [], [], none, []⟩ => decide (y = "face")
  | _ => false
def keySc (x : Str) (sc : Scope) : Bool := decide (sc.kind = .function) && (!sc.isCoroutine && (!sc.isGenerator && (decide (sc.names.lookup x = some .local) && (decide (sc.names.lookup ("len" : Str) = some .globalImplicit) && ((sc.names.all fun y => !decide (y.2 = .cell) && !decide (y.2 = .free)) && !(x == ("__debug__" : Str)))))))
theorem bind_one {qual : Str} {params : Arguments} {body : Expr} {scope : Scope} {cl : List (Str × Addr)} {pm cv ctv : Value} (h : oneParam params = true) (v : Value) : bindArgs (PySem.W.kla_fn "<lambda>" qual params body scope cl pm cv ctv) ⟨[v], []⟩ = pure [(("face" : Str), v)] := by
  unfold oneParam at h
  split at h
  · obtain rfl := of_decide_eq_true h; rfl
  · cases h
section
variable {X : Cx} {nm : Nm} {W : WX} {Γ : Gam} {a : E} {e : Expr} {pos pl pk p0 p1 p2 p3 p4 p5 : Pos} {k : Nat} {params : Arguments} {scope : Scope} {L : Nat}
theorem boot_sorted : bootBuiltins ("sorted" : Str) = some (.builtin "sorted") := by with_unfolding_all rfl
theorem boot_len : bootBuiltins ("len" : Str) = some (.builtin "len") := by with_unfolding_all rfl
theorem x_sortLen {as : List E} (m : Rm X L) (KL : KLam X nm) (hg : Gl X "sorted") (hm : X.mg "sorted" = none) (hl : X.mg "len" = none) (hs : noStar e = true) (hp : oneParam params = true) (hsc : keySc "face" scope = true) (ha : pAs X nm W Γ as [e]) :
    PE X (.Call (.Name "sorted" p0) [e] [⟨some "key", .Lambda params (PySem.DLX.lenBody "face" p1 p2 p3 p4 p5 k) scope pl, pk⟩] pos) (tE (gOf X nm) W Γ (.sortk as)) := by
  simp only [keySc, Bool.and_eq_true, Bool.not_eq_true', decide_eq_true_eq, List.all_eq_true, decide_eq_false_iff_not] at hsc
  obtain ⟨c1, c2, c3, c4, c5, c6, c7⟩ := hsc
  refine ⟨fun pins s σ H Q I h => ?_⟩
  -- the argument goes on as data
  have h0 : tAs (gOf X nm) W Γ as σ H (fun xs H1 => ∃ c R τ ρ fps ds o, Sim (gOf X nm) c R H1 (σ ++ τ) ρ fps ∧ RepL (gOf X nm) c.P R ds xs ∧ sortLenD ds = some o ∧ Post (gOf X nm) W c σ τ R H1 (fun v ρ' R' H' fps' => ∀ x, VR (gOf X nm) c R' H' fps' v x → Q x H') (.ok ⟨none, o⟩ ρ)) := At.part h fun c τ ds ρ1 R1 H1 fp1 S1 h1 xs rs => by
    obtain ⟨v, ev, h2⟩ := h1.lft1
    obtain ⟨o, eo, rfl⟩ := Option.map_eq_some_iff.mp ev
    exact ⟨c, R1, τ, ρ1, fp1, ds, o, S1, rs, eo, h2⟩
  refine wpAny_Call_Name_kw (ld_blt I hg hm boot_sorted ?_)
  refine PyProof.Rows.callWith_kw (thn (ha.run pos pins s σ H _ I h0) fun us s1 hh => ?_) (by rw [star_of hs]; rfl) (by rw [star_of hs]; rfl)
  obtain ⟨vs, H1, I1, r1, c, R, τ, ρ, fps, ds, o, S, rx, eo, post⟩ := hh
  obtain ⟨cc, P, k1, k2, k3, k4⟩ := KL.ex
  refine PyProof.Rows.kws_cons (name := "key") (lam_new (L := ⟨X.env.qual ++ "<lambda>", params, PySem.DLX.lenBody "face" p1 p2 p3 p4 p5 k, scope⟩) I1 (KL.gm.tab (cc, P) k1) k2 rfl k3 k4 S.tab ?_ (fun y hy e => absurd e (c6 y hy).2) fun f c' H2 s2 N => PyProof.Rows.kws_nil ?_)
  · unfold oneParam at hp
    split at hp
    · rfl
    · cases hp
  show wpAny (model X.prog X.w) X.A (call (.builtin "sorted") us [(Str.ofString "key", .ref f)]) (EP X pins σ Q) X.xe s2
  obtain ⟨sx, S2⟩ := S.lamd N rfl
  have post2 := post.mono (Same.refl R) sx
  unfold sortLenD at eo
  split at eo
  · rename_i ys
    obtain ⟨v, rfl, h1⟩ := rx.one
    split at eo
    · rename_i hal
      rw [Bool.and_eq_true, List.all_eq_true] at hal
      cases eo
      have I2 := N.inv
      obtain ⟨pm, ctv, hobj⟩ := N.obj
      have un := m.room.un
      have okc : ObjOk X.prog X.w H2 s2.heap c' (LamX.CodeO c' (X.env.qual ++ "<lambda>")) := I2.hok c' _ N.code
      obtain ⟨⟨oc, fv, qt, objc, dc, nc⟩, _, _⟩ := okc
      obtain ⟨mb, hb1, hb2⟩ := I2.mod.blt
      have main : ∀ {l : Addr} {zs : List V}, v = .ref l → RepL (gOf X nm) c.P R ys zs → SqL X.K H2 l zs → wpAny (model X.prog X.w) X.A (call (.builtin "sorted") us [(Str.ofString "key", .ref f)]) (EP X pins σ Q) X.xe s2 := by
        intro l zs ev hzs hq
        subst ev
        rw [Vals.ref1 r1]
        obtain ⟨its, rv, pl', hz⟩ := I2.list hq
        have pl := pl'.isList
        have each : ∀ {ys : List D} {zs : List V} {its : List Value}, RepL (gOf X nm) c.P R ys zs → Vals zs its → PySem.W.EachIs (fun v d => ∃ x, RelV x v ∧ Rep (gOf X nm) c.P R d x) its ys := by
          intro ys
          induction ys with
          | nil => intro zs its h r; simp only [RepL] at h; subst h; cases r; exact .nil
          | cons d ys ih =>
            intro zs its h r
            simp only [RepL] at h
            obtain ⟨y, ys', rfl, h2, h3⟩ := h
            cases r with
            | cons q1 q2 => exact .cons ⟨y, q1, h2⟩ (ih h3 q2)
        have alM : ∀ b ∈ ys, okEq (keyLenD b) = true := fun b hb => (alike_mem hal.1 (keyLenD b) (List.mem_map.mpr ⟨b, hb, rfl⟩)).1
        refine PySem.W.sorted_key_data (R := fun v d => ∃ x, RelV x v ∧ Rep (gOf X nm) c.P R d x) (b := false) (k := fun d => (keyLenD d).py) pl (each hzs rv) ?_ ?_ (by rw [hzs.length]; exact hz) (fun b hb => by
          have := deep_of (alM b hb)
          omega) (PyProof.Rows.ksk_s1 _ _) (fun x => PyProof.Rows.ksk_l1 _ _) (fun x => PyProof.Rows.ksk_t1 _ _) ?_ ?_
        · have := alike_AllAlike hal.1
          rwa [List.map_map] at this
        · refine .inl fun q hq => ?_
          obtain ⟨b, hb, rfl⟩ := List.mem_map.mp hq
          have := hal.2 b hb
          unfold tupInts at this
          split at this
          · simp only [keyLenD, D.py, D.pys]; exact ⟨_, _, rfl⟩
          · cases this
        · rintro v b ⟨x', rv', rb⟩ hb hh tk kp
          have tb := hal.2 b hb
          unfold tupInts at tb
          split at tb
          · rename_i ws
            obtain ⟨is, ei⟩ := Option.isSome_iff_exists.mp tb
            simp only [Rep] at rb
            obtain ⟨t, xs, rfl, ht, rxs⟩ := rb
            obtain rfl : v = Value.ref t := rv'
            obtain ⟨us', rus, plt, hzt⟩ := I2.tuple (Same.sqT S2.same ht)
            obtain ⟨ot, o1, o2, n, o3⟩ := plt
            have lim : s2.heap.NoLimit := I2.mod.nolimit.keeps I2.bk
            have z := PySem.DLX.keyLen_turn (P := X.prog) (w := X.w) (A := X.A.in1.in1) (s := { s2 with heap := hh, toks := tk }) (f := f) (c' := c') (t := t) (us := us') (mg := X.mg) (mb := mb) m.room.depth (kp _ _ hobj) ⟨c', oc, fv, qt, rfl, kp _ _ objc, dc, nc⟩ c1 c2 c3 c4 c5 (fun y hy => (c6 y hy).1) (fun v => bind_one hp v) ((I2.mod.glob.keeps I2.bk).keeps kp) hl ((hb1.keeps I2.bk).keeps kp) ((hb2 _ (by decide)).trans boot_len) (lim.keeps kp) ⟨ot, kp _ _ o1, o2, n, o3⟩ (by rw [← rus.length]; exact hzt) c7
            refine wpAny_mono z (fun r s3 hr => ?_) fun _ _ z => z
            obtain ⟨h', tk', p, tk1, es, kp2, rfl, ep⟩ := hr
            subst es
            refine ⟨h', tk', rfl, kp2, ?_⟩
            simp only [keyLenD, D.py, D.pys]
            have ly : (ws.length : Int) = (us'.length : Int) := by rw [rxs.length, rus.length]
            rw [ly]
            refine Reads.tuple ep rfl rfl (ReadsAll.cons (as := []) (Reads.int _ _) (ReadsAll.cons (as := []) (Reads.tuple (kp2 _ _ (kp _ _ o1)) o2 o3 ?_) ReadsAll.nil))
            simpa using reads_tupInts (t := t) ei rxs rus
          · cases tb
        · intro out cq h' tk' kp fr at_ ol eo
          obtain ⟨ws, rw1, rw2⟩ := each_back eo
          have hn : H2 (s2.heap.objs.size + 1) = none := I2.hok.fresh (Nat.le_succ _)
          refine ⟨.ref (s2.heap.objs.size + 1), _, I2.laid (t' := tk') (o := .lst ws) kp (Nat.le_succ _) ?_, rfl, done_list S2 (ds := sortLenL ys) post2 hn rw2⟩
          exact ⟨by rw [← rw2.length, List.length_mergeSort, hzs.length]; exact hz, out, cq, rw1, at_⟩
      simp only [Rep] at h1
      obtain ⟨l, zs, rfl, hL, hzs⟩ := h1
      exact main rfl hzs (SqL.of (S2.same _ _ hL))
    · cases eo
  · cases eo
def lenB : Expr → Bool
  | .Tuple [.Call (.Name l _) [.Name x _] [] _, .Name y _] _ _ => decide (l = "len") && (decide (x = "face") && decide (y = "face"))
  | _ => false
end
end DL

set_option Elab.async false
set_option linter.all false
set_option maxRecDepth 100000
/-! DL35: list(range(..)), tuple(range(..)); built between DL22 and DL23. -/
namespace DL
open PySem PySem.Spec PyProof.Rows L2
section
variable {X : Cx} {nm : Nm} {W : WX} {Γ : Gam} {a b : E} {e1 e2 : Expr} {p1 p2 pos pos2 : Pos}
theorem rg_rep {G : Gx} {P : Addr} {H : Hp} {i j : Int} : RepL G P H ((List.range (j - i).toNat).map fun (k : Nat) => D.int (i + k)) (rgV i j) := by
  unfold rgV
  have key : ∀ ks : List Nat, RepL G P H (ks.map fun (k : Nat) => D.int (i + k)) (ks.map fun (k : Nat) => V.int (i + (k : Nat))) := by
    intro ks
    induction ks with
    | nil => exact RepL.nil
    | cons k ks ih => exact RepL.cons (by simp only [Rep]) ih
  exact key _
/-- what is made of a range -/
def rgO (tup : Bool) (xs : List D) : Option O := if xs.length ≤ lineN then some (if tup = true then .frz (.tup xs) else .own (xs.map O.frz)) else none
theorem rg_done {σ τ : L2.St} {c : Cf} {R H : Hp} {ρ : Env} {fps : List (List Addr)} {Q : VK} {tup : Bool} {i j : Int} (S : Sim (gOf X nm) c R H (σ ++ τ) ρ fps) (hb : -(2 ^ 62) ≤ i ∧ i < 2 ^ 62 ∧ -(2 ^ 62) ≤ j ∧ j < 2 ^ 62)
    (h : Post (gOf X nm) W c σ τ R H (fun v ρ' R' H' fps' => ∀ x, VR (gOf X nm) c R' H' fps' v x → Q x H') (lft ((rgO tup ((List.range (j - i).toNat).map fun (k : Nat) => D.int (i + k))).map fun o => (⟨none, o⟩ : Val)) ρ)) :
    RgOk i j ∧ ∀ q, H q = none → Q (.ref q) (upd H q (if tup = true then .tup (rgV i j) else .lst (rgV i j))) := by
  obtain ⟨v, ev', h2⟩ := h.lft1
  rw [Option.map_eq_some_iff] at ev'
  obtain ⟨o, eo, rfl⟩ := ev'
  unfold rgO at eo
  split at eo
  · rename_i hl
    rw [List.length_map, List.length_range] at hl
    cases eo
    refine ⟨⟨hb.1, hb.2.1, hb.2.2.1, hb.2.2.2, hl⟩, fun q hq => ?_⟩
    cases tup with
    | true => exact done_new S h2 hq fun R' e hR => by simp only [Rep]; exact ⟨q, _, rfl, hR, rg_rep⟩
    | false => exact done_list S h2 hq rg_rep
  · cases eo
theorem evv_one {Γ : Gam} {a : E} {α : Type} {k : List D → M α} : bnd (evv Γ [a]) k = bnd (ev Γ a) fun x => bnd (vw x) fun d => k [d] := by
  funext ρ
  have e : evv Γ [a] = bnd (ev Γ a) fun x => bnd (vw x) fun d => bnd (DL.ret []) fun ds => DL.ret (d :: ds) := by rw [evv, evv]
  rw [e]
  unfold bnd DL.ret
  cases ev Γ a ρ with
  | ok x ρ1 =>
    cases hv : vw x ρ1 <;> simp only [hv]
  | err _ _ _ _ => rfl
  | bad => rfl
theorem evv_two {Γ : Gam} {a b : E} {α : Type} {k : List D → M α} : bnd (evv Γ [a, b]) k = bnd (ev Γ a) fun x => bnd (vw x) fun d => bnd (ev Γ b) fun y => bnd (vw y) fun d2 => k [d, d2] := by
  have e : bnd (evv Γ [a, b]) k = bnd (ev Γ a) fun x => bnd (vw x) fun d => bnd (evv Γ [b]) fun ds => k (d :: ds) := by
    funext ρ
    rw [evv]
    unfold bnd DL.ret
    cases ev Γ a ρ with
    | ok x ρ1 =>
      cases h : vw x ρ1 with
      | ok d ρ2 => simp only [h]; cases evv Γ [b] ρ2 <;> rfl
      | err _ _ _ _ => simp only [h]
      | bad => simp only [h]
    | err _ _ _ _ => rfl
    | bad => rfl
  rw [e]
  funext ρ
  congr 1
  funext x
  congr 1
  funext d
  rw [evv_one (k := fun ds => k (d :: ds))]
def rgB (tup : Bool) (two : Bool) : B := if tup = true then .tupR two else .listR two
theorem rg_ev {tup two : Bool} {as : List E} : ev Γ (.bi (rgB tup two) as) = bnd (evv Γ as) fun ds => bnd (lft (rngD two ds)) fun xs => lft ((rgO tup xs).map fun o => (⟨none, o⟩ : Val)) := by
  have hb : (rgB tup two).esc = false := by cases tup <;> rfl
  rw [ev, if_neg (by rw [hb]; decide)]
  funext ρ
  congr 1
  funext ds ρ
  have e : biD (rgB tup two) ds = (rngD two ds).bind (rgO tup) := by
    cases tup <;> rfl
  rw [e]
  cases rngD two ds with
  | none => rfl
  | some xs => rfl
def rgT (tup : Bool) (te : L2.St → Hp → (Int → Int → Hp → Prop) → Prop) : TE := fun σ H Q => te σ H fun a b H1 => RgOk a b ∧ ∀ q, H1 q = none → Q (.ref q) (upd H1 q (if tup = true then .tup (rgV a b) else .lst (rgV a b)))
def rgN (tup : Bool) : Str := if tup = true then "tuple" else "list"
theorem pe_rg {tup : Bool} {e : Expr} {te : L2.St → Hp → (Int → Int → Hp → Prop) → Prop} {x : Str} (hc : X.calm = true) (hx : x = rgN tup) (hg : Gl X x) (hm : X.mg x = none) (he : PRg X e te) (hs : noStar e = true) : PE X (.Call (.Name x p1) [e] [] pos) (rgT tup te) := by
  subst hx
  cases tup with
  | true => exact pe_tupRg hc hg hm he (star_of hs)
  | false => exact pe_listRg hc hg hm he (star_of hs)
theorem x_rg1 {tup : Bool} {x : Str} (hc : X.calm = true) (hx : x = rgN tup) (hg : Gl X x) (hm : X.mg x = none) (hg2 : Gl X "range") (hm2 : X.mg "range" = none) (hs : noStar e1 = true) (ha : pE X nm W Γ a e1) :
    pE X nm W Γ (.bi (rgB tup false) [a]) (.Call (.Name x p1) [.Call (.Name "range" p2) [e1] [] pos2] [] pos) := by
  refine (pe_rg hc hx hg hm (prg_1 hg2 hm2 ha (star_of hs)) rfl).weak fun σ H Q hl h => ?_
  have h0 : At (gOf X nm) W (bnd (ev Γ a) fun x => bnd (vw x) fun d => bnd (lft (rngD false [d])) fun xs => lft ((rgO tup xs).map fun o => (⟨none, o⟩ : Val))) (fun c _ v _ R' H' fps' => ∀ x, VR (gOf X nm) c R' H' fps' v x → Q x H') σ H := by
    rw [← evv_one (k := fun ds => bnd (lft (rngD false ds)) fun xs => lft ((rgO tup xs).map fun o => (⟨none, o⟩ : Val))), ← rg_ev]; exact h
  refine h0.part fun c τ vx ρ1 R1 H1 fp1 S1 h1 x rx => ?_
  obtain ⟨d, rd, h2⟩ := Post.vw S1 rx h1
  obtain ⟨xs, er, h3⟩ := h2.lftB
  obtain ⟨j, ed, b1, b2, rfl⟩ := rng_eq1 er
  cases ed
  simp only [Rep] at rd
  have e0 : ((List.range j.toNat).map fun (k : Nat) => D.int (0 + k)) = ((List.range (j - 0).toNat).map fun (k : Nat) => D.int (0 + k)) := by rw [Int.sub_zero]
  rw [e0] at h3
  exact ⟨j, rd, rg_done S1 ⟨by decide, by decide, b1, b2⟩ h3⟩
theorem x_rg2 {tup : Bool} {x : Str} (hc : X.calm = true) (hx : x = rgN tup) (hg : Gl X x) (hm : X.mg x = none) (hg2 : Gl X "range") (hm2 : X.mg "range" = none) (hs1 : noStar e1 = true) (hs2 : noStar e2 = true) (ha : pE X nm W Γ a e1) (hb : pE X nm W Γ b e2) :
    pE X nm W Γ (.bi (rgB tup true) [a, b]) (.Call (.Name x p1) [.Call (.Name "range" p2) [e1, e2] [] pos2] [] pos) := by
  refine (pe_rg hc hx hg hm (prg_2 hg2 hm2 ha hb (by rw [star_of hs1]) (star_of hs2) (by rw [star_of hs2]; rfl)) rfl).weak fun σ H Q hl h => ?_
  have h0 : At (gOf X nm) W (bnd (ev Γ a) fun x => bnd (vw x) fun d => bnd (ev Γ b) fun y => bnd (vw y) fun d2 => bnd (lft (rngD true [d, d2])) fun xs => lft ((rgO tup xs).map fun o => (⟨none, o⟩ : Val))) (fun c _ v _ R' H' fps' => ∀ x, VR (gOf X nm) c R' H' fps' v x → Q x H') σ H := by
    rw [← evv_two (k := fun ds => bnd (lft (rngD true ds)) fun xs => lft ((rgO tup xs).map fun o => (⟨none, o⟩ : Val))), ← rg_ev]; exact h
  refine h0.part fun c τ vx ρ1 R1 H1 fp1 S1 h1 x rx => ?_
  obtain ⟨d, rd, h2⟩ := Post.vw S1 rx h1
  refine At.ofPart S1 h2 fun vy ρ2 R2 H2 fp2 e12 sx S2 h3 y ry => ?_
  obtain ⟨d2, rd2, h4⟩ := Post.vw S2 ry h3
  obtain ⟨xs, er, h5⟩ := h4.lftB
  obtain ⟨i, j, ed, bb, rfl⟩ := rng_eq2 er
  cases ed
  simp only [Rep] at rd rd2
  exact ⟨i, j, rd, rd2, rg_done S2 bb h5⟩
end
end DL

set_option Elab.async false
set_option linter.all false
set_option maxRecDepth 100000
/-! DL36: xs.append(ys.pop(k)). -/
namespace DL
open PySem PySem.Spec PyProof.Rows L2
section
variable {G : Gx} {c : Cf} {R H : Hp} {σ : L2.St} {ρ : Env} {fps : List (List Addr)}
theorem rol_erase {G : Gx} {P : Addr} {R H : Hp} : ∀ {os : List O} {xs : List V} {fq : List Addr} {n : Nat} {d : D}, ROL G P H R os xs fq → os[n]? = some (.frz d) → ∃ v, xs[n]? = some v ∧ Rep G P R d v ∧ ROL G P H R (os.eraseIdx n) (xs.eraseIdx n) fq
  | [], _, _, _, _, _, h => by simp at h
  | o :: os, xs, fq, 0, d, h, k => by
    simp only [ROL] at h
    obtain ⟨y, ys, f1, f2, rfl, rfl, h3, h4⟩ := h
    have e : o = .frz d := by simpa using k
    subst e
    simp only [RO] at h3
    obtain ⟨h3, rfl⟩ := h3
    exact ⟨y, rfl, h3, by simpa using h4⟩
  | o :: os, xs, fq, n + 1, d, h, k => by
    simp only [ROL] at h
    obtain ⟨y, ys, f1, f2, rfl, rfl, h3, h4⟩ := h
    obtain ⟨v, e1, e2, e3⟩ := rol_erase h4 (by simpa using k)
    refine ⟨v, by simpa using e1, e2, ?_⟩
    simp only [List.eraseIdx_cons_succ, ROL]
    exact ⟨y, _, f1, f2, rfl, rfl, h3, e3⟩
/-- an item of the list at a slot goes -/
theorem Sim.popAt (s : Sim G c R H σ ρ fps) {j : Nat} {os : List O} {n : Nat} {d : D} {v : V} (hj : ρ.sl[j]? = some (some (.own os))) (hn : os[n]? = some (.frz d)) (hv : σ[j]? = some (some v)) :
    ∃ D xs y fps', v = .ref D ∧ H D = some (.lst xs) ∧ xs.length = os.length ∧ xs[n]? = some y ∧ Rep G c.P R d y ∧ Sim G c R (upd H D (.lst (xs.eraseIdx n))) σ (ρ.set j (some (.own (os.eraseIdx n)))) fps' := by
  obtain ⟨v', f, a1, a2, a3⟩ := s.sl.at_ j _ hj
  rw [hv] at a1; cases a1
  simp only [RO] at a3
  obtain ⟨D, xs, fq, rfl, hD, rfl, hx⟩ := a3
  have nd := List.nodup_cons.mp (s.dis.nd j _ a2)
  obtain ⟨y, e1, e2, e3⟩ := rol_erase hx hn
  refine ⟨D, xs, y, _, rfl, hD, (rol_len hx).symm, e1, e2, s.putO (f' := D :: fq) hj a2 (List.mem_cons_self) hv ?_ (List.nodup_cons.mpr nd) (fun a ha => .inl ha)⟩
  simp only [RO]
  exact ⟨D, xs.eraseIdx n, fq, rfl, upd_same, rfl, ROL.mono (Same.refl R) _ _ fq (fun a ha => upd_ne fun e => nd.1 (e ▸ ha)) e3⟩
end
section
variable {X : Cx} {nm : Nm} {W : WX} {Γ : Gam} {a : E} {e : Expr} {p2 p3 p4 p5 p6 p7 pos : Pos}
theorem own_at {ρ : Env} {i : Nat} {α : Type} {m : M α} {r : Res Env α} (h : bnd (isOwn i) (fun _ => m) ρ = r) (hr : r ≠ .bad) : (∃ os, ρ.sl[i]? = some (some (.own os))) ∧ m ρ = r := by
  unfold bnd isOwn at h
  cases e : ρ.sl[i]? with
  | none => rw [e] at h; exact absurd h.symm hr
  | some u =>
    rw [e] at h
    cases u with
    | none => exact absurd h.symm hr
    | some o =>
      cases o with
      | own os => exact ⟨⟨os, rfl⟩, h⟩
      | _ => exact absurd h.symm hr
theorem s_apop {i j : Nat} {x y : Str} (hN : X.N[i]? = some x) (hv : Vis X.env.scope x) (hd : (x == ("__debug__" : Str)) = false) (hcd : (x == ("__classdict__" : Str)) = false) (kN : X.N[j]? = some y) (kv : Vis X.env.scope y) (kd : (y == ("__debug__" : Str)) = false) (kcd : (y == ("__classdict__" : Str)) = false)
    (hs : noStar e = true) (hl : (p3.endLine == p4.line) = true) (kl : (p6.endLine == p7.line) = true) (ha : pE X nm W Γ a e) :
    pS X nm W Γ (.apop i j a) (.Expr (.Call (.Attribute (.Name x p2) "append" p3) [.Call (.Attribute (.Name y p5) "pop" p6) [e] [] p7] [] p4) pos) := by
  have pi : PE X (.Call (.Attribute (.Name y p5) "pop" p6) [e] [] p7) (tBM X.K "list" rPopAt (tVar j) (tCons (tE (gOf X nm) W Γ a) tNil)) :=
    pe_bm PySem.F.plainAttrs_list PySem.F.slot_list_pop PySem.F.type_list_pop mt_popAt (pe_var kN kv kd kcd) (pa_cons ha pa_nil (star_of hs)) (ab_of rfl) (by rw [star_of hs]; rfl) kl (star_of hs) rfl
  have hs2 : noStar (.Call (.Attribute (.Name y p5) "pop" p6) [e] [] p7) = true := rfl
  have pe : PE X (.Call (.Attribute (.Name x p2) "append" p3) [.Call (.Attribute (.Name y p5) "pop" p6) [e] [] p7] [] p4) (tBM X.K "list" rAppend (tVar i) (tCons (tBM X.K "list" rPopAt (tVar j) (tCons (tE (gOf X nm) W Γ a) tNil)) tNil)) :=
    pe_bm PySem.F.plainAttrs_list PySem.F.slot_list_append PySem.F.type_list_append mt_append (pe_var hN hv hd hcd) (pa_cons pi pa_nil (star_of hs2)) (ab_of rfl) (by rw [star_of hs2]; rfl) hl (star_of hs2) rfl
  refine (ps_expr pe).weak fun D σ H hl ⟨c, R, ρ, fps, S, h⟩ => ?_
  have h' : PostS (gOf X nm) W c R σ.length D (evS Γ (.apop i j a) ρ) := h
  rw [evS] at h'
  have nb : ∀ {r : Res Env Fl}, PostS (gOf X nm) W c R σ.length D r → r ≠ .bad := fun h e => by rw [e] at h; exact h
  obtain ⟨⟨os, eo⟩, h1⟩ := own_at rfl (nb h')
  rw [← h1] at h'
  obtain ⟨⟨ps, ep⟩, h2⟩ := own_at rfl (nb h')
  rw [← h2] at h'
  obtain ⟨v, f, a1, a2, a3⟩ := S.sl.at_ i _ eo
  simp only [RO] at a3
  obtain ⟨l, xs, fq, rfl, hp, rfl, hx⟩ := a3
  obtain ⟨v2, f2, b1, b2, b3⟩ := S.sl.at_ j _ ep
  simp only [RO] at b3
  obtain ⟨l2, xs2, fq2, rfl, hp2, rfl, hx2⟩ := b3
  refine ⟨.ref l, a1, .inl ⟨rfl, xs, SqL.of hp⟩, ?_⟩
  refine ⟨.ref l2, b1, .inl ⟨rfl, xs2, SqL.of hp2⟩, ?_⟩
  refine PostS.at_ S h' fun vy ρ1 R1 H1 fp1 e1 sx S1 h3 w rw_ => ?_
  obtain ⟨k, rfl, h4⟩ := PostS.int rw_ h3
  cases eo1 : ρ1.sl[j]? with
  | none => simp only [eo1] at h4; exact h4.elim
  | some u =>
    cases u with
    | none => simp only [eo1] at h4; exact h4.elim
    | some o =>
      cases o with
      | own os1 =>
        simp only [eo1] at h4
        by_cases ij : i = j
        · rw [if_pos ij] at h4; exact h4.elim
        · rw [if_neg ij] at h4
          cases en : ixN os1.length k with
          | none => simp only [en] at h4; exact h4.elim
          | some n =>
            simp only [en] at h4
            cases et : os1[n]? with
            | none => simp only [et] at h4; exact h4.elim
            | some t =>
              cases t with
              | frz d =>
                simp only [et] at h4
                by_cases z : os1.length ≤ lineN
                · rw [if_pos z] at h4
                  obtain ⟨D1, ys, y1, fp2, e2, hD, hlen, hy, ry, S2⟩ := S1.popAt eo1 et b1
                  cases e2
                  obtain ⟨s1, s2, s3, s4⟩ := ixN_seq en
                  have zl : os1.length ≤ 16777216 := z
                  refine ⟨l2, ys, k, n, y1, rfl, rfl, hD, by omega, by omega, by rw [hlen]; exact s1, hy, ?_⟩
                  have h5 : PostS (gOf X nm) W c R1 σ.length D (modOwn i (fun os => if os.length < lineN then some (os ++ [.frz d]) else none) (ρ1.set j (some (.own (os1.eraseIdx n))))) := by
                    have q : bnd (modOwn j fun os => some (os.eraseIdx n)) (fun _ => modOwn i fun os => if os.length < lineN then some (os ++ [.frz d]) else none) ρ1 = modOwn i (fun os => if os.length < lineN then some (os ++ [.frz d]) else none) (ρ1.set j (some (.own (os1.eraseIdx n)))) := by
                      unfold bnd modOwn
                      simp only [eo1]
                    rw [q] at h4; exact h4
                  unfold modOwn at h5
                  cases eo2 : (ρ1.set j (some (.own (os1.eraseIdx n)))).sl[i]? with
                  | none => simp only [eo2] at h5; exact h5.elim
                  | some u2 =>
                    cases u2 with
                    | none => simp only [eo2] at h5; exact h5.elim
                    | some o2 =>
                      cases o2 with
                      | own os2 =>
                        simp only [eo2] at h5
                        by_cases z2 : os2.length < lineN
                        · rw [if_pos z2] at h5
                          obtain ⟨D2, zs, fp3, e3, nP, hD2, hlen2, S3⟩ := S2.push eo2 a1 (VR.frz none S2 ry)
                          cases e3
                          refine ⟨l, zs, y1, rfl, rfl, hD2, by rw [hlen2, lineN_eq]; exact z2, ?_⟩
                          exact h5 R1 _ σ fp3 rfl (Same.refl _) S3
                        · rw [if_neg z2] at h5; exact h5.elim
                      | _ => simp only [eo2] at h5; exact h5.elim
                · rw [if_neg z] at h4; exact h4.elim
              | _ => simp only [et] at h4; exact h4.elim
      | _ => simp only [eo1] at h4; exact h4.elim
end
end DL

set_option Elab.async false
set_option linter.all false
set_option maxRecDepth 100000
/-! DL37: dicts whose keys are tuples, owned by a slot. -/
namespace DL
open PySem PySem.Spec PyProof.Rows L2
section
variable {G : Gx} {c : Cf} {R H : Hp} {σ : L2.St} {ρ : Env} {fps : List (List Addr)}
/-- tuples that stand in the heap are of the region -/
theorem Sim.tups (s : Sim G c R H σ ρ fps) {bs : List Addr} (hb : ∀ b ∈ bs, ∃ xs, H b = some (.tup xs)) : Sim G c (Fz R H bs) H σ ρ fps ∧ Same R (Fz R H bs) := by
  have e := Fz.same (f := bs) s.same
  have nP : c.P ∉ bs := fun h => by
    obtain ⟨xs, hx⟩ := hb _ h
    obtain ⟨_, hp, _⟩ := s.pen
    rw [hp] at hx; cases hx
  have r := s.step (p := ρ.pen) e (Fz.within s.same) (SX.refl _ _) (fun i f a hi ha => ⟨rfl, by
    have m := s.out i f a hi ha
    rw [Fz.not fun q => ?_]
    · exact m.r
    · obtain ⟨xs, hx⟩ := hb a q
      exact absurd rfl ((m.k _ hx).2.2 xs)⟩) (fun a h => by
    by_cases q : a ∈ bs
    · exact .inr (.inr (.inr (hb a q)))
    · rw [Fz.not q] at h; exact .inl h) ⟨by rw [Fz.not nP]; exact s.pr.p, fun a ps z => by
      by_cases q : a ∈ bs
      · obtain ⟨xs, hx⟩ := hb a q
        rw [Fz.mem q, hx] at z; cases z
      · rw [Fz.not q] at z; exact s.pr.t a ps z⟩ (s.pen.mono e rfl) s.tab
  exact ⟨r, e⟩
end
theorem keysOf_rep {G : Gx} {P : Addr} {H : Hp} : ∀ {ds : List D} {ks : List Key} {xs : List V}, keysOf ds = some ks → RepL G P H ds xs → xs = ks.map kV
  | [], ks, xs, h, r => by
    cases h
    simp only [RepL] at r
    rw [r]; rfl
  | d :: ds, ks, xs, h, r => by
    unfold keysOf at h
    cases e1 : keyOf1 d with
    | none => rw [e1] at h; cases h
    | some k =>
      cases e2 : keysOf ds with
      | none => rw [e1, e2] at h; cases h
      | some ks' =>
        rw [e1, e2] at h; cases h
        simp only [RepL] at r
        obtain ⟨y, ys, rfl, r1, r2⟩ := r
        rw [keysOf_rep e2 r2]
        unfold keyOf1 at e1
        split at e1
        · cases e1; simp only [Rep] at r1; rw [r1]; rfl
        · cases e1; simp only [Rep] at r1; rw [r1]; rfl
        · cases e1
theorem rep_keys {G : Gx} {P : Addr} {H : Hp} : ∀ (ks : List Key), RepL G P H (ks.map keyD) (ks.map kV)
  | [] => RepL.nil
  | .inl i :: ks => RepL.cons (by simp only [keyD, Rep]; rfl) (rep_keys ks)
  | .inr x :: ks => RepL.cons (by simp only [keyD, Rep]; rfl) (rep_keys ks)
theorem putT_rel {G : Gx} {P : Addr} {H : Hp} {k : List Key} {d : D} {v : V} (rv : Rep G P H d v) {ks : List (List Key)} {ds : List D} {kvs : List (List Key × V)} (h1 : kvs.map (·.1) = ks) (h2 : RepL G P H ds (kvs.map (·.2))) :
    (putK kvs k v).map (·.1) = (putT (ks.zip ds) k d).map (·.1) ∧ RepL G P H ((putT (ks.zip ds) k d).map (·.2)) ((putK kvs k v).map (·.2)) := by
  have any : ∀ {kvs : List (List Key × V)} {ds : List D}, RepL G P H ds (kvs.map (·.2)) → (((kvs.map (·.1)).zip ds).any fun p => decide (p.1 = k)) = kvs.any fun kv => decide (kv.1 = k) := by
    intro kvs
    induction kvs with
    | nil => intro ds h; simp
    | cons a kvs ih =>
      intro ds h
      cases ds with
      | nil => simp [RepL] at h
      | cons e ds =>
        simp only [List.map_cons, RepL] at h
        obtain ⟨y, ys, e1, h3, h4⟩ := h
        cases e1
        simp only [List.map_cons, List.zip_cons_cons, List.any_cons, ih h4]
  have mp : ∀ {kvs : List (List Key × V)} {ds : List D}, RepL G P H ds (kvs.map (·.2)) → (kvs.map (fun kv => if kv.1 = k then (kv.1, v) else kv)).map (·.1) = ((((kvs.map (·.1)).zip ds).map fun p => if p.1 = k then (p.1, d) else p).map (·.1)) ∧ RepL G P H ((((kvs.map (·.1)).zip ds).map fun p => if p.1 = k then (p.1, d) else p).map (·.2)) ((kvs.map (fun kv => if kv.1 = k then (kv.1, v) else kv)).map (·.2)) := by
    intro kvs
    induction kvs with
    | nil => intro ds h; simp [RepL]
    | cons a kvs ih =>
      intro ds h
      cases ds with
      | nil => simp [RepL] at h
      | cons e ds =>
        simp only [List.map_cons, RepL] at h
        obtain ⟨y, ys, e1, h3, h4⟩ := h
        cases e1
        obtain ⟨i1, i2⟩ := ih h4
        simp only [List.map_cons, List.zip_cons_cons]
        by_cases q : a.1 = k
        · rw [if_pos q, if_pos q]
          exact ⟨by rw [i1], RepL.cons rv i2⟩
        · rw [if_neg q, if_neg q]
          exact ⟨by rw [i1], RepL.cons h3 i2⟩
  subst h1
  unfold putK putT
  rw [any h2]
  split
  · exact mp h2
  · have l : ds.length = kvs.length := by rw [h2.length, List.length_map]
    constructor
    · rw [List.map_append, List.map_append, List.map_fst_zip (by rw [List.length_map]; omega)]; rfl
    · rw [List.map_append, List.map_append, List.map_snd_zip (by rw [List.length_map]; omega)]
      exact h2.append (RepL.cons rv RepL.nil)
section
variable {X : Cx} {nm : Nm} {W : WX} {Γ : Gam} {a b : E} {e e1 e2 : Expr} {p2 p3 p4 pos : Pos}
theorem x_newt : pE X nm W Γ .newt (.Dict [] [] pos) := by
  refine (pe_dnewT (X := X) (pos := pos)).weak fun σ H Q hl h => ?_
  obtain ⟨c, R, ρ, τ, fps, S, h⟩ := h
  intro p hp
  have h' : Post (gOf X nm) W c σ τ R H (fun v ρ' R' H' fps' => ∀ x, VR (gOf X nm) c R' H' fps' v x → Q x H') (.ok ⟨none, .odt [] []⟩ ρ) := h
  obtain ⟨s', sx, m, n⟩ := S.newO (o := .dT []) hp ⟨fun _ z => (nomatch z), fun _ z => (nomatch z), fun _ z => (nomatch z)⟩
  refine h' _ _ _ (Same.refl R) sx s' _ ⟨[p], ?_, by simp, fun a ha => ?_⟩
  · simp only [RO]
    exact ⟨p, [], rfl, upd_same, rfl, RepL.nil, rfl⟩
  · simp only [List.mem_cons, List.not_mem_nil, or_false] at ha
    subst ha; exact ⟨m, n⟩
theorem keys_rep {G : Gx} {P : Addr} {H R1 : Hp} : ∀ {kvs : List (List Key × V)} {bs : List Addr}, IsKeys H kvs bs → (∀ b ∈ bs, R1 b = H b) → RepL G P R1 ((kvs.map (·.1)).map fun k => D.tup (k.map keyD)) (bs.map V.ref)
  | [], _, .nil, _ => RepL.nil
  | kv :: kvs, _, .cons h t, e => RepL.cons (by
      simp only [Rep]
      exact ⟨_, _, rfl, (e _ (by simp)).trans h, rep_keys _⟩) (keys_rep t fun b hb => e b (by simp [hb]))
theorem isKeys_tup {H : Hp} : ∀ {kvs : List (List Key × V)} {bs : List Addr}, IsKeys H kvs bs → ∀ b ∈ bs, ∃ xs, H b = some (.tup xs)
  | [], _, .nil, _, h => nomatch h
  | kv :: kvs, _, .cons h t, b, hb => by
    rcases List.mem_cons.mp hb with e | e
    · rw [e]; exact ⟨_, h⟩
    · exact isKeys_tup t b e
theorem x_tkeys {i : Nat} {x : Str} (hc : X.calm = true) (hg : Gl X "list") (hm : X.mg "list" = none) (hN : X.N[i]? = some x) (hv : Vis X.env.scope x) (hd : (x == ("__debug__" : Str)) = false) (hcd : (x == ("__classdict__" : Str)) = false) :
    pE X nm W Γ (.tkeys i) (.Call (.Name "list" p2) [.Name x p3] [] pos) := by
  refine (pe_callTy (call_list_dT hc) hg hm (by decide +kernel) (pa_cons (pe_var hN hv hd hcd) pa_nil)).weak fun σ H Q hl h => ?_
  have hi : i < σ.length := by rw [hl]; exact (List.getElem?_eq_some_iff.mp hN).1
  obtain ⟨c, R, ρ, τ, fps, S, h⟩ := h
  have h' : Post (gOf X nm) W c σ τ R H (fun v ρ' R' H' fps' => ∀ x, VR (gOf X nm) c R' H' fps' v x → Q x H') (ev Γ (.tkeys i) ρ) := h
  rw [ev] at h'
  cases eo : ρ.sl[i]? with
  | none => simp only [eo] at h'; exact h'.elim
  | some u =>
    cases u with
    | none => simp only [eo] at h'; exact h'.elim
    | some o =>
      cases o with
      | odt ks ds =>
        simp only [eo] at h'
        obtain ⟨v, f, a1, a2, a3⟩ := S.sl.at_ i _ eo
        rw [List.getElem?_append_left hi] at a1
        simp only [RO] at a3
        obtain ⟨p, kvs, rfl, hp, rfl, hx, rfl⟩ := a3
        refine ⟨.ref p, a1, ⟨p, kvs, rfl, .inl hp, fun q bs hq hk => ?_⟩⟩
        obtain ⟨S1, e1⟩ := S.tups (isKeys_tup hk)
        exact done_list S1 (Post.mono h' e1 (SX.refl _ _)) hq (keys_rep hk fun b hb => Fz.mem hb)
      | _ => simp only [eo] at h'; exact h'.elim
theorem s_tput {i : Nat} {x : Str} (hu : X.A.units + 1 < cLine) (hN : X.N[i]? = some x) (hv : Vis X.env.scope x) (hd : (x == ("__debug__" : Str)) = false) (hcd : (x == ("__classdict__" : Str)) = false)
    (hs : swapsWith e2 (some (.Subscript (.Name x p2) e1 p4)) pos.line X.env = pure false) (ha : pE X nm W Γ a e1) (hb : pE X nm W Γ b e2) :
    pS X nm W Γ (.tput i a b) (.Assign [.Subscript (.Name x p2) e1 p4] e2 pos) := by
  refine (ps_dput hu (pe_var hN hv hd hcd) ha hb hs).weak fun D σ H hl ⟨c, R, ρ, fps, S, h⟩ => ?_
  refine PostS.at_ S h fun vy ρ1 R1 H1 fp1 e1' sx S1 h1 v rv => ?_
  obtain ⟨d, ρ2, R2, fp2, e2', S2, rd2, h2⟩ := PostS.esc S1 rv h1
  have h3 : PostS (gOf X nm) W c R2 σ.length D (bnd (isOdt i) (fun _ => bnd (ev Γ a) fun y => bnd (esc y) fun k => fun ρ => match k, ρ.sl[i]? with
    | .tup ts, some (some (.odt ks ds)) => (match keysOf ts with
      | some kk => if ks.length < lineN ∧ ks.length = ds.length then .ok .nx (ρ.set i (some (.odt ((putT (ks.zip ds) kk d).map (·.1)) ((putT (ks.zip ds) kk d).map (·.2))))) else .bad
      | none => .bad)
    | _, _ => .bad) ρ2) := h2
  unfold bnd isOdt at h3
  cases eo : ρ2.sl[i]? with
  | none => rw [eo] at h3; exact h3.elim
  | some u =>
    rw [eo] at h3
    cases u with
    | none => exact h3.elim
    | some o =>
      cases o with
      | odt ks0 ds0 =>
        obtain ⟨w, f0, a1, a2, a3⟩ := S2.sl.at_ i _ eo
        simp only [RO] at a3
        obtain ⟨p0, kvs0, rfl, hp0, _, _, rfl⟩ := a3
        refine ⟨.ref p0, a1, ?_⟩
        refine PostS.at_ (m := ev Γ a) (f := fun y => bnd (esc y) fun k => fun ρ => match k, ρ.sl[i]? with
          | .tup ts, some (some (.odt ks ds)) => (match keysOf ts with
            | some kk => if ks.length < lineN ∧ ks.length = ds.length then .ok .nx (ρ.set i (some (.odt ((putT (ks.zip ds) kk d).map (·.1)) ((putT (ks.zip ds) kk d).map (·.2))))) else .bad
            | none => .bad)
          | _, _ => .bad) S2 h3 fun vk ρ3 R3 H3 fp3 e3 sx3 S3 h4 y ry => ?_
        obtain ⟨k, ρ4, R4, fp4, e4, S4, rk, h5⟩ := PostS.esc S3 ry h4
        cases k with
        | tup ts =>
          cases eo4 : ρ4.sl[i]? with
          | none => simp only [eo4] at h5; exact h5.elim
          | some u4 =>
            cases u4 with
            | none => simp only [eo4] at h5; exact h5.elim
            | some o4 =>
              cases o4 with
              | odt ks ds =>
                simp only [eo4] at h5
                cases ek : keysOf ts with
                | none => simp only [ek] at h5; exact h5.elim
                | some kk =>
                  simp only [ek] at h5
                  by_cases z : ks.length < lineN ∧ ks.length = ds.length
                  · rw [if_pos z] at h5
                    simp only [Rep] at rk
                    obtain ⟨q, xs, rfl, hq, hxs⟩ := rk
                    rw [keysOf_rep ek hxs] at hq
                    obtain ⟨w4, f4, b1, b2, b3⟩ := S4.sl.at_ i _ eo4
                    have b3' := b3
                    simp only [RO] at b3'
                    obtain ⟨p, kvs, rfl, hp, hk, hx, rfl⟩ := b3'
                    rw [a1] at b1
                    cases b1
                    obtain ⟨r1, r2⟩ := putT_rel (k := kk) (rd2.mono (e3.trans e4)) hk hx
                    refine ⟨p0, _, rfl, DPut.t hp (S4.same _ _ hq) (by have := congrArg List.length hk; rw [List.length_map] at this; rw [this, lineN_eq]; exact z.1), ?_⟩
                    have S5 := S4.putO (q := p0) (ob := .dT (putK kvs kk v)) (f' := [p0]) eo4 b2 (by simp) a1 (o' := .odt ((putT (ks.zip ds) kk d).map (·.1)) ((putT (ks.zip ds) kk d).map (·.2))) (by
                      simp only [RO]
                      exact ⟨p0, _, rfl, upd_same, r1, r2, rfl⟩) (by simp) (fun a ha => .inl ha)
                    exact h5 R4 _ σ _ rfl (Same.refl _) S5
                  · rw [if_neg z] at h5; exact h5.elim
              | _ => simp only [eo4] at h5; exact h5.elim
        | _ => exact h5.elim
      | _ => exact h3.elim
end
end DL

set_option Elab.async false
set_option linter.all false
set_option maxRecDepth 100000
set_option maxHeartbeats 4000000
/-! DL44: set of a tuple of tuples of ints; sorted of it; sorted of what is collected; at the library's level. -/
namespace PySem.DLX
open PySem PySem.Spec PyProof.Rows DL
open L2 (SetTR Got code_set_led1 set_update_tups setTR_fresh)
section
variable {P : Program} {w : World} {A : Around} {E : Value → Shared → Prop} {s : Shared}
/-- a set that holds nothing yet -/
abbrev setZ (w : World) : Obj := { cls := .type "set", dict := none, data := .set #[] 0 (.fresh 0 0 (!w.params.followText "set-order")) }
theorem call_set_tupsT {l : Addr} {us : List Value} (ks : List (Addr × List Int)) {Q : Value → Shared → Prop} (hh : A.handled = none) (hl : IsTup s.heap l us.toArray) (hit : us = ks.map fun p => Value.ref p.1)
    (hk : ∀ p ∈ ks, L2.IsT P w s.heap p.2 p.1) (hfew : ks.length < 64) (hu : A.units + 3 < cLine)
    (h : ∀ (h' : Heap) (tk : Nat) L es ep t, SetTR P w h' s.heap.objs.size L es ep t → Got ks ks.length L → (∀ b o, s.heap.get? b = some o → h'.get? b = some o) → Q (.ref s.heap.objs.size) { s with heap := h', toks := tk }) :
    wpAny (model P w) A (call (.type "set") [.ref l]) Q E s := by
  have hisz : us.toArray.size = ks.length := by rw [List.size_toArray, hit, List.length_map]
  obtain ⟨c, tl, hmro⟩ := F.called_set.mro
  have made := F.called_set.made
  have selfS := F.called_set.sub
  have t1 := F.called_set.notType
  have t2 := F.called_set.canCreate
  have t3 := F.typeCall_set_1 (.ref l)
  refine wpAny_call (codeAny_of_tree ?_)
  show wpAny _ _ (callAny (.type "set") _) _ _ _
  refine wpAny_pure ⟨Code.quiet_builtin _ (by decide +kernel), codeAny_builtin F.entry_type_call ?_⟩
  rw [Around.under_plain (weight_type_call_type "set" [.ref l] []) rfl]
  repeat (any_goals (first | assumption | wp_step))
  refine codeAny_mono (code_set_led1 (.ref l) (E := E) (Q₁ := fun obj z => obj = .ref s.heap.objs.size ∧ z = { s with heap := s.heap.push (setZ w) }) ⟨rfl, rfl⟩) fun r z hr => ?_
  cases r with
  | error e => exact hr
  | ok fl =>
    cases fl with
    | ret obj =>
      obtain ⟨rfl, rfl⟩ := hr
      have hS : (s.heap.push (setZ w)).get? s.heap.objs.size = some (setZ w) := Heap.get?_push_size _ rfl
      have hT : Shared.TypeIs { s with heap := s.heap.push (setZ w) } (.ref s.heap.objs.size) "set" := ⟨_, hS, rfl⟩
      have l1 := F.called_set.init.lookup
      have l2 := F.called_set.init.bind (.ref s.heap.objs.size)
      repeat (any_goals (first | assumption | wp_step))
      refine codeAny_mono (codeAny_call_builtin (R := wants (fun r z => r = .none ∧ ∃ h' tk L es ep t, z = { s with heap := h', toks := tk } ∧ SetTR P w h' s.heap.objs.size L es ep t ∧ Got ks ks.length L ∧
          (∀ b o, s.heap.get? b = some o → h'.get? b = some o)) E) F.called_set.init.plain F.entry_set_init (check_set_init_1 hT ?_)) fun r₂ z₂ hr₂ => ?_
      · obtain ⟨⟨ocls, odict, odata, oslots⟩, hol, hcl, nl, hdl⟩ := hl
        dsimp only at hcl hdl
        subst hcl; subst hdl
        have hol' : (s.heap.push (setZ w)).get? l = some { cls := .type "tuple", dict := odict, data := .seq us.toArray nl, slots := oslots } := Heap.get?_push_of_some _ hol
        have q1 := F.sub_tuple_set
        have q2 := F.sub_tuple_frozenset
        have q3 : (Value.type "tuple" == Value.type "dict") = false := by decide
        have hl1 : (s.heap.push (setZ w)).IsTuple l us.toArray := ⟨_, hol', rfl, nl, rfl⟩
        unfold Builtin.«set.__init__» noKeywords Builtin.Frozenset.updateFrom
        generalize hPI : pyIter = PI
        wp_walk
        subst hPI
        refine wpAny_pyIter_tuple hl1 ?_
        refine wpAny_bind (wpAny_runValue ?_)
        have hlS : l < s.heap.objs.size := Heap.lt_size hol
        have hh3 : A.in1.in1.in1.handled = none := by simp [hh]
        have hz1 : (s.heap.push (setZ w)).objs.size = s.heap.objs.size + 1 := Heap.size_push ..
        have hneI : l ≠ (s.heap.push (setZ w)).objs.size := by rw [hz1]; exact Nat.ne_of_lt (Nat.lt_succ_of_lt hlS)
        have hSf : s.heap.objs.size ∉ [(s.heap.push (setZ w)).objs.size, l] := by
          rw [hz1, List.mem_cons, List.mem_singleton, not_or]
          exact ⟨Nat.ne_of_lt (Nat.lt_succ_self _), Nat.ne_of_gt hlS⟩
        have hval : ∀ (i : Nat) (v : Value), us.toArray[i]? = some v → ∃ p, ks[i]? = some p ∧ v = .ref p.1 := fun i v hv => by
          rw [List.getElem?_toArray, hit, List.getElem?_map, Option.map_eq_some_iff] at hv
          obtain ⟨p, h1, h2⟩ := hv
          exact ⟨p, h1, h2.symm⟩
        have gone : ∀ b, s.heap.objs.size ≤ b → s.heap.get? b = none := fun b hb => by
          cases q : s.heap.get? b with
          | none => rfl
          | some o => exact absurd (Nat.lt_of_lt_of_le (Heap.lt_size q) hb) (Nat.lt_irrefl _)
        refine set_update_tups ((Walks.tuple hh3 _ l hneI us.toArray).toS) s.heap.objs.size hSf ks hisz hfew hval s.heap hk (gone _ (Nat.le_refl _)) (fun b hb => gone b (by rw [List.mem_singleton.mp hb, hz1]; exact Nat.le_succ _)) hu (us.toArray.size - 0) 0 _ (by omega) (Nat.zero_le _)
          ⟨⟨_, Heap.get?_push_size _ rfl, rfl, rfl⟩, (hl1.push _)⟩ (fun b o e => Heap.get?_push_of_some _ (Heap.get?_push_of_some _ e)) ?hS0 ?hR
        case hS0 =>
          have hget : ((s.heap.push (setZ w)).push { cls := .type "tuple_iterator", data := .fields #[.ref l, .int 0 0] }).get? s.heap.objs.size = some (setZ w) := Heap.get?_push_of_some _ hS
          exact ⟨[], #[], 0, _, setTR_fresh hget, Got.zero ks⟩
        case hR =>
          intro s' L es ep t hm hS' g' hkp
          obtain ⟨h', g2, d', tk', os'⟩ := s'
          have eg : g2 = s.gens := hm.gens
          have ed : d' = s.drawn := hm.drawn
          have eo : os' = s.os := hm.os
          subst eg; subst ed; subst eo
          rw [hisz] at g'
          refine wpAny_pure ?_
          show wpAny _ _ (ret Value.none) _ _ _
          exact wpAny_pure ⟨rfl, h', tk', L, es, ep, t, rfl, hS', g', hkp⟩
      · cases r₂ with
        | error e => exact hr₂
        | ok fl₂ =>
          cases fl₂ with
          | ret r =>
            obtain ⟨rfl, h', tk, L, es, ep, t, rfl, hS', g', hk'⟩ := hr₂
            repeat (any_goals (first | assumption | wp_step))
            exact h _ _ _ _ _ _ hS' g' hk'
          | _ => exact hr₂.elim
    | _ => exact hr.elim
end
end PySem.DLX

set_option Elab.async false
set_option linter.all false
set_option maxRecDepth 100000
/-! DL45: sorted of whatever can be collected; sorted(set(..)). -/
namespace PySem.DLX
open PySem PySem.Spec PyProof.Rows DL
open PySem.W
section
variable {prog : Program} {w : World} {A : Around} {E : Value → Shared → Prop} {s : Shared}
theorem sorted_any {β : Type} {Rl : Value → β → Prop} {enc : β → PyData} {a : Value} {Q : Value → Shared → Prop}
    (hcol : ∀ R : List Value → Shared → Prop, (∀ (vs : List Value) (bs : List β) (s1 : Shared), EachIs Rl vs bs → EachIs (fun v b => ∃ as, Reads s1.heap v (enc b) as) vs bs → AllAlike (bs.map enc) → Sortable (bs.map enc) → bs.length ≤ sizeLine → (∀ b ∈ bs, A.units + 2 + (enc b).depth < cLine) →
      (∀ (out : List Value) h' c, out.length = bs.length → EachIs Rl out (bs.mergeSort (dataLe false enc)) → (∀ b o, s1.heap.get? b = some o → h'.get? b = some o) → h'.get? s1.heap.objs.size = some (seqObj "list" (List.toArray out) c) → Q (.ref s1.heap.objs.size) { s1 with heap := h' }) → R vs s1) →
      wpAny (model prog w) A.in1 (collect a) R E s) : wpAny (model prog w) A (call (.builtin "sorted") [a]) Q E s := by
  refine call_function_entry_kw kind_sorted plain_sorted entry_sorted (args_sorted1 _) ?_
  unfold Builtin.«sorted»
  refine wpAny_bind (m := checkCount "sorted" 1 1 _) (wpAny_pure ?_)
  refine wpAny_bind (hcol _ fun vs bs s1 e er hal hk hL hu k => ?_)
  have small : vs.length ≤ sizeLine := by rw [e.length]; exact hL
  refine wpAny_bind (wpAny_newList ?_ small)
  have hoL : (s1.heap.push (seqObj "list" vs.toArray 0)).get? s1.heap.objs.size = some (seqObj "list" vs.toArray 0) := Heap.get?_push_size _ rfl
  have old : ∀ b o, s1.heap.get? b = some o → b ≠ s1.heap.objs.size := fun b o q => Nat.ne_of_lt (Heap.lt_size q)
  have er2 : EachIs (fun v b => ∃ as, Reads (sortingHeap (s1.heap.push (seqObj "list" vs.toArray 0)) s1.heap.objs.size vs) v (enc b) as) vs bs := er.mono fun _ _ ⟨as, r⟩ => ⟨as, PyProof.Rows.Reads.keeps (fun b o q => sortingHeap_old (old b o q) (Heap.get?_push_of_some _ q)) r⟩
  have S : SortsAt prog w A.in1.in1 { s1 with heap := sortingHeap (s1.heap.push (seqObj "list" vs.toArray 0)) s1.heap.objs.size vs } _ vs := SortsAt.data (each_map (R := fun v d => ∃ as, Reads (sortingHeap (s1.heap.push (seqObj "list" vs.toArray 0)) s1.heap.objs.size vs) v d as) enc er2) hal hk (bound_map hu)
  obtain ⟨c, hc⟩ := sortedHeap_at (out := (sortVals (dataKind (sortingHeap (s1.heap.push (seqObj "list" vs.toArray 0)) s1.heap.objs.size vs) (bs.map enc)) false vs vs).toArray) hoL
  have fin := k _ _ c (by rw [sortVals_length false rfl]; exact e.length) (sortVals_data false e er2 hal) (fun b o q => by
    have hlt := Heap.lt_size q
    rw [sortedHeap_old (old b o q) (by rw [size_push']; exact Nat.lt_succ_of_lt hlt)]
    exact Heap.get?_push_of_some _ q) hc
  refine wpAny_bind (wpAny_holding (wpAny_call_entry_kw slot_list_sort ⟨_, hoL, rfl⟩ entry_list_sort ?bd (args_list_sort _)))
  case bd =>
    refine wpAny_mono (list_sort_vals (P := fun f s' => f = .done (.ret .none) ∧ Q (.ref s1.heap.objs.size) s') (s := ⟨s1.heap.push (seqObj "list" vs.toArray 0), s1.gens, s1.drawn, s1.toks, s1.os⟩) hoL S small ⟨rfl, fin⟩) (fun f s' hf => ?_) fun _ _ z => z
    obtain ⟨rfl, q⟩ := hf
    exact ⟨_, rfl, wpAny_pure ⟨_, rfl, q⟩⟩
end
end PySem.DLX

set_option Elab.async false
set_option linter.all false
set_option maxRecDepth 100000
/-! DL46: sorted of a dict whose keys are tuples; len(set(..)), sorted(set(..)) of tuples of ints. -/
namespace DL
open PySem PySem.Spec PyProof.Rows L2 PySem.DLX
section
variable {X : Cx} {nm : Nm} {W : WX} {Γ : Gam} {as : List E} {a b : E} {e e1 e2 : Expr} {p2 p3 p4 pos : Pos} {L : Nat}
theorem sorted_rep (m : Rm X L) {H R : Hp} {P : Addr} {pins : List (Addr × Obj)} {σ : L2.St} {s : Shared} {v : Value} {Q : VK} (I : L2.Inv X pins σ H s) (e : Same R H)
    (hcol : ∀ Rr : List Value → Shared → Prop, (∀ (vs : List Value) (zs : List V) (ds : List D) (s1 : Shared), (∀ b o, s.heap.get? b = some o → s1.heap.get? b = some o) → s1.gens = s.gens → s1.os = s.os → Vals zs vs → RepL (gOf X nm) P R ds zs → alikeD ds = true → sortableD ds = true → ds.length ≤ sizeLine →
      (∀ p ws, H p = none → RepL (gOf X nm) P R (sortD ds) ws → Q (.ref p) (upd H p (.lst ws))) → Rr vs s1) → wpAny (model X.prog X.w) X.A.in1 (collect v) Rr X.xe s) :
    wpAny (model X.prog X.w) X.A (call (.builtin "sorted") [v]) (EP X pins σ Q) X.xe s := by
  have un := m.room.un
  refine sorted_any (β := D) (Rl := fun v d => ∃ x, RelV x v ∧ Rep (gOf X nm) P R d x) (enc := D.py) fun Rr hR => hcol Rr fun vs zs ds s1 kk g o rv rr al so hl q => ?_
  have I1 : L2.Inv X pins σ H s1 := I.call' (ch := []) o (Un.kept kk) (I.hok.kept kk) (by rw [g]; exact I.bare) (fun _ z => nomatch z)
  obtain ⟨q1, q2⟩ := each_rep I1 e (alike_plains al) rr rv
  refine hR vs ds s1 q1 q2 (alike_AllAlike al) (sortable_of al so) hl (fun b hb => by have := deep_of (alike_mem al b hb).1; omega) fun out h' c ho e1 k2 at2 => ?_
  obtain ⟨ws, rw1, rw2⟩ := each_back e1
  have lw : ws.length ≤ sizeLine := by rw [← rw2.length, List.length_mergeSort]; exact hl
  exact ⟨.ref s1.heap.objs.size, _, I1.laid (t' := s1.toks) (o := .lst ws) k2 (Nat.le_refl _) ⟨lw, out, c, rw1, at2⟩, rfl, q _ ws (I1.hok.fresh (Nat.le_refl _)) rw2⟩
/-- sorted of a dict with tuple keys -/
def rSortT (X : Cx) (nm : Nm) : List V → Hp → VK → Prop := fun xs H Q => ∃ d kvs, xs = [V.ref d] ∧ Rd H d (.dT kvs) ∧ ∀ bs, IsKeys H kvs bs → ∃ (R : Hp) (P : Addr) (ds : List D), Same R H ∧ RepL (gOf X nm) P R ds (bs.map V.ref) ∧ alikeD ds = true ∧ sortableD ds = true ∧ ds.length ≤ sizeLine ∧
  ∀ p ws, H p = none → RepL (gOf X nm) P R (sortD ds) ws → Q (.ref p) (upd H p (.lst ws))
theorem call_sorted_dT (m : Rm X L) : CallR X (.builtin "sorted") (rSortT X nm) := by
  intro pins s σ H xs us Q I r h
  obtain ⟨d, kvs, rfl, hd, q⟩ := h
  obtain ⟨u, rfl, rx⟩ := r.one
  cases rx
  obtain ⟨z, hs, ks, pr, o, es, ep, ho, hx, hdt, he, hn⟩ := (show ObjOk X.prog X.w H s.heap d (.dT kvs) from hd.ok I.hok)
  obtain ⟨R, P, ds, sm, rr, al, so, hl, q⟩ := q _ (isKeys_of pr)
  have l1 : es.size = ks.length := size_of_entries he
  have l2 : kvs.length = ks.length := Paired.length pr
  refine sorted_rep (nm := nm) (P := P) (R := R) m I sm fun Rr hR => ?_
  refine PySem.W.kdu_collect (A := X.A.in1) (kdl_raw hs hx hdt) (I.ok.hd m.calm) ho (by omega) fun h' tk acc kp it => ?_
  have eV : acc.toList = (ks.map fun x => x.2.1).map Value.ref := by
    have len : acc.toList.length = ks.length := by rw [Array.length_toList, it.1]; exact l1
    apply List.ext_getElem?
    intro j
    rw [List.getElem?_map, List.getElem?_map]
    cases hj : acc.toList[j]? with
    | none => rw [List.getElem?_eq_none (by have := List.getElem?_eq_none_iff.mp hj; omega)]; rfl
    | some v =>
      obtain ⟨en, hen, hv⟩ := it.2 j v (by rw [← Array.getElem?_toList]; exact hj)
      have qe := entry_at he j
      rw [hen] at qe
      cases hb : ks[j]? with
      | none => rw [hb] at qe; exact nomatch (show some en = none from qe)
      | some b =>
        rw [hb] at qe
        have e2 : en = entryOfKey (tupleKind (mixKind X.prog X.w)) b := Option.some.inj qe
        rw [hv, e2]
        rfl
  refine hR acc.toList _ ds ⟨h', s.gens, s.drawn, tk, s.os⟩ kp rfl rfl ?_ rr al so hl q
  rw [eV]
  exact vals_refs _
theorem x_tsort (m : Rm X L) {i : Nat} {x : Str} (hg : Gl X "sorted") (hm : X.mg "sorted" = none) (hN : X.N[i]? = some x) (hv : Vis X.env.scope x) (hd : (x == ("__debug__" : Str)) = false) (hcd : (x == ("__classdict__" : Str)) = false) :
    pE X nm W Γ (.tsort i) (.Call (.Name "sorted" p2) [.Name x p3] [] pos) := by
  refine (pe_callB (call_sorted_dT (nm := nm) m) hg hm (by with_unfolding_all rfl) (pa_cons (pe_var hN hv hd hcd) pa_nil)).weak fun σ H Q hl h => ?_
  have hi : i < σ.length := by rw [hl]; exact (List.getElem?_eq_some_iff.mp hN).1
  obtain ⟨c, R, ρ, τ, fps, S, h⟩ := h
  have h' : Post (gOf X nm) W c σ τ R H (fun v ρ' R' H' fps' => ∀ x, VR (gOf X nm) c R' H' fps' v x → Q x H') (tsortM i ρ) := h
  unfold tsortM at h'
  cases eo : ρ.sl[i]? with
  | none => simp only [eo] at h'; exact h'.elim
  | some u =>
    cases u with
    | none => simp only [eo] at h'; exact h'.elim
    | some o =>
      cases o with
      | odt ks ds =>
        simp only [eo] at h'
        split at h'
        · rename_i hc
          rw [Bool.and_eq_true, Bool.and_eq_true, decide_eq_true_eq] at hc
          obtain ⟨v, f, a1, a2, a3⟩ := S.sl.at_ i _ eo
          rw [List.getElem?_append_left hi] at a1
          simp only [RO] at a3
          obtain ⟨p, kvs, rfl, hp, rfl, hx, rfl⟩ := a3
          refine ⟨.ref p, a1, ⟨p, kvs, rfl, .inl hp, fun bs hk => ?_⟩⟩
          obtain ⟨S1, e1⟩ := S.tups (isKeys_tup hk)
          refine ⟨Fz R H bs, c.P, _, S1.same, keys_rep hk (fun b hb => Fz.mem hb), hc.1.1, hc.1.2, ?_, fun q ws hq rw' => done_list S1 (Post.mono h' e1 (SX.refl _ _)) hq rw'⟩
          have h2 : (kvs.map (·.1)).length ≤ lineN := hc.2
          rw [List.length_map, List.length_map]
          rw [List.length_map] at h2
          rw [lineN_eq]; exact h2
        · exact h'.elim
      | _ => simp only [eo] at h'; exact h'.elim
end
/-! ### rows, each once -/
theorem mem_onceL : ∀ (xs : List (List Int)) (y : List Int), y ∈ onceL xs ↔ y ∈ xs
  | [], y => Iff.rfl
  | x :: xs, y => by
    rw [onceL, List.mem_cons, List.mem_cons, List.mem_filter, mem_onceL xs y]
    constructor
    · rintro (h | h)
      · exact .inl h
      · exact .inr h.1
    · rintro (h | h)
      · exact .inl h
      · by_cases e : y = x
        · exact .inl e
        · exact .inr ⟨h, by rw [decide_eq_false e]; rfl⟩
theorem nodup_onceL : ∀ xs : List (List Int), (onceL xs).Nodup
  | [] => List.nodup_nil
  | x :: xs => by
    rw [onceL, List.nodup_cons]
    refine ⟨fun h => ?_, (nodup_onceL xs).sublist List.filter_sublist⟩
    have := (List.mem_filter.mp h).2
    simp at this
theorem row_lt (x y : List Int) : PySem.W.dataLt (rowD x).py (rowD y).py = decide (x < y) := by
  have e : ∀ z : List Int, (rowD z).py = .tuple (z.map PyData.int) := fun z => by
    unfold rowD
    simp only [D.py, D.pys_eq, List.map_map]
    rfl
  rw [e, e, PySem.W.dataLt_tuple]
  exact PySem.W.dataLt_ints x y
theorem sort_rows (ns : List (List Int)) : sortD (ns.map rowD) = (ns.mergeSort fun x y => decide (x ≤ y)).map rowD := by
  unfold sortD
  rw [List.map_mergeSort]
  intro a _ b _
  rw [row_lt]
  by_cases h : b < a
  · rw [decide_eq_true h, decide_eq_false (List.not_le.mpr h)]; rfl
  · rw [decide_eq_false h, decide_eq_true (List.not_lt.mp h)]; rfl
theorem sort_perm {ns ms : List (List Int)} (h : ns.Perm ms) : sortD (ns.map rowD) = sortD (ms.map rowD) := by
  rw [sort_rows, sort_rows]
  congr 1
  have tr : ∀ a b c : List Int, decide (a ≤ b) = true → decide (b ≤ c) = true → decide (a ≤ c) = true := fun a b c h1 h2 => decide_eq_true (List.le_trans (of_decide_eq_true h1) (of_decide_eq_true h2))
  have to : ∀ a b : List Int, (decide (a ≤ b) || decide (b ≤ a)) = true := fun a b => by
    rcases List.le_total a b with h | h
    · rw [decide_eq_true h]; rfl
    · rw [decide_eq_true h, Bool.or_true]
  refine List.Perm.eq_of_pairwise (le := fun a b => decide (a ≤ b) = true) (fun a b _ _ h1 h2 => List.le_antisymm (of_decide_eq_true h1) (of_decide_eq_true h2)) (List.pairwise_mergeSort tr to _) (List.pairwise_mergeSort tr to _) ?_
  exact (List.mergeSort_perm _ _).trans (h.trans (List.mergeSort_perm _ _).symm)
theorem perm_lift {α β : Type} (f : α → β) {ws vs : List β} (h : ws.Perm vs) : ∀ L : List α, ws = L.map f → ∃ L1, vs = L1.map f ∧ L.Perm L1 := by
  induction h with
  | nil =>
    intro L e
    cases L with
    | nil => exact ⟨[], rfl, .nil⟩
    | cons a L => cases e
  | cons x h ih =>
    intro L e
    cases L with
    | nil => cases e
    | cons a L =>
      rw [List.map_cons, List.cons.injEq] at e
      obtain ⟨rfl, e⟩ := e
      obtain ⟨L1, rfl, p⟩ := ih L e
      exact ⟨a :: L1, rfl, p.cons a⟩
  | swap x y l =>
    intro L e
    match L, e with
    | a :: b :: L, e =>
      rw [List.map_cons, List.map_cons, List.cons.injEq, List.cons.injEq] at e
      obtain ⟨rfl, rfl, rfl⟩ := e
      exact ⟨b :: a :: L, rfl, .swap ..⟩
    | [], e => cases e
    | [a], e => cases e
  | trans h1 h2 ih1 ih2 =>
    intro L e
    obtain ⟨L1, e1, p1⟩ := ih1 L e
    obtain ⟨L2, e2, p2⟩ := ih2 L1 e1
    exact ⟨L2, e2, p1.trans p2⟩
theorem once_perm {ns ms : List (List Int)} (nd : ms.Nodup) (h1 : ∀ x ∈ ms, x ∈ ns) (h2 : ∀ x ∈ ns, x ∈ ms) : ms.Perm (onceL ns) :=
  (List.perm_ext_iff_of_nodup nd (nodup_onceL ns)).mpr fun x => by rw [mem_onceL]; exact ⟨h1 x, h2 x⟩
theorem rows_rep {G : Gx} {P : Addr} {R : Hp} : ∀ {xs : List D} {ns : List (List Int)} {zs : List V}, rowsD xs = some ns → RepL G P R xs zs → ∃ ks : List (Addr × List Int), zs = ks.map (fun p => V.ref p.1) ∧ ks.map (·.2) = ns ∧ ∀ p ∈ ks, R p.1 = some (.tup (p.2.map V.int))
  | [], ns, zs, h, r => by
    cases h
    simp only [RepL] at r
    subst r
    exact ⟨[], rfl, rfl, fun p hp => nomatch hp⟩
  | d :: ds, ns, zs, h, r => by
    simp only [RepL] at r
    obtain ⟨y, ys, rfl, h1, h2⟩ := r
    cases d <;> simp only [rowsD] at h <;> try cases h
    rename_i es
    rw [Option.bind_eq_some_iff] at h
    obtain ⟨n, hn, h⟩ := h
    rw [Option.map_eq_some_iff] at h
    obtain ⟨m, hm, rfl⟩ := h
    obtain ⟨ks, e1, e2, e3⟩ := rows_rep hm h2
    simp only [Rep] at h1
    obtain ⟨p, vs, rfl, hp, hv⟩ := h1
    rw [intsOf_eq hn] at hv
    have ez := repL_ints hv
    subst ez
    refine ⟨(p, n) :: ks, by rw [List.map_cons, e1], by rw [List.map_cons, e2], fun q hq => ?_⟩
    rcases List.mem_cons.mp hq with rfl | hq
    · exact hp
    · exact e3 q hq
theorem rep_rows {G : Gx} {P : Addr} {R : Hp} : ∀ {ks : List (Addr × List Int)}, (∀ p ∈ ks, R p.1 = some (.tup (p.2.map V.int))) → RepL G P R ((ks.map (·.2)).map rowD) (ks.map fun p => V.ref p.1)
  | [], _ => RepL.nil
  | p :: ks, h => RepL.cons (by
      simp only [Rep, rowD]
      exact ⟨_, _, rfl, h p (List.mem_cons_self ..), ints_repL _⟩) (rep_rows fun q hq => h q (List.mem_cons_of_mem _ hq))
section
variable {X : Cx} {nm : Nm} {W : WX} {Γ : Gam} {as : List E} {a b : E} {e e1 e2 : Expr} {p2 p3 p4 pos : Pos} {L : Nat}
/-- a set of tuples of ints is made of what is frozen -/
theorem set_made (m : Rm X L) {pins : List (Addr × Obj)} {σ : L2.St} {s : Shared} {H R : Hp} {P : Addr} {d : D} {ns : List (List Int)} {x : V} {u : Value} {Q : Value → Shared → Prop} (I : L2.Inv X pins σ H s) (sm : Same R H) (rd : Rep (gOf X nm) P R d x) (rv : L2.RelV x u) (hs : setD [d] = some ns)
    (k : ∀ (h' : Heap) (tk : Nat) (L : List (Addr × List Int)) es ep t, SetTR X.prog X.w h' s.heap.objs.size L es ep t → (L.map (·.2)).Perm (onceL ns) → (∀ p ∈ L, R p.1 = some (.tup (p.2.map V.int))) → L2.Inv X pins σ H { s with heap := h', toks := tk } → Q (.ref s.heap.objs.size) { s with heap := h', toks := tk }) :
    wpAny (model X.prog X.w) X.A (call (.type "set") [u]) Q X.xe s := by
  have un := m.room.un
  unfold setD at hs
  rw [Option.bind_eq_some_iff] at hs
  obtain ⟨xs, hx, hs⟩ := hs
  split at hs
  · rename_i h64
    have len : ∀ {xs : List D} {ns : List (List Int)}, rowsD xs = some ns → ns.length = xs.length := by
      intro xs
      induction xs with
      | nil => intro ns h; cases h; rfl
      | cons d ds ih =>
        intro ns h
        cases d <;> simp only [rowsD] at h <;> try cases h
        rw [Option.bind_eq_some_iff] at h
        obtain ⟨n, _, h⟩ := h
        rw [Option.map_eq_some_iff] at h
        obtain ⟨m, hm, rfl⟩ := h
        rw [List.length_cons, List.length_cons, ih hm]
    have main : ∀ {a : Addr} {zs : List V}, x = .ref a → RepL (gOf X nm) P R xs zs → (SqL X.K H a zs ∨ SqT X.K H a zs) → wpAny (model X.prog X.w) X.A (call (.type "set") [u]) Q X.xe s := by
      intro a zs ex rz hz
      subst ex
      cases rv
      obtain ⟨ks, rfl, e2, e3⟩ := rows_rep hs rz
      have h64' : ks.length < 64 := by
        have := len hs
        rw [← e2, List.length_map] at this
        omega
      have isT : ∀ p ∈ ks, L2.IsT X.prog X.w s.heap p.2 p.1 := fun p hp => I.isT (SqT.of (sm _ _ (e3 p hp)))
      have fin : ∀ (h' : Heap) (tk : Nat) (L : List (Addr × List Int)) es ep t, SetTR X.prog X.w h' s.heap.objs.size L es ep t → Got ks ks.length L → (∀ b o, s.heap.get? b = some o → h'.get? b = some o) → Q (.ref s.heap.objs.size) { s with heap := h', toks := tk } := fun h' tk L es ep t T g kk => by
        have sub : ∀ p ∈ L, p ∈ ks := fun p hp => List.mem_of_mem_take (g.sub p hp)
        refine k h' tk L es ep t T (once_perm T.nd (fun y hy => ?_) fun y hy => ?_) (fun p hp => e3 p (sub p hp)) (I.kept kk)
        · obtain ⟨p, hp, rfl⟩ := List.mem_map.mp hy
          rw [← e2]
          exact List.mem_map.mpr ⟨p, sub p hp, rfl⟩
        · rw [← e2] at hy
          obtain ⟨p, hp, rfl⟩ := List.mem_map.mp hy
          exact g.all p (by rw [List.take_length]; exact hp)
      rcases hz with hz | hz
      · obtain ⟨its, r, pl, _⟩ := I.list hz
        exact call_set_tups ks (I.ok.hd m.calm) pl.isList (by simpa using refs_of_vals r) isT h64' (by omega) fin
      · obtain ⟨its, r, pl, _⟩ := I.tuple hz
        exact call_set_tupsT ks (I.ok.hd m.calm) pl (refs_of_vals r) isT h64' (by omega) fin
    unfold itemsD at hx
    split at hx
    · cases hx
      simp only [Rep] at rd
      obtain ⟨p, zs, rfl, hp, hzs⟩ := rd
      exact main rfl hzs (.inr (Same.sqT sm hp))
    · cases hx
      simp only [Rep] at rd
      obtain ⟨p, zs, rfl, hp, hzs⟩ := rd
      exact main rfl hzs (.inl (SqL.of (sm _ _ hp)))
    · cases hx
  · cases hs
theorem x_setl (m : Rm X L) (hg : Gl X "len") (hm : X.mg "len" = none) (hg2 : Gl X "set") (hm2 : X.mg "set" = none) (hs : noStar e = true) (ha : pAs X nm W Γ as [e]) :
    pE X nm W Γ (.setl as) (.Call (.Name "len" p2) [.Call (.Name "set" p3) [e] [] p4] [] pos) := by
  refine ⟨fun pins s σ H Q I h => ?_⟩
  have h0 : tAs (gOf X nm) W Γ as σ H (fun xs H1 => ∃ c R τ ρ fps d ns x, xs = [x] ∧ Sim (gOf X nm) c R H1 (σ ++ τ) ρ fps ∧ Rep (gOf X nm) c.P R d x ∧ setD [d] = some ns ∧ Post (gOf X nm) W c σ τ R H1 (fun v ρ' R' H' fps' => ∀ x, VR (gOf X nm) c R' H' fps' v x → Q x H') (.ok ⟨none, .frz (.int (onceL ns).length)⟩ ρ)) := At.part h fun c τ ds ρ1 R1 H1 fp1 S1 h1 xs rs => by
    obtain ⟨v, ev, h2⟩ := h1.lft1
    obtain ⟨o, eo, rfl⟩ := Option.map_eq_some_iff.mp ev
    unfold setLenD at eo
    obtain ⟨ns, hns, rfl⟩ := Option.map_eq_some_iff.mp eo
    match ds, hns with
    | [d], hns =>
      obtain ⟨x, rfl, rx⟩ := rs.one
      exact ⟨c, R1, τ, ρ1, fp1, d, ns, x, rfl, S1, rx, hns, h2⟩
    | [], hns => cases hns
    | _ :: _ :: _, hns => cases hns
  refine Call_ (ld_blt I hg hm PySem.boot_len ?_)
  refine PyProof.Rows.callWith_builtin1 (PyProof.Rows.args_cons ?_ rfl) rfl rfl
  refine Call_ (ld_blt I hg2 hm2 PyProof.Rows.boot_set ?_)
  refine PyProof.Rows.callWith_type1 (thn (ha.run p4 pins s σ H _ I h0) fun us s1 hh => ?_) (by rw [star_of hs]) rfl
  obtain ⟨vs, H1, I1, r1, c, R, τ, ρ, fps, d, ns, x, rfl, S, rx, hns, post⟩ := hh
  obtain ⟨u, rfl, ru⟩ := r1.one
  refine set_made m I1 S.same rx ru hns fun h' tk L es ep t T pm _ I2 => PyProof.Rows.args_nil ?_
  have T' : SetTR X.prog X.w (Shared.heap { s1 with heap := h', toks := tk }) s1.heap.objs.size L es ep t := T
  have sz := SetTR.size (s := { s1 with heap := h', toks := tk }) T'
  have fts := SetTR.fits (s := { s1 with heap := h', toks := tk }) T'
  obtain ⟨o, ho, hex, hd⟩ := T.ob
  have hl : es.size = (onceL ns).length := by rw [sz, ← pm.length_eq, List.length_map]
  have few := T.few
  refine call_len_set ho hex hd fts (by rw [sz]; omega) ⟨.int (onceL ns).length, H1, I2.tok _, ⟨_, by rw [hl]⟩, done_frz S post (by simp only [Rep])⟩
theorem x_sets (m : Rm X L) (hg : Gl X "sorted") (hm : X.mg "sorted" = none) (hg2 : Gl X "set") (hm2 : X.mg "set" = none) (hs : noStar e = true) (ha : pAs X nm W Γ as [e]) :
    pE X nm W Γ (.sets as) (.Call (.Name "sorted" p2) [.Call (.Name "set" p3) [e] [] p4] [] pos) := by
  refine ⟨fun pins s σ H Q I h => ?_⟩
  have h0 : tAs (gOf X nm) W Γ as σ H (fun xs H1 => ∃ c R τ ρ fps d ns x, xs = [x] ∧ Sim (gOf X nm) c R H1 (σ ++ τ) ρ fps ∧ Rep (gOf X nm) c.P R d x ∧ setD [d] = some ns ∧ alikeD ((onceL ns).map rowD) = true ∧ sortableD ((onceL ns).map rowD) = true ∧ Post (gOf X nm) W c σ τ R H1 (fun v ρ' R' H' fps' => ∀ x, VR (gOf X nm) c R' H' fps' v x → Q x H') (.ok ⟨none, .own ((sortD ((onceL ns).map rowD)).map O.frz)⟩ ρ)) := At.part h fun c τ ds ρ1 R1 H1 fp1 S1 h1 xs rs => by
    obtain ⟨v, ev, h2⟩ := h1.lft1
    obtain ⟨o, eo, rfl⟩ := Option.map_eq_some_iff.mp ev
    unfold setSortD at eo
    obtain ⟨ns, hns, eo⟩ := Option.bind_eq_some_iff.mp eo
    dsimp only at eo
    split at eo
    · rename_i hc
      rw [Bool.and_eq_true] at hc
      cases eo
      match ds, hns with
      | [d], hns =>
        obtain ⟨x, rfl, rx⟩ := rs.one
        exact ⟨c, R1, τ, ρ1, fp1, d, ns, x, rfl, S1, rx, hns, hc.1, hc.2, h2⟩
      | [], hns => cases hns
      | _ :: _ :: _, hns => cases hns
    · cases eo
  refine Call_ (ld_blt I hg hm (by with_unfolding_all rfl) ?_)
  refine PyProof.Rows.callWith_builtin1 (PyProof.Rows.args_cons ?_ rfl) rfl rfl
  refine Call_ (ld_blt I hg2 hm2 PyProof.Rows.boot_set ?_)
  refine PyProof.Rows.callWith_type1 (thn (ha.run p4 pins s σ H _ I h0) fun us s1 hh => ?_) (by rw [star_of hs]) rfl
  obtain ⟨vs, H1, I1, r1, c, R, τ, ρ, fps, d, ns, x, rfl, S, rx, hns, al, so, post⟩ := hh
  obtain ⟨u, rfl, ru⟩ := r1.one
  refine set_made m I1 S.same rx ru hns fun h' tk L es ep t T pm hL I2 => PyProof.Rows.args_nil ?_
  have T' : SetTR X.prog X.w (Shared.heap { s1 with heap := h', toks := tk }) s1.heap.objs.size L es ep t := T
  have sz := SetTR.size (s := { s1 with heap := h', toks := tk }) T'
  have fts := SetTR.fits (s := { s1 with heap := h', toks := tk }) T'
  obtain ⟨o, ho, hex, hd⟩ := T.ob
  have few := T.few
  refine sorted_rep (nm := nm) (P := c.P) (R := R) m I2 S.same fun Rr hR => L2.collect_set (A := X.A.in1) (I.ok.hd m.calm) ⟨o, ho, hex.1, hd⟩ fts (by rw [sz]; unfold scanBound; omega) T.tab.ris T.led fun s3 vs k1 hz g1 o1 pm2 => ?_
  have hes : es.toList.map (·.2) = L.map fun q => Value.ref q.1 := by
    rw [T.rows]
    unfold rowsOf
    rw [List.map_map]; rfl
  rw [hes] at pm2
  obtain ⟨L1, rfl, pm3⟩ := perm_lift (fun q : Addr × List Int => Value.ref q.1) pm2.symm L rfl
  have hL1 : ∀ p ∈ L1, R p.1 = some (.tup (p.2.map V.int)) := fun p hp => hL p (pm3.mem_iff.mpr hp)
  have pmr : (L1.map (·.2)).Perm (onceL ns) := (pm3.symm.map (·.2)).trans pm
  have lz : (L1.map (·.2)).length < 64 := by rw [List.length_map, ← pm3.length_eq]; exact few
  have alp : ∀ {xs ys : List D}, xs.Perm ys → (∀ d ∈ ys, okEq d = true ∧ PySem.W.alike d.py d.py = true ∧ isNon d = false) → (∀ d ∈ ys, ∀ e ∈ ys, PySem.W.alike d.py e.py = true) → alikeD xs = true := by
    intro xs
    induction xs with
    | nil => intro ys _ _ _; rfl
    | cons d ds ih =>
      intro ys pe h1 h2
      have hd := pe.mem_iff.mp (List.mem_cons_self ..)
      simp only [alikeD, Bool.and_eq_true, List.all_eq_true, Bool.not_eq_true']
      refine ⟨⟨⟨⟨(h1 d hd).1, (h1 d hd).2.1⟩, fun e he => ?_⟩, (h1 d hd).2.2⟩, ?_⟩
      · have he' := pe.mem_iff.mp (List.mem_cons_of_mem d he)
        exact ⟨h2 d hd e he', h2 e he' d hd⟩
      · exact ih (List.Perm.refl ds) (fun e he => h1 e (pe.mem_iff.mp (List.mem_cons_of_mem d he))) fun e he f hf => h2 e (pe.mem_iff.mp (List.mem_cons_of_mem d he)) f (pe.mem_iff.mp (List.mem_cons_of_mem d hf))
  refine hR _ (L1.map fun p => V.ref p.1) ((L1.map (·.2)).map rowD) s3 k1 g1 o1 (vals_of_refs L1) (rep_rows hL1) (alp (pmr.map rowD) (fun d hd => ?_) (alike_all al)) ?_ ?_ fun p ws hp rw' => ?_
  · obtain ⟨q1, q2⟩ := alike_mem al d hd
    exact ⟨q1, alike_all al d hd d hd, q2⟩
  · unfold sortableD at so ⊢
    rw [Bool.or_eq_true, List.all_eq_true, List.all_eq_true] at so ⊢
    rcases so with so | so
    · exact .inl fun d hd => so d ((pmr.map rowD).mem_iff.mp hd)
    · exact .inr fun d hd => so d ((pmr.map rowD).mem_iff.mp hd)
  · rw [List.length_map]
    have : (64 : Nat) ≤ sizeLine := by decide
    omega
  · rw [sort_perm pmr] at rw'
    exact done_list S post hp rw'
end
end DL

set_option Elab.async false
set_option linter.all false
set_option maxRecDepth 100000
/-! DL23: the check of expressions: a form of the dialect against the text. -/
namespace DL
open PySem PySem.Spec PyProof.Rows L2
theorem bnd_assoc {α β γ : Type} {m : M α} {f : α → M β} {g : β → M γ} : bnd (bnd m f) g = bnd m fun a => bnd (f a) g := by
  funext ρ
  unfold bnd
  cases m ρ <;> rfl
section
variable {X : Cx} {nm : Nm} {W : WX} {Γ : Gam} {a b : E} {e e1 e2 : Expr} {es rest : List Expr} {pos p2 : Pos}
theorem t_isN {j : Nat} (ha : pE X nm W Γ a e1) : pT X nm W Γ (.tv (.isN a)) (.Compare e1 [.Is] [.Constant .none j p2] pos) := by
  refine (pt_cmpR op_isN ha pe_non (nomark _)).weak fun σ H Q hl h => ?_
  have e : evT Γ (.tv (.isN a)) = bnd (ev Γ a) (fun x => bnd (vw x) fun d => truth ⟨none, .frz (.bl (isNon d))⟩) := by
    show bnd (bnd (ev Γ a) fun x => bnd (vw x) fun d => frz (.bl (isNon d))) truth = _
    rw [bnd_assoc]
    congr 1
    funext x
    rw [bnd_assoc]
    rfl
  have h0 : At (gOf X nm) W (bnd (ev Γ a) (fun x => bnd (vw x) fun d => truth ⟨none, .frz (.bl (isNon d))⟩)) (fun _ _ b _ _ H' _ => Q b H') σ H := by rw [← e]; exact h
  refine h0.part fun c τ vx ρ1 R1 H1 fp1 S1 h1 x rx => ?_
  obtain ⟨dx, rx2, h2⟩ := Post.vw S1 rx h1
  exact ⟨rfl, _, rfl, by rw [rep_non rx2]; exact bl_truth S1 h2⟩
theorem t_notN {j : Nat} (ha : pE X nm W Γ a e1) : pT X nm W Γ (.tv (.notN a)) (.Compare e1 [.IsNot] [.Constant .none j p2] pos) := by
  refine (pt_cmpR op_notN ha pe_non (nomark _)).weak fun σ H Q hl h => ?_
  have e : evT Γ (.tv (.notN a)) = bnd (ev Γ a) (fun x => bnd (vw x) fun d => truth ⟨none, .frz (.bl (!isNon d))⟩) := by
    show bnd (bnd (ev Γ a) fun x => bnd (vw x) fun d => frz (.bl (!isNon d))) truth = _
    rw [bnd_assoc]
    congr 1
    funext x
    rw [bnd_assoc]
    rfl
  have h0 : At (gOf X nm) W (bnd (ev Γ a) (fun x => bnd (vw x) fun d => truth ⟨none, .frz (.bl (!isNon d))⟩)) (fun _ _ b _ _ H' _ => Q b H') σ H := by rw [← e]; exact h
  refine h0.part fun c τ vx ρ1 R1 H1 fp1 S1 h1 x rx => ?_
  obtain ⟨dx, rx2, h2⟩ := Post.vw S1 rx h1
  exact ⟨rfl, _, rfl, by rw [rep_non rx2]; exact bl_truth S1 h2⟩
end
/-! ### texts compared -/
mutual
def eqE : Expr → Expr → Bool
  | .Name x p, .Name y q => decide (x = y) && decide (p = q)
  | .Constant c j p, .Constant d k q => decide (c = d) && decide (j = k) && decide (p = q)
  | .Call f es [] p, .Call g fs [] q => eqE f g && eqEs es fs && decide (p = q)
  | .Tuple es k p, .Tuple fs l q => eqEs es fs && decide (k = l) && decide (p = q)
  | .List es p, .List fs q => eqEs es fs && decide (p = q)
  | .Subscript a b p, .Subscript c d q => eqE a c && eqE b d && decide (p = q)
  | .BinOp a o b p, .BinOp c u d q => eqE a c && decide (o = u) && eqE b d && decide (p = q)
  | .UnaryOp o a p, .UnaryOp u b q => decide (o = u) && eqE a b && decide (p = q)
  | .Attribute a f p, .Attribute b g q => eqE a b && decide (f = g) && decide (p = q)
  | .Compare a os es p, .Compare b us fs q => eqE a b && decide (os = us) && eqEs es fs && decide (p = q)
  | _, _ => false
def eqEs : List Expr → List Expr → Bool
  | [], [] => true
  | e :: es, f :: fs => eqE e f && eqEs es fs
  | _, _ => false
end
mutual
theorem eqE_ok : ∀ (a b : Expr), eqE a b = true → a = b := fun a b h => by
  unfold eqE at h
  split at h
  · simp only [Bool.and_eq_true, decide_eq_true_eq] at h; rw [h.1, h.2]
  · simp only [Bool.and_eq_true, decide_eq_true_eq] at h; rw [h.1.1, h.1.2, h.2]
  · simp only [Bool.and_eq_true, decide_eq_true_eq] at h; rw [eqE_ok _ _ h.1.1, eqEs_ok _ _ h.1.2, h.2]
  · simp only [Bool.and_eq_true, decide_eq_true_eq] at h; rw [eqEs_ok _ _ h.1.1, h.1.2, h.2]
  · simp only [Bool.and_eq_true, decide_eq_true_eq] at h; rw [eqEs_ok _ _ h.1, h.2]
  · simp only [Bool.and_eq_true, decide_eq_true_eq] at h; rw [eqE_ok _ _ h.1.1, eqE_ok _ _ h.1.2, h.2]
  · simp only [Bool.and_eq_true, decide_eq_true_eq] at h; rw [eqE_ok _ _ h.1.1.1, h.1.1.2, eqE_ok _ _ h.1.2, h.2]
  · simp only [Bool.and_eq_true, decide_eq_true_eq] at h; rw [h.1.1, eqE_ok _ _ h.1.2, h.2]
  · simp only [Bool.and_eq_true, decide_eq_true_eq] at h; rw [eqE_ok _ _ h.1.1, h.1.2, h.2]
  · simp only [Bool.and_eq_true, decide_eq_true_eq] at h; rw [eqE_ok _ _ h.1.1.1, h.1.1.2, eqEs_ok _ _ h.1.2, h.2]
  · cases h
theorem eqEs_ok : ∀ (a b : List Expr), eqEs a b = true → a = b
  | [], [], _ => rfl
  | e :: es, f :: fs, h => by
    simp only [eqEs, Bool.and_eq_true] at h
    rw [eqE_ok _ _ h.1, eqEs_ok _ _ h.2]
  | [], _ :: _, h => by simp [eqEs] at h
  | _ :: _, [], h => by simp [eqEs] at h
end
def noParams : Arguments → Bool
  | ⟨[], [], none, [], [], none, []⟩ => true
  | _ => false
def noArgs : Arguments := ⟨[], [], none, [], [], none, []⟩
theorem noParams_ok {p : Arguments} (h : noParams p = true) : p = noArgs := by
  unfold noParams at h
  split at h
  · rfl
  · cases h
end DL

set_option Elab.async false
set_option linter.all false
set_option maxRecDepth 100000
/-! DL24: the check of expressions. -/
namespace DL
open PySem PySem.Spec PyProof.Rows L2
/-- what is known of the place -/
structure Cc where
  N : List Str
  sc : Scope
  /-- the names whose cells were made at the entry: none: all -/
  blk : Option Scope
  G : List Str
  fns : List Nat
  /-- names that are classes, defs of the module -/
  gls : List Nat
  bis : List Str
  gcd : Bool
  lams : List (Nat × LamD)
  exf : List (Nat × List Str)
  callc : Bool
  /-- whether the def makes lambdas -/
  maker : Bool
  /-- the module's constants that are ints -/
  kst : List (Str × Int) := []
  /-- the exceptions' base; whether isinstance is asked of them -/
  root : Option Nat := none
  isx : Bool := false
  /-- whether the def makes a key for sorted -/
  klam : Bool := false
  /-- the calls of exceptions by the names of their fields: in which order; those that may be made here -/
  kwp : List ((Nat × List Str) × List Nat) := []
  kwx : List (Nat × List Str) := []
  /-- whether combinations is taken in -/
  cmb : Bool := false
def Cc.g (C : Cc) (g : Nat) : Str := C.G.getD g Str.empty
def Cc.inB (C : Cc) (scope : Scope) : Cc := { C with sc := relS scope C.sc, blk := some scope, fns := if C.maker then [] else C.fns, kwx := if C.maker then [] else C.kwx, klam := false, lams := [], callc := C.callc && !C.maker, maker := false }
def okN (x : Str) : Bool := !(x == ("__debug__" : Str)) && !(x == ("__classdict__" : Str)) && !(x == ("__name__" : Str))
def visB (C : Cc) (x : Str) : Bool := match C.sc.names.lookup x with
  | some .local | some .cell | some .free => okN x
  | _ => false
def locB (C : Cc) (x : Str) : Bool := match C.sc.names.lookup x with
  | some .local => true
  | some .cell => match C.blk with
    | none => true
    | some s => s.names.lookup x == some .cell
  | _ => false
def glB (C : Cc) (x : Str) : Bool := decide (C.sc.names.lookup x = some .globalImplicit) && okN x
def ckV (C : Cc) (i : Nat) (x : Str) : Bool := decide (C.N[i]? = some x) && visB C x
def ckG (C : Cc) (g : Nat) (x : Str) : Bool := decide (x = C.g g) && (C.gls.contains g && glB C x)
def ckB (C : Cc) (x : Str) : Bool := C.bis.contains x && glB C x
def ckC : Cn → Expr → Bool
  | .non, .Constant .none _ _ => true
  | .bl b, .Constant (.bool c) _ _ => b == c
  | .int i, .Constant (.int j) _ _ => decide (i = j)
  | .str x, .Constant (.str y) _ _ => decide (x = y)
  | _, _ => false
/-- a built-in by its name -/
inductive Bk where
  | vb (id : String) | eb (id : String) | vt (id : String) | et (id : String) | gcd
def B.kind : B → Option (Str × Bk)
  | .len => some ("len", .vb "len")
  | .sum => some ("sum", .vb "sum")
  | .all => some ("all", .vb "all")
  | .any => some ("any", .vb "any")
  | .abs => some ("abs", .vb "abs")
  | .min2 => some ("min", .vb "min")
  | .max2 => some ("max", .vb "max")
  | .min1 => some ("min", .vb "min")
  | .max1 => some ("max", .vb "max")
  | .repr => some ("repr", .vb "repr")
  | .int => some ("int", .vt "int")
  | .gcd => some ("gcd", .gcd)
  | .tuple => some ("tuple", .et "tuple")
  | .list => some ("list", .et "list")
  | .sorted => some ("sorted", .eb "sorted")
  | _ => none
/-- a range, made a list or a tuple: whether a tuple, whether from two -/
def B.rg : B → Option (Bool × Bool)
  | .listR two => some (false, two)
  | .tupR two => some (true, two)
  | _ => none
def ckTy (C : Cc) : T → Expr → Bool
  | .ty t, .Name x _ => decide (x = Str.ofString t.n) && ckB C x
  | .cl g, .Name x _ => ckG C g x
  | _, _ => false
def noSet : Expr → Bool
  | .Set _ _ _ => false
  | _ => true
def ckTys (C : Cc) : List T → List Expr → Bool
  | [], [] => true
  | t :: ts, e :: es => noStar e && (ckTy C t e && ckTys C ts es)
  | _, _ => false
def ckTg (C : Cc) : Tg → Expr → Bool
  | .nm i, .Name x _ => decide (C.N[i]? = some x) && locB C x
  | .tp is, .Tuple es _ _ => ckTgs is es
  | _, _ => false
where ckTgs : List Nat → List Expr → Bool
  | [], [] => true
  | i :: is, .Name x _ :: es => decide (C.N[i]? = some x) && (locB C x && ckTgs is es)
  | _, _ => false
/-- a dict display of constants -/
def ckDct : List Str → List Cn → List (Option Expr) → List Expr → Bool
  | [], [], [], [] => true
  | k :: ks, c :: cs, some (.Constant (.str y) _ _) :: keys, e :: es => decide (k = y) && (ckC c e && ckDct ks cs keys es)
  | _, _, _, _ => false
def own2 (C : Cc) (own : List Nat) : List (Str × Nat) := own.map fun i => (C.N.getD i Str.empty, i)
def isCmp : E → Bool
  | .cmp _ _ _ | .cmp2 _ _ _ _ _ | .isN _ | .notN _ => true
  | _ => false
mutual
def ckE : E → Cc → Expr → Bool
  | .v i, C, e => (match e with
    | .Name x _ => ckV C i x
    | _ => false)
  | .v1 i a, C, e => (match e with
    | .Subscript (.Name x _) e _ => ckV C i x && (noSlice e && ckE a C e)
    | _ => false)
  | .v2 i a b, C, e => (match e with
    | .Subscript (.Subscript (.Name x _) e _) f _ => ckV C i x && (noSlice e && (noSlice f && (ckE a C e && ckE b C f)))
    | _ => false)
  | .gl g, C, e => (match e with
    | .Name x _ => ckG C g x
    | _ => false)
  | .kst n, C, e => (match e with
    | .Name x _ => (match C.kst[n]? with
      | some p => decide (x = p.1) && glB C x
      | none => false)
    | _ => false)
  | .c k, _, e => ckC k e
  | .tup as, C, e => (match e with
    | .Tuple es _ _ => ckEs as C es
    | _ => false)
  | .lst as, C, e => (match e with
    | .List es _ => ckEs as C es
    | _ => false)
  | .dct ks cs, _, e => (match e with
    | .Dict keys es _ => (ks.isEmpty && (cs.isEmpty && (keys.isEmpty && es.isEmpty))) || (!keys.isEmpty && (decide (keys.length ≤ 15) && ckDct ks cs keys es))
    | _ => false)
  | .bin op a b, C, e => (match e with
    | .BinOp e op' f _ => decide (op = op') && (ckE a C e && ckE b C f)
    | _ => false)
  | .neg a, C, e => (match e with
    | .UnaryOp .USub e _ => ckE a C e
    | _ => false)
  | .cmp op a b, C, e => (match e with
    | .Compare e [op'] [f] _ => decide (op = op') && (!behindInMarks op f && (ckE a C e && ckE b C f))
    | _ => false)
  | .cmp2 o1 o2 a b c, C, e => (match e with
    | .Compare e [p1, p2] [f, g] _ => decide (o1 = p1) && (decide (o2 = p2) && (!lastMarks [o1, o2] [f, g] && (ckE a C e && (ckE b C f && ckE c C g))))
    | _ => false)
  | .isN a, C, e => (match e with
    | .Compare e [.Is] [.Constant .none _ _] _ => ckE a C e
    | _ => false)
  | .notN a, C, e => (match e with
    | .Compare e [.IsNot] [.Constant .none _ _] _ => ckE a C e
    | _ => false)
  | .and a b, C, e => (match e with
    | .BoolOp .And [e1, e2] _ => ckE a C e1 && ckE b C e2
    | .BoolOp .And (e1 :: e2 :: e3 :: r) p => ckE a C e1 && ckE b C (.BoolOp .And (e2 :: e3 :: r) p)
    | _ => false)
  | .or a b, C, e => (match e with
    | .BoolOp .Or [e1, e2] _ => ckE a C e1 && ckE b C e2
    | .BoolOp .Or (e1 :: e2 :: e3 :: r) p => ckE a C e1 && ckE b C (.BoolOp .Or (e2 :: e3 :: r) p)
    | _ => false)
  | .not t, C, e => (match t with
    | .tv a => (match e with
      | .UnaryOp .Not e _ => ckE a C e
      | _ => false)
    | _ => false)
  | .ife t a b, C, e => (match e with
    | .IfExp e f g _ => ckT t C e && (ckE a C f && ckE b C g)
    | _ => false)
  | .tand _ _, _, _ => false
  | .tor _ _, _, _ => false
  | .tnot _, _, _ => false
  | .tv _, _, _ => false
  | .no, _, _ => false
  | .rev a, C, e => (match e with
    | .Subscript e (.Slice none none (some (.UnaryOp .USub (.Constant (.int 1) _ _) _)) _) _ => ckE a C e
    | _ => false)
  | .att a f, C, e => (match e with
    | .Attribute e g _ => decide (g = f) && (noSup e && ckE a C e)
    | _ => false)
  | .isx a g, C, e => (match e with
    | .Call (.Name x _) [e, y] [] _ => decide (x = ("isinstance" : Str)) && (ckB C x && (C.isx && (noStar e && (noStar y && ((match y with
      | .Name z _ => ckG C g z
      | _ => false) && ckE a C e)))))
    | _ => false)
  | .callk g ks as, C, e => (match e with
    | .Call (.Name x _) [] kws _ => decide (x = C.g g) && (glB C x && (C.kwx.contains (g, ks) && (decide (kws.map (·.arg) = ks.map some) && (decide (as.length = ks.length) && ckKs as C kws))))
    | _ => false)
  | .ix a b, C, e => (match e with
    | .Subscript e f _ => noSlice f && (ckE a C e && ckE b C f)
    | _ => false)
  | .slc a lo hi, C, e => (match e with
    | .Subscript e (.Slice el eh none _) _ => ckE a C e && ((match el with
      | none => lo.isNo
      | some e => !lo.isNo && ckE lo C e) && (match eh with
      | none => hi.isNo
      | some e => !hi.isNo && ckE hi C e))
    | _ => false)
  | .pget i f, C, e => (match e with
    | .Subscript (.Name x _) (.Constant (.str y) _ _) _ => ckV C i x && decide (y = f.key)
    | _ => false)
  | .pcell i a, C, e => (match e with
    | .Subscript (.Subscript (.Name x _) (.Constant (.str y) _ _) _) e _ => decide (y = ("cells" : Str)) && (ckV C i x && (noSlice e && ckE a C e))
    | _ => false)
  | .plen i, C, e => (match e with
    | .Call (.Name z _) [.Subscript (.Name x _) (.Constant (.str y) _ _) _] [] _ => decide (y = ("cells" : Str)) && (decide (z = ("len" : Str)) && (ckB C z && ckV C i x))
    | _ => false)
  | .lam k _, C, e => (match e with
    | .Lambda ps b s _ => (match C.lams.lookup k with
      | some L => noParams ps && (noParams L.params && (decide (L.scope = s) && eqE L.body b))
      | none => false)
    | _ => false)
  | .callc i, C, e => (match e with
    | .Call (.Name x _) [] [] _ => (C.callc && !C.maker) && ckV C i x
    | _ => false)
  | .call g as, C, e => (match e with
    | .Call (.Name x _) es [] _ => decide (x = C.g g) && (glB C x && (C.fns.contains g && ckEs as C es))
    | _ => false)
  | .callv i as, C, e => (match e with
    | .Call (.Name x _) (e :: es) [] _ => ckV C i x && (!C.fns.isEmpty && ckEs as C (e :: es))
    | _ => false)
  | .bi bb as, C, e => (match bb.rg with
    | some (tup, two) => (match e with
      | .Call (.Name x _) [.Call (.Name y _) es [] _] [] _ => decide (x = rgN tup) && (ckB C x && (decide (y = ("range" : Str)) && (ckB C y && (decide (as.length = if two = true then 2 else 1) && ckEs as C es))))
      | _ => false)
    | none => (match e with
      | .Call (.Name x _) (e :: es) [] _ => (match bb.kind with
        | some (y, .gcd) => decide (x = y) && (C.gcd && (glB C x && ckEs as C (e :: es)))
        | some (y, _) => decide (x = y) && (ckB C x && ckEs as C (e :: es))
        | none => false)
      | _ => false))
  | .isa a ts, C, e => (match e with
    | .Call (.Name x _) [e, f] [] _ => decide (x = ("isinstance" : Str)) && (ckB C x && (noStar e && (ckE a C e && (match f, ts with
      | .Name y p, [t] => ckTy C t (.Name y p)
      | .Tuple es _ _, ts => decide (ts.length ≤ 100) && ckTys C ts es
      | _, _ => false))))
    | _ => false)
  | .me m a as, C, e => (match e, m, as with
    | .Call (.Attribute e m p) [] [] q, .bitlen, [] => decide (m = ("bit_length" : Str)) && (noSup e && (p.endLine == q.line && ckE a C e))
    | _, _, _ => false)
  | .lc own tg kd as ifs elt, C, e => (match e with
    | .ListComp eltE [⟨tgE, iterE, ifsE, 0⟩] scope _ =>
      decide own.Nodup && (own.all (fun i => decide (i < C.N.length)) && (tg.is.all (fun i => own.contains i) && (blkC C.N C.sc scope (own2 C own) && (noSet iterE && (ckIt as kd C iterE && (ckTg (C.inB scope) tg tgE && (ckTs ifs (C.inB scope) ifsE && ckE elt (C.inB scope) eltE)))))))
    | _ => false)
  | .sortk as, C, e => (match e with
    | .Call (.Name z _) [e] [⟨some kn, .Lambda ps body sc _, _⟩] _ => decide (z = ("sorted" : Str)) && (ckB C z && (C.klam && (C.bis.contains "len" && (noStar e && (decide (kn = ("key" : Str)) && (oneParam ps && (keySc "face" sc && (lenB body && ckEs as C [e]))))))))
    | _ => false)
  | .setl as, C, e => (match e with
    | .Call (.Name z _) [.Call (.Name y _) [e] [] _] [] _ => decide (z = ("len" : Str)) && (ckB C z && (decide (y = ("set" : Str)) && (ckB C y && (noStar e && ckEs as C [e]))))
    | _ => false)
  | .sets as, C, e => (match e with
    | .Call (.Name z _) [.Call (.Name y _) [e] [] _] [] _ => decide (z = ("sorted" : Str)) && (ckB C z && (decide (y = ("set" : Str)) && (ckB C y && (noStar e && ckEs as C [e]))))
    | _ => false)
  | .tsort i, C, e => (match e with
    | .Call (.Name z _) [.Name x _] [] _ => decide (z = ("sorted" : Str)) && (ckB C z && ckV C i x)
    | _ => false)
  | .newt, _, e => (match e with
    | .Dict keys es _ => keys.isEmpty && es.isEmpty
    | _ => false)
  | .tkeys i, C, e => (match e with
    | .Call (.Name z _) [.Name x _] [] _ => decide (z = ("list" : Str)) && (ckB C z && ckV C i x)
    | _ => false)
def ckT : E → Cc → Expr → Bool
  | .tand a b, C, e => (match e with
    | .BoolOp .And [e1, e2] _ => ckT a C e1 && ckT b C e2
    | .BoolOp .And (e1 :: e2 :: e3 :: r) p => ckT a C e1 && ckT b C (.BoolOp .And (e2 :: e3 :: r) p)
    | _ => false)
  | .tor a b, C, e => (match e with
    | .BoolOp .Or [e1, e2] _ => ckT a C e1 && ckT b C e2
    | .BoolOp .Or (e1 :: e2 :: e3 :: r) p => ckT a C e1 && ckT b C (.BoolOp .Or (e2 :: e3 :: r) p)
    | _ => false)
  | .tnot a, C, e => (match e with
    | .UnaryOp .Not e _ => ckT a C e
    | _ => false)
  | .tv x, C, e => (plainT e || isCmp x) && ckE x C e
  | _, _, _ => false
def ckTs : List E → Cc → List Expr → Bool
  | [], _, es => es.isEmpty
  | t :: ts, C, es => (match ts, es with
    | [], [e] => ckT t C e
    | _, _ => false)
def ckEs : List E → Cc → List Expr → Bool
  | [], _, es => es.isEmpty
  | a :: as, C, es => (match es with
    | e :: es => noStar e && (ckE a C e && ckEs as C es)
    | [] => false)
def ckKs : List E → Cc → List Keyword → Bool
  | [], _, ks => ks.isEmpty
  | a :: as, C, ks => (match ks with
    | ⟨_, e, _⟩ :: ks => ckE a C e && ckKs as C ks
    | [] => false)
def ckIt : List E → ItK → Cc → Expr → Bool
  | [], _, _, _ => false
  | a :: as, kd, C, x => (match kd with
    | .seq => as.isEmpty && ckE a C x
    | .rng two => (match x with
      | .Call (.Name y _) (e :: es) [] _ => decide (y = ("range" : Str)) && (ckB C y && (decide (two = !as.isEmpty) && (decide (as.length ≤ 1) && (noStar e && (ckE a C e && ckEs as C es)))))
      | _ => false)
    | .cmb => (match x with
      | .Call (.Name y _) [e1, e2] [] _ => decide (y = ("combinations" : Str)) && (C.cmb && (glB C y && (noStar e1 && (noStar e2 && (ckE a C e1 && ckEs as C [e2])))))
      | _ => false)
    | .rng3 => (match x with
      | .Call (.Name y _) [e1, e2, e3] [] _ => decide (y = ("range" : Str)) && (ckB C y && (noStar e1 && (noStar e2 && (noStar e3 && (ckE a C e1 && ckEs as C [e2, e3])))))
      | _ => false)
    | _ => false)
end
end DL

set_option Elab.async false
set_option linter.all false
set_option maxRecDepth 100000
/-! DL25: the check of expressions is right. -/
namespace DL
open PySem PySem.Spec PyProof.Rows L2
/-- what the module's head tells -/
structure Facts (G : Gx) (Γ : Gam) (C : Cc) (L : Nat) : Prop where
  nm : ∀ g, G.nm.f g = C.g g
  fn : ∀ g fn, Γ.fn g = some fn → FnF G L g fn
  dom : ∀ g ∈ C.fns, ∃ fn, Γ.fn g = some fn
  gl : ∀ g ∈ C.gls, G.mg (C.g g) = some (.ref (He.ga G.K (C.g g)))
  bi : ∀ x ∈ C.bis, G.mg x = none
  gcd : C.gcd = true → G.mg "gcd" = some (.builtin "math.gcd")
  cmb : C.cmb = true → G.mg "combinations" = some (.type "itertools.combinations")
  cls : ClsF G.K G.nm Γ.cls
  sys : (G.K.lookup sysModules).isSome = true
  exf : ∀ p ∈ C.exf, Γ.exf p.1 = some p.2 ∧ p.2.length ≤ 100 ∧ ∃ k, k + 1 ≤ L ∧ ExcC G.prog G.w G.K G.mg k (C.g p.1) p.2
  exm : ∀ g, (Γ.exf g).isSome = true → ∀ p ∈ C.exf, PySem.W.exmOne G.K (.ref (He.ga G.K (C.g g))) (.ref (He.ga G.K (C.g p.1))) = some (g == p.1)
  xfc : ∀ p ∈ C.exf, XfC G.K (He.ga G.K (C.g p.1)) ∧ ∀ f ∈ p.2, PySem.W.findIn G.K (.ref (He.ga G.K (C.g p.1))) f = some none
  att : ∀ g f, (Γ.att g).contains f = true → AttC G.K G.nm g f
  xs : ∀ h g t, Γ.xs h g = some t → IsxC G.K (He.ga G.K (G.nm h)) ∧ G.nm.xc h = true ∧ PySem.W.kitOne G.K (.ref (He.ga G.K (G.nm h))) (.ref (He.ga G.K (G.nm g))) = some t
  xb : ∀ h g t, Γ.xb h g = some t → PySem.W.exmOne G.K (.ref (He.ga G.K (G.nm h))) (.ref (He.ga G.K (G.nm g))) = some t
  fnk : ∀ p ∈ C.kwx, ∃ fn, Γ.fnk p.1 p.2 = some fn ∧ FnK G L p.1 p.2 fn
  kst : ∀ n p, C.kst[n]? = some p → (∃ t, G.mg p.1 = some (.int p.2 t)) ∧ ∀ d, Γ.cst n = some d → d = .int p.2
/-- what is known where the text stands -/
structure CkX (X : Cx) (C : Cc) (W : WX) (Γ : Gam) (nm : Nm) (L : Nat) : Prop where
  N : X.N = C.N
  nd : C.N.Nodup
  sc : X.env.scope = C.sc
  fnx : ∀ x, (match C.blk with
    | none => true
    | some s => s.names.lookup x == some .cell) = true → X.fn x = true
  rm : Rm X L
  tk : Takes X W
  F : Facts (gOf X nm) Γ C L
  md : (C.maker = false ∧ Γ.own = none ∧ GB (gOf X nm)) ∨ (C.maker = true ∧ ∃ is, Γ.own = some is ∧ Makes X nm is ∧ GM (gOf X nm) ∧ C.kwx = []) ∨ (C.fns = [] ∧ C.kwx = [])
  kl : C.klam = true → KLam X nm
  callc : C.callc = true → C.maker = false → ∀ k l fn, Γ.lam k = some fn → nm.lam k = some l → LamG (gOf X nm) L l fn
  lam : ∀ k l, C.lams.lookup k = some l → GM (gOf X nm) ∧ nm.lam k = some l ∧ X.env.qual ++ "<lambda>" = l.qual ∧ nm.cells = X.env.cells ∧ (∃ c P, (c, P) ∈ nm.cs ∧ X.env.code = .ref c ∧ (P, l.qual) ∈ nm.T ∧ ∀ p ∈ nm.T, p.1 = P → p.2 = l.qual) ∧ ∀ y ∈ l.scope.names, y.2 = .free → ∃ c, X.env.cells.lookup y.1 = some c
section
variable {X : Cx} {C : Cc} {W : WX} {Γ : Gam} {nm : Nm} {L : Nat}
theorem CkX.u64 (K : CkX X C W Γ nm L) : X.A.units + 64 < cLine := by have := K.rm.room.un; omega
theorem CkX.u1 (K : CkX X C W Γ nm L) : X.A.units + 1 < cLine := by have := K.rm.room.un; omega
theorem okN_d {x : Str} (h : okN x = true) : (x == ("__debug__" : Str)) = false ∧ (x == ("__classdict__" : Str)) = false ∧ x ≠ "__name__" := by
  unfold okN at h
  simp only [Bool.and_eq_true, Bool.not_eq_true'] at h
  exact ⟨h.1.1, h.1.2, fun e => by rw [e] at h; exact absurd h.2 (by simp)⟩
theorem CkX.vis (K : CkX X C W Γ nm L) {x : Str} (h : visB C x = true) : Vis X.env.scope x ∧ okN x = true := by
  unfold visB at h
  rw [K.sc]
  split at h
  · rename_i e; exact ⟨.inl e, h⟩
  · rename_i e; exact ⟨.inr (.inl e), h⟩
  · rename_i e; exact ⟨.inr (.inr e), h⟩
  · cases h
theorem CkX.loc (K : CkX X C W Γ nm L) {x : Str} (h : locB C x = true) : Loc X.env.scope x ∧ (X.fn x = true ∨ X.env.scope.names.lookup x = some .local) := by
  unfold locB at h
  rw [K.sc]
  split at h
  · rename_i e; exact ⟨.inl e, .inr e⟩
  · rename_i e; exact ⟨.inr e, .inl (K.fnx x h)⟩
  · cases h
theorem CkX.gl (K : CkX X C W Γ nm L) {x : Str} (h : glB C x = true) : Gl X x ∧ okN x = true := by
  unfold glB at h
  rw [Bool.and_eq_true, decide_eq_true_eq] at h
  exact ⟨by show X.env.scope.names.lookup x = some .globalImplicit; rw [K.sc]; exact h.1, h.2⟩
theorem CkX.v (K : CkX X C W Γ nm L) {i : Nat} {x : Str} (h : ckV C i x = true) : X.N[i]? = some x ∧ Vis X.env.scope x ∧ (x == ("__debug__" : Str)) = false ∧ (x == ("__classdict__" : Str)) = false := by
  unfold ckV at h
  rw [Bool.and_eq_true, decide_eq_true_eq] at h
  obtain ⟨h1, h2⟩ := K.vis h.2
  obtain ⟨d1, d2, _⟩ := okN_d h2
  exact ⟨by rw [K.N]; exact h.1, h1, d1, d2⟩
theorem CkX.b (K : CkX X C W Γ nm L) {x : Str} (h : ckB C x = true) : Gl X x ∧ X.mg x = none ∧ (x == ("__debug__" : Str)) = false ∧ x ≠ "__name__" := by
  unfold ckB at h
  rw [Bool.and_eq_true] at h
  obtain ⟨h1, h2⟩ := K.gl h.2
  obtain ⟨d1, _, d3⟩ := okN_d h2
  exact ⟨h1, K.F.bi x (List.contains_iff_mem.mp h.1), d1, d3⟩
theorem CkX.nmg (K : CkX X C W Γ nm L) (g : Nat) : nm g = C.g g := K.F.nm g
theorem CkX.glob (K : CkX X C W Γ nm L) {g : Nat} {x : Str} {pos : Pos} (h : ckG C g x = true) : PE X (.Name x pos) (tC (.ref (He.ga X.K (nm g)))) := by
  unfold ckG at h
  rw [Bool.and_eq_true, Bool.and_eq_true, decide_eq_true_eq] at h
  obtain ⟨rfl, h1, h2⟩ := h
  obtain ⟨h3, h4⟩ := K.gl h2
  have m : X.mg (C.g g) = some (.ref (He.ga X.K (C.g g))) := K.F.gl g (List.contains_iff_mem.mp h1)
  rw [K.nmg g]
  exact pe_glob h3 m rfl (okN_d h4).1
theorem CkX.cal (K : CkX X C W Γ nm L) {g : Nat} {fn : Fn} (h : Γ.fn g = some fn) (ne : C.fns ≠ []) : Cal X nm W Γ.own g fn := by
  have f := K.F.fn g fn h
  rcases K.md with ⟨_, h1, h2⟩ | ⟨_, is, h1, h2, h3, _⟩ | ⟨h1, _⟩
  · rw [h1]; exact Cal.of f h2 K.rm K.tk
  · rw [h1]; exact Cal.ofM h2 f h3 K.rm K.tk
  · exact absurd h1 ne
theorem ckC_ok {k : Cn} {e : Expr} (h : ckC k e = true) : pE X nm W Γ (.c k) e := by
  unfold ckC at h
  split at h
  · exact x_c pe_non fun P R => by show Rep _ _ _ .non .non; simp only [Rep]
  · rw [beq_iff_eq] at h; subst h
    exact x_c pe_bl fun P R => by show Rep _ _ _ (.bl _) (.bl _); simp only [Rep]
  · rw [decide_eq_true_eq] at h; subst h
    exact x_c pe_int fun P R => by show Rep _ _ _ (.int _) (.int _); simp only [Rep]
  · rw [decide_eq_true_eq] at h; subst h
    exact x_c pe_str fun P R => by show Rep _ _ _ (.str _) (.str _); simp only [Rep]
  · cases h
theorem boot_ty (t : Ty) : bootBuiltins (Str.ofString t.n) = some (.type t.n) := by cases t <;> with_unfolding_all rfl
theorem CkX.ty (K : CkX X C W Γ nm L) {t : T} {e : Expr} (h : ckTy C t e = true) : PE X e (tC (tyV X.K nm t)) := by
  unfold ckTy at h
  split at h
  · rename_i t x p
    rw [Bool.and_eq_true, decide_eq_true_eq] at h
    obtain ⟨rfl, h⟩ := h
    obtain ⟨h1, h2, h3, h4⟩ := K.b h
    exact pe_bltn h1 h2 (boot_ty t) rfl h4 h3
  · exact K.glob h
  · cases h
theorem CkX.tys (K : CkX X C W Γ nm L) : ∀ {ts : List T} {es : List Expr}, ckTys C ts es = true → PA X es (fun _ H Q => Q (ts.map (tyV X.K nm)) H)
  | [], [], _ => pa_nil
  | t :: ts, e :: es, h => by
    simp only [ckTys, Bool.and_eq_true] at h
    exact pa_cons (K.ty h.2.1) (K.tys h.2.2) (star_of h.1)
  | [], _ :: _, h => by simp [ckTys] at h
  | _ :: _, [], h => by simp [ckTys] at h
theorem CkX.tgs (K : CkX X C W Γ nm L) : ∀ {is : List Nat} {es : List Expr}, ckTg.ckTgs C is es = true → PGs X es (tGs (gOf X nm) is) ∧ (assignEach es X.env).length = is.length ∧ (assignEach es X.env).findIdx? (·.1) = none
  | [], [], _ => ⟨gs_nil, rfl, rfl⟩
  | i :: is, e :: es, h => by
    unfold ckTg.ckTgs at h
    split at h
    · cases ‹i :: is = []›
    · rename_i i' is' x p es' e1 e2
      cases e1
      cases e2
      simp only [Bool.and_eq_true, decide_eq_true_eq] at h
      obtain ⟨h1, h2, h3⟩ := h
      obtain ⟨l1, l2⟩ := K.loc h2
      obtain ⟨r1, r2, r3⟩ := K.tgs h3
      refine ⟨gs_cons (by rw [K.N]; exact K.nd) (by rw [K.N]; exact h1) l1 l2 r1, by simp [assignEach, r2], ?_⟩
      simp only [assignEach]
      rw [List.findIdx?_cons]
      simp only [r3]
      rfl
    · cases h
  | [], _ :: _, h => by simp [ckTg.ckTgs] at h
  | _ :: _, [], h => by simp [ckTg.ckTgs] at h
theorem CkX.tg (K : CkX X C W Γ nm L) {tg : Tg} {e : Expr} (h : ckTg C tg e = true) : PG X e (tG (gOf X nm) tg) := by
  unfold ckTg at h
  split at h
  · rw [Bool.and_eq_true, decide_eq_true_eq] at h
    obtain ⟨l1, l2⟩ := K.loc h.2
    exact g_nm (by rw [K.N]; exact K.nd) (by rw [K.N]; exact h.1) l1 l2
  · obtain ⟨r1, r2, r3⟩ := K.tgs h
    exact g_tp K.rm.calm r1 r2 r3
  · cases h
theorem takesF {X : Cx} : Takes X WF := fun _ _ ⟨_, _, _, _, _, _, _, _, _, _, _, _, _, _, _, _, w⟩ => w.elim
/-- in a comprehension -/
theorem CkX.inB (K : CkX X C W Γ nm L) (scope : Scope) (s : Shared) (H : Hp) (ca : Addr) (cl : List (Str × Addr)) (fp : List Addr) : CkX (X.blk s H scope (compEnvC scope cl ca X.env) fp) (C.inB scope) WF Γ nm L where
  N := K.N
  nd := K.nd
  sc := by show relS scope X.env.scope = relS scope C.sc; rw [K.sc]
  fnx := fun x h => h
  rm := ⟨K.rm.room, K.rm.gd, K.rm.calm⟩
  tk := takesF
  F := { K.F with fnk := fun p hp => K.F.fnk p (by
    by_cases m : C.maker = true
    · rw [show (C.inB scope).kwx = [] from if_pos m] at hp; cases hp
    · rw [show (C.inB scope).kwx = C.kwx from if_neg m] at hp; exact hp), dom := fun g hg => K.F.dom g (by
    by_cases m : C.maker = true
    · rw [show (C.inB scope).fns = [] from if_pos m] at hg; cases hg
    · rw [show (C.inB scope).fns = C.fns from if_neg m] at hg; exact hg) }
  md := by
    by_cases m : C.maker = true
    · exact .inr (.inr ⟨if_pos m, if_pos m⟩)
    · rcases K.md with ⟨h0, h1, h2⟩ | ⟨h0, _⟩ | ⟨h1, h2⟩
      · exact .inl ⟨rfl, h1, h2⟩
      · exact absurd h0 m
      · exact .inr (.inr ⟨(if_neg m).trans h1, (if_neg m).trans h2⟩)
  kl := fun h => nomatch h
  callc := fun h _ => by
    have h' : (C.callc && !C.maker) = true := h
    rw [Bool.and_eq_true, Bool.not_eq_true'] at h'
    exact K.callc h'.1 h'.2
  lam := fun k l h => by
    have h' : ([] : List (Nat × LamD)).lookup k = some l := h
    cases h'
end
theorem pe_cn {X : Cx} {k : Cn} {e : Expr} (h : ckC k e = true) : PE X e (tC k.v) := by
  unfold ckC at h
  split at h
  · exact pe_non
  · obtain rfl := beq_iff_eq.mp h; exact pe_bl
  · obtain rfl := of_decide_eq_true h; exact pe_int
  · obtain rfl := of_decide_eq_true h; exact pe_str
  · cases h
theorem dct_ok {X : Cx} {pos : Pos} : ∀ (ks : List Str) (cs : List Cn) (keys : List (Option Expr)) (es : List Expr), ckDct ks cs keys es = true → PPs X pos keys es ((ks.zip cs).map fun p => (tC (.str p.1), tC p.2.v)) ∧ keys.all (·.isSome) = true ∧ keys.length = es.length := by
  intro ks
  induction ks with
  | nil =>
    intro cs keys es h
    unfold ckDct at h
    split at h
    · exact ⟨pps_nil, rfl, rfl⟩
    · rename_i e; cases e
    · cases h
  | cons k ks ih =>
    intro cs keys es h
    unfold ckDct at h
    split at h
    · rename_i e; cases e
    · rename_i e
      cases e
      rw [Bool.and_eq_true, Bool.and_eq_true, decide_eq_true_eq] at h
      obtain ⟨rfl, h1, h2⟩ := h
      obtain ⟨q1, q2, q3⟩ := ih _ _ _ h2
      refine ⟨pps_cons pe_str (pe_cn h1) q1, by rw [List.all_cons, q2]; rfl, by simp [q3]⟩
    · cases h
theorem noSet_ok {e : Expr} {env : PySem.Env} (h : noSet e = true) : ∀ x, foldedSetIterable e env x = pure x := fun x => by
  cases e <;> first | rfl | cases h
theorem own2_eq {C : Cc} {own : List Nat} : (own2 C own).map (·.2) = own := by
  unfold own2
  rw [List.map_map]
  exact List.map_id own
theorem and2 {a b : Bool} (h : (a && b) = true) : a = true ∧ b = true := Bool.and_eq_true_iff.mp h
theorem de {p : Prop} [Decidable p] (h : decide p = true) : p := of_decide_eq_true h
theorem nt {a : Bool} (h : (!a) = true) : a = false := by simpa using h
mutual
theorem ckE_ok {Γ : Gam} {nm : Nm} {L : Nat} : ∀ (a : E) {X : Cx} {C : Cc} {W : WX} {e : Expr}, CkX X C W Γ nm L → ckE a C e = true → pE X nm W Γ a e
  | .v i, X, C, W, e, K, h => by
    simp only [ckE] at h
    split at h
    · obtain ⟨h1, h2, h3, h4⟩ := K.v h; exact x_v h1 h2 h3 h4
    · cases h
  | .v1 i a, X, C, W, e, K, h => by
    simp only [ckE] at h
    split at h
    · obtain ⟨h1, h⟩ := and2 h
      obtain ⟨h2, h⟩ := and2 h
      obtain ⟨q1, q2, q3, q4⟩ := K.v h1
      exact x_v1 q1 q2 q3 q4 h2 (ckE_ok a K h)
    · cases h
  | .v2 i a b, X, C, W, e, K, h => by
    simp only [ckE] at h
    split at h
    · obtain ⟨h1, h⟩ := and2 h
      obtain ⟨h2, h⟩ := and2 h
      obtain ⟨h3, h⟩ := and2 h
      obtain ⟨h4, h⟩ := and2 h
      obtain ⟨q1, q2, q3, q4⟩ := K.v h1
      exact x_v2 q1 q2 q3 q4 h2 h3 (ckE_ok a K h4) (ckE_ok b K h)
    · cases h
  | .gl g, X, C, W, e, K, h => by
    simp only [ckE] at h
    split at h
    · exact x_gl (K.glob h)
    · cases h
  | .kst n, X, C, W, e, K, h => by
    simp only [ckE] at h
    split at h
    · split at h
      · rename_i x p1 p ep
        obtain ⟨h1, h2⟩ := and2 h
        obtain rfl := de h1
        obtain ⟨g1, g2⟩ := K.gl h2
        obtain ⟨⟨t, m⟩, q⟩ := K.F.kst n p ep
        exact x_kst (v := .int p.2) (pe_glob g1 m ⟨t, rfl⟩ (okN_d g2).1) fun d hd P R => by rw [q d hd]; simp only [Rep]
      · cases h
    · cases h
  | .c k, X, C, W, e, K, h => ckC_ok (by simpa only [ckE] using h)
  | .tup as, X, C, W, e, K, h => by
    simp only [ckE] at h
    split at h
    · exact x_tup (ckAs_ok as K h)
    · cases h
  | .lst as, X, C, W, e, K, h => by
    simp only [ckE] at h
    split at h
    · exact x_lst (ckAs_ok as K h)
    · cases h
  | .dct ks cs, X, C, W, e, K, h => by
    simp only [ckE] at h
    split at h
    · rename_i keys es p
      rcases Bool.or_eq_true_iff.mp h with h | h
      · obtain ⟨h1, h⟩ := and2 h
        obtain ⟨h2, h⟩ := and2 h
        obtain ⟨h3, h4⟩ := and2 h
        rw [List.isEmpty_iff.mp h1, List.isEmpty_iff.mp h2, List.isEmpty_iff.mp h3, List.isEmpty_iff.mp h4]
        exact x_dct0
      · obtain ⟨h1, h⟩ := and2 h
        obtain ⟨h2, h3⟩ := and2 h
        obtain ⟨q1, q2, q3⟩ := dct_ok (X := X) (pos := p) _ _ _ _ h3
        exact x_dct q1 q2 q3 (fun e => by rw [e] at h1; cases h1) (de h2)
    · cases h
  | .bin op a b, X, C, W, e, K, h => by
    simp only [ckE] at h
    split at h
    · obtain ⟨h1, h⟩ := and2 h
      obtain ⟨h2, h⟩ := and2 h
      rw [de h1]
      exact x_bin (ckE_ok a K h2) (ckE_ok b K h)
    · cases h
  | .neg a, X, C, W, e, K, h => by
    simp only [ckE] at h
    split at h
    · exact x_neg (ckE_ok a K h)
    · cases h
  | .cmp op a b, X, C, W, e, K, h => by
    simp only [ckE] at h
    split at h
    · obtain ⟨h1, h⟩ := and2 h
      obtain ⟨h2, h⟩ := and2 h
      obtain ⟨h3, hl⟩ := and2 h
      obtain rfl := de h1
      exact x_cmp K.u64 (nt h2) (ckE_ok a K h3) (ckE_ok b K hl)
    · cases h
  | .cmp2 o1 o2 a b c, X, C, W, e, K, h => by
    simp only [ckE] at h
    split at h
    · obtain ⟨h1, h⟩ := and2 h
      obtain ⟨h2, h⟩ := and2 h
      obtain ⟨h3, h⟩ := and2 h
      obtain ⟨h4, h⟩ := and2 h
      obtain ⟨h5, hl⟩ := and2 h
      obtain rfl := de h1
      obtain rfl := de h2
      exact x_cmp2 K.u64 (nt h3) (ckE_ok a K h4) (ckE_ok b K h5) (ckE_ok c K hl)
    · cases h
  | .isN a, X, C, W, e, K, h => by
    simp only [ckE] at h
    split at h
    · exact x_isN (ckE_ok a K h)
    · cases h
  | .notN a, X, C, W, e, K, h => by
    simp only [ckE] at h
    split at h
    · exact x_notN (ckE_ok a K h)
    · cases h
  | .and a b, X, C, W, e, K, h => by
    simp only [ckE] at h
    split at h
    · obtain ⟨h1, h2⟩ := and2 h
      exact x_and (ckE_ok a K h1) (pe_one (ckE_ok b K h2))
    · obtain ⟨h1, h2⟩ := and2 h
      exact x_and (ckE_ok a K h1) (ckE_ok b K h2)
    · cases h
  | .or a b, X, C, W, e, K, h => by
    simp only [ckE] at h
    split at h
    · obtain ⟨h1, h2⟩ := and2 h
      exact x_or (ckE_ok a K h1) (pe_one (ckE_ok b K h2))
    · obtain ⟨h1, h2⟩ := and2 h
      exact x_or (ckE_ok a K h1) (ckE_ok b K h2)
    · cases h
  | .not t, X, C, W, e, K, h => by
    cases t with
    | tv a =>
      simp only [ckE] at h
      split at h
      · exact x_not (ckE_ok a K h)
      · cases h
    | _ => simp [ckE] at h
  | .ife t a b, X, C, W, e, K, h => by
    simp only [ckE] at h
    split at h
    · obtain ⟨h1, h⟩ := and2 h
      obtain ⟨h2, h3⟩ := and2 h
      exact x_ife (ckT_ok t K h1) (ckE_ok a K h2) (ckE_ok b K h3)
    · cases h
  | .ix a b, X, C, W, e, K, h => by
    simp only [ckE] at h
    split at h
    · obtain ⟨h1, h⟩ := and2 h
      obtain ⟨h2, h3⟩ := and2 h
      exact x_ix h1 (ckE_ok a K h2) (ckE_ok b K h3)
    · cases h
  | .slc a lo hi, X, C, W, e, K, h => by
    simp only [ckE] at h
    split at h
    · obtain ⟨h1, h⟩ := and2 h
      obtain ⟨h2, h3⟩ := and2 h
      refine x_slc (ckE_ok a K h1) ?_ ?_
      · split at h2
        · cases lo <;> first | exact o_no | cases h2
        · obtain ⟨q1, q2⟩ := and2 h2
          exact o_some (nt q1) (ckE_ok lo K q2)
      · split at h3
        · cases hi <;> first | exact o_no | cases h3
        · obtain ⟨q1, q2⟩ := and2 h3
          exact o_some (nt q1) (ckE_ok hi K q2)
    · cases h
  | .pget i f, X, C, W, e, K, h => by
    simp only [ckE] at h
    split at h
    · obtain ⟨h1, h2⟩ := and2 h
      obtain ⟨q1, q2, q3, q4⟩ := K.v h1
      exact x_pget K.u1 q1 q2 q3 q4 (de h2)
    · cases h
  | .pcell i a, X, C, W, e, K, h => by
    simp only [ckE] at h
    split at h
    · obtain ⟨h1, h⟩ := and2 h
      obtain ⟨h2, h⟩ := and2 h
      obtain ⟨h3, h4⟩ := and2 h
      obtain ⟨q1, q2, q3, q4⟩ := K.v h2
      obtain rfl := de h1
      exact x_pcell K.u1 q1 q2 q3 q4 h3 (ckE_ok a K h4)
    · cases h
  | .plen i, X, C, W, e, K, h => by
    simp only [ckE] at h
    split at h
    · obtain ⟨h1, h⟩ := and2 h
      obtain ⟨h2, h⟩ := and2 h
      obtain ⟨h3, h4⟩ := and2 h
      obtain ⟨q1, q2, q3, q4⟩ := K.v h4
      obtain ⟨b1, b2, _, _⟩ := K.b h3
      obtain rfl := de h1
      obtain rfl := de h2
      exact x_plen K.u1 b1 b2 q1 q2 q3 q4
    · cases h
  | .lam k is, X, C, W, e, K, h => by
    simp only [ckE] at h
    split at h
    · split at h
      · rename_i l hl
        obtain ⟨h1, h⟩ := and2 h
        obtain ⟨h2, h⟩ := and2 h
        obtain ⟨h3, h4⟩ := and2 h
        obtain ⟨q1, q2, q3, q4, ⟨c, P, q5, q6, q7, q8⟩, q9⟩ := K.lam k l hl
        rw [noParams_ok h1, ← noParams_ok h2, ← de h3, ← eqE_ok _ _ h4]
        exact x_lam q1 q2 q5 q6 q3 q7 q8 q4 (by rw [noParams_ok h2]; rfl) q9
      · cases h
    · cases h
  | .callc i, X, C, W, e, K, h => by
    simp only [ckE] at h
    split at h
    · obtain ⟨h1, h2⟩ := and2 h
      obtain ⟨q1, q2, q3, q4⟩ := K.v h2
      obtain ⟨h0, h1⟩ := and2 h1
      exact x_callc K.rm K.tk (K.callc h0 (nt h1)) q1 q2 q3 q4
    · cases h
  | .call g as, X, C, W, e, K, h => by
    simp only [ckE] at h
    split at h
    · obtain ⟨h1, h⟩ := and2 h
      obtain ⟨h2, h⟩ := and2 h
      obtain ⟨h3, h4⟩ := and2 h
      obtain ⟨g1, g2⟩ := K.gl h2
      have hm := List.contains_iff_mem.mp h3
      obtain ⟨fn, hf⟩ := K.F.dom g hm
      have cal := K.cal hf (fun e => by rw [e] at hm; cases hm)
      have eg := K.nmg g
      rw [de h1] at g1 g2 ⊢
      rw [← eg] at g1 g2 ⊢
      rename_i es pos _ _
      cases es with
      | nil =>
        cases as with
        | nil => exact x_call0 cal hf g1 (okN_d g2).1
        | cons a as => simp [ckEs] at h4
      | cons e es => exact x_call cal hf g1 (okN_d g2).1 (ckStar as h4) (ckAs_ok as K h4)
    · cases h
  | .callv i as, X, C, W, e, K, h => by
    simp only [ckE] at h
    split at h
    · obtain ⟨h1, h⟩ := and2 h
      obtain ⟨h2, h3⟩ := and2 h
      obtain ⟨q1, q2, q3, q4⟩ := K.v h1
      exact x_callv (fun g fn hf => K.cal hf fun e => by rw [e] at h2; cases h2) q1 q2 q3 q4 (ckStar as h3) (ckAs_ok as K h3)
    · cases h
  | .bi bb as, X, C, W, e, K, h => by
    simp only [ckE] at h
    split at h
    · rename_i tup two eb
      split at h
      · rename_i x p1 y p2 es pos2 pos
        obtain ⟨h1, h⟩ := and2 h
        obtain ⟨h2, h⟩ := and2 h
        obtain ⟨h3, h⟩ := and2 h
        obtain ⟨h4, h⟩ := and2 h
        obtain ⟨h5, h6⟩ := and2 h
        obtain ⟨b1, b2, _, _⟩ := K.b h2
        have hy := de h3
        subst hy
        obtain ⟨c1, c2, _, _⟩ := K.b h4
        have ebb : bb = rgB tup two := by
          cases bb <;> simp only [B.rg] at eb <;> first
            | (cases eb; rfl)
            | cases eb
        subst ebb
        have hl := de h5
        match as, es, h6, hl with
        | [], _, _, hl => cases two <;> cases hl
        | [a], [], h6, _ => simp [ckEs] at h6
        | [a], [e1], h6, hl =>
          cases two with
          | true => cases hl
          | false =>
            simp only [ckEs] at h6
            obtain ⟨n1, k⟩ := and2 h6
            obtain ⟨k1, _⟩ := and2 k
            exact x_rg1 K.rm.calm (de h1) b1 b2 c1 c2 n1 (ckE_ok a K k1)
        | [a], e1 :: e2 :: es, h6, _ => simp [ckEs] at h6
        | [a, b], [], h6, _ => simp [ckEs] at h6
        | [a, b], [e1], h6, _ => simp [ckEs] at h6
        | [a, b], [e1, e2], h6, hl =>
          cases two with
          | false => cases hl
          | true =>
            simp only [ckEs] at h6
            obtain ⟨n1, k⟩ := and2 h6
            obtain ⟨k1, k⟩ := and2 k
            obtain ⟨n2, k⟩ := and2 k
            obtain ⟨k2, _⟩ := and2 k
            exact x_rg2 K.rm.calm (de h1) b1 b2 c1 c2 n1 n2 (ckE_ok a K k1) (ckE_ok b K k2)
        | [a, b], e1 :: e2 :: e3 :: es, h6, _ => simp [ckEs] at h6
        | a :: b :: c :: as, _, _, hl => cases two <;> simp at hl
      · cases h
    · rename_i eb
      split at h
      · rename_i x p2 e1 es1 pos
        cases bb <;> simp only [B.kind] at h <;> first
          | cases h
          | (obtain ⟨h1, h⟩ := and2 h
             obtain ⟨h2, h3⟩ := and2 h
             obtain rfl := de h1
             first
               | (obtain ⟨b1, b2, b3, b4⟩ := K.b h2
                  first
                    | exact x_biB call_lenD rfl b1 b2 (by decide +kernel) b4 b3 (ckStar as h3) (ckAv_ok as K h3)
                    | exact x_biB (call_sumD K.rm) rfl b1 b2 (by decide +kernel) b4 b3 (ckStar as h3) (ckAv_ok as K h3)
                    | exact x_biB (call_allD K.rm) rfl b1 b2 (by decide +kernel) b4 b3 (ckStar as h3) (ckAv_ok as K h3)
                    | exact x_biB (call_anyD K.rm) rfl b1 b2 (by decide +kernel) b4 b3 (ckStar as h3) (ckAv_ok as K h3)
                    | exact x_biB call_absD rfl b1 b2 (by decide +kernel) b4 b3 (ckStar as h3) (ckAv_ok as K h3)
                    | exact x_biB (call_min2D K.rm) rfl b1 b2 (by decide +kernel) b4 b3 (ckStar as h3) (ckAv_ok as K h3)
                    | exact x_biB (call_max2D K.rm) rfl b1 b2 (by decide +kernel) b4 b3 (ckStar as h3) (ckAv_ok as K h3)
                    | exact x_biB (call_max1D K.rm) rfl b1 b2 (by decide +kernel) b4 b3 (ckStar as h3) (ckAv_ok as K h3)
                    | exact x_biB (call_min1D K.rm) rfl b1 b2 (by decide +kernel) b4 b3 (ckStar as h3) (ckAv_ok as K h3)
                    | exact x_biB (call_reprD K.rm K.F.sys) rfl b1 b2 (by decide +kernel) b4 b3 (ckStar as h3) (ckAv_ok as K h3)
                    | exact x_biTB call_intD rfl b1 b2 (by decide +kernel) b4 b3 (ckStar as h3) (ckAv_ok as K h3)
                    | exact x_biTE call_tupleD rfl b1 b2 (by decide +kernel) b4 b3 (ckStar as h3) (ckAs_ok as K h3)
                    | exact x_biTE call_listD rfl b1 b2 (by decide +kernel) b4 b3 (ckStar as h3) (ckAs_ok as K h3)
                    | exact x_biE (call_sortedDD K.rm) rfl b1 b2 (by decide +kernel) b4 b3 (ckStar as h3) (ckAs_ok as K h3))
               | (obtain ⟨h4, h5⟩ := and2 h3
                  obtain ⟨g1, g2⟩ := K.gl h4
                  exact x_biM call_gcdD rfl g1 (K.F.gcd h2) (okN_d g2).1 (ckStar as h5) (ckAv_ok as K h5)))
      · cases h
  | .isa a ts, X, C, W, e, K, h => by
    simp only [ckE] at h
    split at h
    · obtain ⟨h1, h⟩ := and2 h
      obtain ⟨h2, h⟩ := and2 h
      obtain ⟨h3, h⟩ := and2 h
      obtain ⟨h4, h5⟩ := and2 h
      obtain rfl := de h1
      obtain ⟨b1, b2, b3, b4⟩ := K.b h2
      split at h5
      · exact x_isa1 (y := Str.empty) K.F.cls b1 b2 h3 rfl (K.ty h5) (ckE_ok a K h4)
      · obtain ⟨q1, q2⟩ := and2 h5
        exact x_isa K.F.cls b1 b2 h3 (Nat.le_trans (de q1) (by decide)) (K.tys q2) (ckE_ok a K h4)
      · cases h5
    · cases h
  | .me m a as, X, C, W, e, K, h => by
    simp only [ckE] at h
    split at h
    · obtain ⟨h1, h⟩ := and2 h
      obtain ⟨h2, h⟩ := and2 h
      obtain ⟨h3, h4⟩ := and2 h
      obtain rfl := de h1
      exact x_bits h2 h3 (ckE_ok a K h4)
    · cases h
  | .lc own tg kd as ifs elt, X, C, W, e, K, h => by
    simp only [ckE] at h
    split at h
    · rename_i eltE tgE iterE ifsE scope pos
      obtain ⟨h1, h⟩ := and2 h
      obtain ⟨h2, h⟩ := and2 h
      obtain ⟨h3, h⟩ := and2 h
      obtain ⟨h4, h⟩ := and2 h
      obtain ⟨h5, h⟩ := and2 h
      obtain ⟨h6, h⟩ := and2 h
      obtain ⟨h7, h⟩ := and2 h
      obtain ⟨h8, h9⟩ := and2 h
      have r := x_lc (W := W) (own := own2 C own) (tg := tg) (kd := kd) (as := as) (ifs := ifs) (a := elt) (pos := pos) K.rm.calm (by rw [K.N]; exact K.nd) (by rw [own2_eq]; exact de h1) (fun i hi => by
        rw [own2_eq]
        exact List.contains_iff_mem.mp (List.all_eq_true.mp h3 i hi)) (blkOk_by (by rw [K.N, K.sc]; exact h4)) (ckIt_ok as kd K h6) (noSet_ok h5) (fun s H ca cl fp => (K.inB scope s H ca cl fp).tg h7) (fun s H ca cl fp => ckTs_ok ifs (K.inB scope s H ca cl fp) h8) (fun s H ca cl fp => ckE_ok elt (K.inB scope s H ca cl fp) h9)
      rw [own2_eq] at r
      exact r
    · cases h
  | .sortk as, X, C, W, e, K, h => by
    simp only [ckE] at h
    split at h
    · obtain ⟨h1, h⟩ := and2 h
      obtain ⟨h2, h⟩ := and2 h
      obtain ⟨h3, h⟩ := and2 h
      obtain ⟨h4, h⟩ := and2 h
      obtain ⟨h5, h⟩ := and2 h
      obtain ⟨h6, h⟩ := and2 h
      obtain ⟨h7, h⟩ := and2 h
      obtain ⟨h8, h⟩ := and2 h
      obtain ⟨h9, h10⟩ := and2 h
      obtain rfl := de h1
      obtain rfl := de h6
      obtain ⟨b1, b2, b3, b4⟩ := K.b h2
      unfold lenB at h9
      split at h9
      · obtain ⟨l1, h9⟩ := and2 h9
        obtain ⟨l2, l3⟩ := and2 h9
        obtain rfl := de l1
        obtain rfl := de l2
        obtain rfl := de l3
        exact x_sortLen K.rm (K.kl h3) b1 b2 (K.F.bi "len" (List.contains_iff_mem.mp h4)) h5 h7 h8 (ckAs_ok as K h10)
      · cases h9
    · cases h
  | .newt, X, C, W, e, K, h => by
    simp only [ckE] at h
    split at h
    · obtain ⟨h1, h2⟩ := and2 h
      rw [List.isEmpty_iff.mp h1, List.isEmpty_iff.mp h2]
      exact x_newt
    · cases h
  | .tkeys i, X, C, W, e, K, h => by
    simp only [ckE] at h
    split at h
    · obtain ⟨h1, h⟩ := and2 h
      obtain ⟨h2, h3⟩ := and2 h
      have hz := de h1
      subst hz
      obtain ⟨b1, b2, _, _⟩ := K.b h2
      obtain ⟨q1, q2, q3, q4⟩ := K.v h3
      exact x_tkeys K.rm.calm b1 b2 q1 q2 q3 q4
    · cases h
  | .tand _ _, X, C, W, e, K, h => by simp [ckE] at h
  | .tor _ _, X, C, W, e, K, h => by simp [ckE] at h
  | .tnot _, X, C, W, e, K, h => by simp [ckE] at h
  | .tv _, X, C, W, e, K, h => by simp [ckE] at h
  | .no, X, C, W, e, K, h => by simp [ckE] at h
  | .rev a, X, C, W, e, K, h => by
    simp only [ckE] at h
    split at h
    · exact x_rev (ckE_ok a K h)
    · cases h
  | .setl as, X, C, W, e, K, h => by
    simp only [ckE] at h
    split at h
    · obtain ⟨h1, h⟩ := and2 h
      obtain ⟨h2, h⟩ := and2 h
      obtain ⟨h3, h⟩ := and2 h
      obtain ⟨h4, h⟩ := and2 h
      obtain ⟨h5, h6⟩ := and2 h
      have z1 := de h1
      have z2 := de h3
      subst z1 z2
      obtain ⟨b1, b2, _, _⟩ := K.b h2
      obtain ⟨c1, c2, _, _⟩ := K.b h4
      exact x_setl K.rm b1 b2 c1 c2 h5 (ckAs_ok as K h6)
    · cases h
  | .sets as, X, C, W, e, K, h => by
    simp only [ckE] at h
    split at h
    · obtain ⟨h1, h⟩ := and2 h
      obtain ⟨h2, h⟩ := and2 h
      obtain ⟨h3, h⟩ := and2 h
      obtain ⟨h4, h⟩ := and2 h
      obtain ⟨h5, h6⟩ := and2 h
      have z1 := de h1
      have z2 := de h3
      subst z1 z2
      obtain ⟨b1, b2, _, _⟩ := K.b h2
      obtain ⟨c1, c2, _, _⟩ := K.b h4
      exact x_sets K.rm b1 b2 c1 c2 h5 (ckAs_ok as K h6)
    · cases h
  | .tsort i, X, C, W, e, K, h => by
    simp only [ckE] at h
    split at h
    · obtain ⟨h1, h⟩ := and2 h
      obtain ⟨h2, h3⟩ := and2 h
      have hz := de h1
      subst hz
      obtain ⟨b1, b2, _, _⟩ := K.b h2
      obtain ⟨q1, q2, q3, q4⟩ := K.v h3
      exact x_tsort K.rm b1 b2 q1 q2 q3 q4
    · cases h
  | .att a f, X, C, W, e, K, h => by
    simp only [ckE] at h
    split at h
    · obtain ⟨h1, h⟩ := and2 h
      obtain ⟨h2, h3⟩ := and2 h
      obtain rfl := de h1
      exact x_att (fun g hg => K.F.att g _ hg) h2 (ckE_ok a K h3)
    · cases h
  | .isx a g, X, C, W, e, K, h => by
    simp only [ckE] at h
    split at h
    · rename_i x p2 e y pos
      obtain ⟨h1, h⟩ := and2 h
      obtain ⟨h2, h⟩ := and2 h
      obtain ⟨h3, h⟩ := and2 h
      obtain ⟨h4, h⟩ := and2 h
      obtain ⟨h5, h⟩ := and2 h
      obtain ⟨h6, h7⟩ := and2 h
      obtain rfl := de h1
      obtain ⟨b1, b2, b3, b4⟩ := K.b h2
      split at h6
      · exact x_isx (fun h t e => K.F.xs h g t e) b1 b2 h4 h5 (K.glob h6) (ckE_ok a K h7)
      · cases h6
    · cases h
  | .callk g ks as, X, C, W, e, K, h => by
    simp only [ckE] at h
    split at h
    · rename_i x p2 kws pos
      obtain ⟨h1, h⟩ := and2 h
      obtain ⟨h2, h⟩ := and2 h
      obtain ⟨h3, h⟩ := and2 h
      obtain ⟨h4, h⟩ := and2 h
      obtain ⟨h5, h6⟩ := and2 h
      obtain ⟨g1, g2⟩ := K.gl h2
      have hm := List.contains_iff_mem.mp h3
      obtain ⟨fn, hf, F⟩ := K.F.fnk _ hm
      have eg := K.nmg g
      have ex := de h1
      rw [← eg] at ex
      obtain rfl := ex
      rcases K.md with ⟨_, m1, m2⟩ | ⟨_, _, _, _, _, m1⟩ | ⟨_, m1⟩
      · exact x_callk F m2 K.rm K.tk m1 hf g1 (okN_d g2).1 (de h4) (de h5) (ckKs_ok as K h6)
      · rw [m1] at hm; cases hm
      · rw [m1] at hm; cases hm
    · cases h
theorem ckT_ok {Γ : Gam} {nm : Nm} {L : Nat} : ∀ (a : E) {X : Cx} {C : Cc} {W : WX} {e : Expr}, CkX X C W Γ nm L → ckT a C e = true → pT X nm W Γ a e
  | .tand a b, X, C, W, e, K, h => by
    simp only [ckT] at h
    split at h
    · obtain ⟨h1, h2⟩ := and2 h
      exact t_and1 (ckT_ok a K h1) (ckT_ok b K h2)
    · obtain ⟨h1, h2⟩ := and2 h
      exact t_and2 (ckT_ok a K h1) (ckT_ok b K h2)
    · cases h
  | .tor a b, X, C, W, e, K, h => by
    simp only [ckT] at h
    split at h
    · obtain ⟨h1, h2⟩ := and2 h
      exact t_or1 (ckT_ok a K h1) (ckT_ok b K h2)
    · obtain ⟨h1, h2⟩ := and2 h
      exact t_or2 (ckT_ok a K h1) (ckT_ok b K h2)
    · cases h
  | .tnot a, X, C, W, e, K, h => by
    simp only [ckT] at h
    split at h
    · exact t_not (ckT_ok a K h)
    · cases h
  | .tv x, X, C, W, e, K, h => by
    simp only [ckT] at h
    obtain ⟨h0, h⟩ := and2 h
    rcases Bool.or_eq_true_iff.mp h0 with h1 | h1
    · exact t_tv h1 (ckE_ok x K h)
    · cases x with
      | cmp op a b =>
        simp only [ckE] at h
        split at h
        · obtain ⟨h1, h⟩ := and2 h
          obtain ⟨h2, h⟩ := and2 h
          obtain ⟨h3, hl⟩ := and2 h
          obtain rfl := de h1
          exact t_cmp K.u64 (nt h2) (ckE_ok a K h3) (ckE_ok b K hl)
        · cases h
      | cmp2 o1 o2 a b c =>
        simp only [ckE] at h
        split at h
        · obtain ⟨h1, h⟩ := and2 h
          obtain ⟨h2, h⟩ := and2 h
          obtain ⟨h3, h⟩ := and2 h
          obtain ⟨h4, h⟩ := and2 h
          obtain ⟨h5, hl⟩ := and2 h
          obtain rfl := de h1
          obtain rfl := de h2
          exact t_cmp2 K.u64 (nt h3) (ckE_ok a K h4) (ckE_ok b K h5) (ckE_ok c K hl)
        · cases h
      | isN a =>
        simp only [ckE] at h
        split at h
        · exact t_isN (ckE_ok a K h)
        · cases h
      | notN a =>
        simp only [ckE] at h
        split at h
        · exact t_notN (ckE_ok a K h)
        · cases h
      | _ => simp [isCmp] at h1
  | .v _, X, C, W, e, K, h => by simp [ckT] at h
  | .v1 _ _, X, C, W, e, K, h => by simp [ckT] at h
  | .v2 _ _ _, X, C, W, e, K, h => by simp [ckT] at h
  | .gl _, X, C, W, e, K, h => by simp [ckT] at h
  | .kst _, X, C, W, e, K, h => by simp [ckT] at h
  | .newt, X, C, W, e, K, h => by simp [ckT] at h
  | .sortk _, X, C, W, e, K, h => by simp [ckT] at h
  | .tkeys _, X, C, W, e, K, h => by simp [ckT] at h
  | .tsort _, X, C, W, e, K, h => by simp [ckT] at h
  | .setl _, X, C, W, e, K, h => by simp [ckT] at h
  | .sets _, X, C, W, e, K, h => by simp [ckT] at h
  | .c _, X, C, W, e, K, h => by simp [ckT] at h
  | .tup _, X, C, W, e, K, h => by simp [ckT] at h
  | .lst _, X, C, W, e, K, h => by simp [ckT] at h
  | .dct _ _, X, C, W, e, K, h => by simp [ckT] at h
  | .bin _ _ _, X, C, W, e, K, h => by simp [ckT] at h
  | .neg _, X, C, W, e, K, h => by simp [ckT] at h
  | .cmp _ _ _, X, C, W, e, K, h => by simp [ckT] at h
  | .cmp2 _ _ _ _ _, X, C, W, e, K, h => by simp [ckT] at h
  | .isN _, X, C, W, e, K, h => by simp [ckT] at h
  | .notN _, X, C, W, e, K, h => by simp [ckT] at h
  | .and _ _, X, C, W, e, K, h => by simp [ckT] at h
  | .or _ _, X, C, W, e, K, h => by simp [ckT] at h
  | .not _, X, C, W, e, K, h => by simp [ckT] at h
  | .ife _ _ _, X, C, W, e, K, h => by simp [ckT] at h
  | .ix _ _, X, C, W, e, K, h => by simp [ckT] at h
  | .slc _ _ _, X, C, W, e, K, h => by simp [ckT] at h
  | .no, X, C, W, e, K, h => by simp [ckT] at h
  | .rev _, X, C, W, e, K, h => by simp [ckT] at h
  | .pget _ _, X, C, W, e, K, h => by simp [ckT] at h
  | .pcell _ _, X, C, W, e, K, h => by simp [ckT] at h
  | .plen _, X, C, W, e, K, h => by simp [ckT] at h
  | .att _ _, X, C, W, e, K, h => by simp [ckT] at h
  | .lam _ _, X, C, W, e, K, h => by simp [ckT] at h
  | .callc _, X, C, W, e, K, h => by simp [ckT] at h
  | .call _ _, X, C, W, e, K, h => by simp [ckT] at h
  | .callk _ _ _, X, C, W, e, K, h => by simp [ckT] at h
  | .callv _ _, X, C, W, e, K, h => by simp [ckT] at h
  | .bi _ _, X, C, W, e, K, h => by simp [ckT] at h
  | .isa _ _, X, C, W, e, K, h => by simp [ckT] at h
  | .isx _ _, X, C, W, e, K, h => by simp [ckT] at h
  | .me _ _ _, X, C, W, e, K, h => by simp [ckT] at h
  | .lc _ _ _ _ _ _, X, C, W, e, K, h => by simp [ckT] at h
theorem ckTs_ok {Γ : Gam} {nm : Nm} {L : Nat} : ∀ (a : List E) {X : Cx} {C : Cc} {W : WX} {e : List Expr}, CkX X C W Γ nm L → ckTs a C e = true → PTs X e (tTs (gOf X nm) W Γ a)
  | [], X, C, W, e, K, h => by
    simp only [ckTs] at h
    rw [List.isEmpty_iff.mp h]
    exact ts_nil
  | t :: ts, X, C, W, e, K, h => by
    simp only [ckTs] at h
    split at h
    · exact ts_one (ckT_ok t K h)
    · cases h
theorem ckAs_ok {Γ : Gam} {nm : Nm} {L : Nat} : ∀ (a : List E) {X : Cx} {C : Cc} {W : WX} {e : List Expr}, CkX X C W Γ nm L → ckEs a C e = true → pAs X nm W Γ a e
  | [], X, C, W, e, K, h => by
    simp only [ckEs] at h
    rw [List.isEmpty_iff.mp h]
    exact s_nil
  | a :: as, X, C, W, e, K, h => by
    simp only [ckEs] at h
    split at h
    · obtain ⟨h1, h⟩ := and2 h
      obtain ⟨h2, h3⟩ := and2 h
      exact s_cons h1 (ckE_ok a K h2) (ckAs_ok as K h3)
    · cases h
theorem ckKs_ok {Γ : Gam} {nm : Nm} {L : Nat} : ∀ (a : List E) {X : Cx} {C : Cc} {W : WX} {e : List Keyword}, CkX X C W Γ nm L → ckKs a C e = true → pKs X nm W Γ a e
  | [], X, C, W, e, K, h => by
    simp only [ckKs] at h
    rw [List.isEmpty_iff.mp h]
    exact k_nil
  | a :: as, X, C, W, e, K, h => by
    simp only [ckKs] at h
    split at h
    · obtain ⟨h1, h2⟩ := and2 h
      exact k_cons (ckE_ok a K h1) (ckKs_ok as K h2)
    · cases h
theorem ckAv_ok {Γ : Gam} {nm : Nm} {L : Nat} : ∀ (a : List E) {X : Cx} {C : Cc} {W : WX} {e : List Expr}, CkX X C W Γ nm L → ckEs a C e = true → pAv X nm W Γ a e
  | [], X, C, W, e, K, h => by
    simp only [ckEs] at h
    rw [List.isEmpty_iff.mp h]
    exact v_nil
  | a :: as, X, C, W, e, K, h => by
    simp only [ckEs] at h
    split at h
    · obtain ⟨h1, h⟩ := and2 h
      obtain ⟨h2, h3⟩ := and2 h
      exact v_cons h1 (ckE_ok a K h2) (ckAv_ok as K h3)
    · cases h
theorem ckIt_ok {Γ : Gam} {nm : Nm} {L : Nat} : ∀ (a : List E) (kd : ItK) {X : Cx} {C : Cc} {W : WX} {z : Bool} {tg e : Expr}, CkX X C W Γ nm L → ckIt a kd C e = true → PI X tg e (tI (gOf X nm) W Γ z kd a)
  | [], kd, X, C, W, z, tg, e, K, h => by simp [ckIt] at h
  | a :: as, kd, X, C, W, z, tg, e, K, h => by
    simp only [ckIt] at h
    split at h
    · obtain ⟨h1, h2⟩ := and2 h
      rw [List.isEmpty_iff.mp h1]
      exact i_seq (ckE_ok a K h2)
    · split at h
      · obtain ⟨h1, h⟩ := and2 h
        obtain ⟨h2, h⟩ := and2 h
        obtain ⟨h3, h⟩ := and2 h
        obtain ⟨h4, h⟩ := and2 h
        obtain ⟨h5, h⟩ := and2 h
        obtain ⟨h6, h7⟩ := and2 h
        obtain rfl := de h1
        obtain ⟨b1, b2, b3, b4⟩ := K.b h2
        have rest := ckAv_ok as K h7
        have l1 := de h4
        cases as with
        | nil =>
          simp only [ckEs] at h7
          rw [List.isEmpty_iff.mp h7, show _ = false from de h3]
          exact i_rng1 b1 b2 h5 (v_cons h5 (ckE_ok a K h6) v_nil)
        | cons b bs =>
          cases bs with
          | cons c cs => simp at l1
          | nil =>
            simp only [ckEs] at h7
            split at h7
            · rename_i es' f es2
              obtain ⟨k1, k⟩ := and2 h7
              obtain ⟨k2, k3⟩ := and2 k
              rw [List.isEmpty_iff.mp k3, show _ = true from de h3]
              exact i_rng2 b1 b2 h5 k1 (v_cons h5 (ckE_ok a K h6) (v_cons k1 (ckE_ok b K k2) v_nil))
            · cases h7
      · cases h
    · split at h
      · obtain ⟨h1, h⟩ := and2 h
        obtain ⟨h2, h⟩ := and2 h
        obtain ⟨h3, h⟩ := and2 h
        obtain ⟨h4, h⟩ := and2 h
        obtain ⟨h5, h⟩ := and2 h
        obtain ⟨h6, h7⟩ := and2 h
        have hz := de h1
        subst hz
        obtain ⟨g1, g2⟩ := K.gl h3
        exact i_cmb g1 (K.F.cmb h2) h4 h5 (v_cons h4 (ckE_ok a K h6) (ckAv_ok as K h7))
      · cases h
    · split at h
      · obtain ⟨h1, h⟩ := and2 h
        obtain ⟨h2, h⟩ := and2 h
        obtain ⟨h3, h⟩ := and2 h
        obtain ⟨h4, h⟩ := and2 h
        obtain ⟨h5, h⟩ := and2 h
        obtain ⟨h6, h7⟩ := and2 h
        have hz := de h1
        subst hz
        obtain ⟨b1, b2, _, _⟩ := K.b h2
        exact i_rng3 b1 b2 h3 h4 h5 (v_cons h3 (ckE_ok a K h6) (ckAv_ok as K h7))
      · cases h
    · cases h
theorem ckStar : ∀ (a : List E) {C : Cc} {e : List Expr}, ckEs a C e = true → e.all noStar = true
  | [], C, e, h => by
    simp only [ckEs] at h
    rw [List.isEmpty_iff.mp h]; rfl
  | a :: as, C, e, h => by
    simp only [ckEs] at h
    split at h
    · obtain ⟨h1, h⟩ := and2 h
      obtain ⟨h2, h3⟩ := and2 h
      rw [List.all_cons, h1, ckStar as h3]; rfl
    · cases h
end
end DL

set_option Elab.async false
set_option linter.all false
set_option maxRecDepth 100000
/-! DL26: the check of statements. -/
namespace DL
open PySem PySem.Spec PyProof.Rows L2
def notComp : Expr → Bool
  | .ListComp _ _ _ _ | .SetComp _ _ _ _ | .DictComp _ _ _ _ _ => false
  | _ => true
def isLc : Expr → Bool
  | .ListComp _ _ _ _ => true
  | _ => false
def isLcE : E → Bool
  | .lc _ _ _ _ _ _ => true
  | _ => false
/-- no stores are exchanged -/
def swN (C : Cc) (ts : List Expr) (v : Expr) : Bool := match v with
  | .Tuple _ _ _ => ts.any fun t => match t with
    | .Name x _ => !(decide (C.sc.names.lookup x = some .local))
    | _ => true
  | _ => true
def itB (n : Str) : List HIt → List Expr → Bool
  | [], es => es.isEmpty
  | i :: is, es => (match i, es with
    | .c (.str z), .Constant (.str y) _ _ :: es => decide (z = y) && itB n is es
    | .f f, .Attribute (.Name y _) g _ :: es => decide (y = n) && (decide (g = f) && itB n is es)
    | _, _ => false)
def hbB (n : Str) (h : HB) (sts : List Stmt) : Bool := match h, sts with
  | .c (.bl b), [.Return (some (.Constant (.bool c) _ _)) _] => b == c
  | .t is, [.Return (some (.Tuple es _ _)) _] => itB n is es
  | _, _ => false
def ckHs (C : Cc) (n : Str) : List (Nat × HB) → List ExceptHandler → Bool
  | [], hds => hds.isEmpty
  | (g, h) :: hs, hds => (match hds with
    | .ExceptHandler (some (.Name x _)) (some m) sts _ :: hds => decide (x = C.g g) && (glB C x && (decide (m = n) && (decide (h.len ≤ 1000) && ((match C.exf.lookup g with
      | some flds => h.fs.all fun f => flds.contains f
      | none => false) && (C.gls.contains g && (hbB n h sts && ckHs C n hs hds))))))
    | _ => false)
mutual
def ckS : S → Cc → Stmt → Bool
  | .set i a, C, st => (match st with
    | .Assign [.Name x _] v _ => decide (C.N[i]? = some x) && (locB C x && (okN x && ((notComp v || (isLc v && isLcE a)) && ckE a C v)))
    | _ => false)
  | .sett is a, C, st => (match st with
    | .Assign [.Tuple ts k p] v _ => ckTg C (.tp is) (.Tuple ts k p) && (swN C ts v && ckE a C v)
    | _ => false)
  | .par i j a b, C, st => (match st with
    | .Assign [.Tuple [.Name x p2, .Name y p3] _ _] (.Tuple [e1, e2] _ _) _ => decide (C.N[i]? = some x) && (decide (C.N[j]? = some y) && (decide (i ≠ j) && (decide (C.sc.names.lookup x = some .local) && (decide (C.sc.names.lookup y = some .local) && (decide (p3.line = p2.line) && (decide (x ≠ y) &&
        (!([e1, e2].all (foldedForSure 8)) && (!([e1, e2].all (constantsAlone 8)) && (noStar e1 && (noStar e2 && (ckE a C e1 && ckE b C e2)))))))))))
    | _ => false)
  | .ex a, C, st => (match st with
    | .Expr v _ => notComp v && ckE a C v
    | _ => false)
  | .ret a, C, st => (match st with
    | .Return (some v) _ => ckE a C v
    | _ => false)
  | .retn, _, st => (match st with
    | .Return none _ => true
    | _ => false)
  | .iff t a b, C, st => (match st with
    | .If e s1 s2 _ => ckT t C e && (ckSs a C s1 && ckSs b C s2)
    | _ => false)
  | .fr tg kd as body, C, st => (match st with
    | .For tgE iterE sts [] _ => noSet iterE && (ckIt as kd C iterE && (ckTg C tg tgE && ckSs body C sts))
    | _ => false)
  | .whl _ t body, C, st => (match st with
    | .While e sts [] _ => ckT t C e && ckSs body C sts
    | _ => false)
  | .brk, _, st => (match st with
    | .Break _ => true
    | _ => false)
  | .cnt, _, st => (match st with
    | .Continue _ => true
    | _ => false)
  | .pas, _, st => (match st with
    | .Pass _ => true
    | _ => false)
  | .rse g as, C, st => (match st with
    | .Raise (some (.Call (.Name x _) (e :: es) [] _)) none _ => decide (x = C.g g) && (glB C x && (C.exf.any (fun p => p.1 == g && !p.2.isEmpty) && ckEs as C (e :: es)))
    | _ => false)
  | .app i a, C, st => (match st with
    | .Expr (.Call (.Attribute (.Name x _) m p3) [v] [] p4) _ => decide (m = ("append" : Str)) && (ckV C i x && (noStar v && (p3.endLine == p4.line && ckE a C v)))
    | _ => false)
  | .apop i j a, C, st => (match st with
    | .Expr (.Call (.Attribute (.Name x _) m p3) [.Call (.Attribute (.Name y _) n p6) [v] [] p7] [] p4) _ => decide (m = ("append" : Str)) && (decide (n = ("pop" : Str)) && (ckV C i x && (ckV C j y && (noStar v && (p3.endLine == p4.line && (p6.endLine == p7.line && ckE a C v))))))
    | _ => false)
  | .pst i f a, C, st => (match st with
    | .Assign [.Subscript (.Name x _) (.Constant (.str y) _ _) _] v _ => ckV C i x && (decide (y = f.key) && (notComp v && ckE a C v))
    | _ => false)
  | .tput i a b, C, st => (match st with
    | .Assign [.Subscript (.Name x _) e _] v _ => ckV C i x && (notComp v && (ckE a C e && ckE b C v))
    | _ => false)
  | .try_ body hs, C, st => (match st with
    | .Try sts (.ExceptHandler t (some n) b p :: hds) [] [] _ => okN n && (decide (C.sc.names.lookup n = some .local) && (C.N.contains n && (ckHs C n hs (.ExceptHandler t (some n) b p :: hds) && ckSs body C sts)))
    | _ => false)
  | .tryb body gb c, C, st => (match st with
    | .Try sts [.ExceptHandler (some (.Name x _)) none [.Return (some ec) _] _] [] [] _ => decide (x = C.g gb) && (glB C x && (C.gls.contains gb && (ckC c ec && ckSs body C sts)))
    | _ => false)
  | _, _, _ => false
def ckSs : List S → Cc → List Stmt → Bool
  | [], _, sts => sts.isEmpty
  | s :: ss, C, sts => (match sts with
    | st :: sts => ckS s C st && ckSs ss C sts
    | [] => false)
end
/-- .. for statements -/
structure CkS (X : Cx) (C : Cc) (W : WX) (Γ : Gam) (nm : Nm) (L : Nat) : Prop extends CkX X C W Γ nm L where
  kind : C.sc.kind = .function
  stack : X.stack = X.env :: X.outer
  frame : X.env.frame = some X.env.locals
  po : PassesOwn (model X.prog X.w) X.A X.env X.xe
section
variable {X : Cx} {C : Cc} {W : WX} {Γ : Gam} {nm : Nm} {L : Nat}
theorem CkS.tr (K : CkS X C W Γ nm L) {W' : WX} {pn : List (Addr × Obj)} {xe : Value → Shared → Prop} (tk : Takes (X.tr pn xe) W') (po : PassesOwn (model X.prog X.w) X.A X.env xe) : CkS (X.tr pn xe) C W' Γ nm L where
  N := K.N
  nd := K.nd
  sc := K.sc
  fnx := K.fnx
  rm := ⟨K.rm.room, K.rm.gd, K.rm.calm⟩
  tk := tk
  F := K.F
  md := by
    rcases K.md with h | ⟨h0, is, h1, h2, h3, h4⟩ | h
    · exact .inl h
    · exact .inr (.inl ⟨h0, is, h1, ⟨h2.cells, h2.cv, h2.slot, h2.fn, h2.lamc⟩, h3, h4⟩)
    · exact .inr (.inr h)
  kl := fun h => ⟨(K.kl h).gm, (K.kl h).ex⟩
  callc := K.callc
  lam := K.lam
  kind := K.kind
  stack := K.stack
  frame := K.frame
  po := po
theorem bk_of {env : PySem.Env} (h : env.scope.kind = .function) : env.blockKind = .function := by
  unfold Env.blockKind
  rw [h]; rfl
theorem swaps_none {v : Expr} {t : Option Expr} {l : Nat} {env : PySem.Env} (h : notComp v = true) : swapsWith v t l env = pure false := by
  cases v <;> first | rfl | cases h
theorem swaps_tup {v : Expr} {ts : List Expr} {k : Nat} {p : Pos} {l : Nat} {env : PySem.Env} : swapsWith v (some (.Tuple ts k p)) l env = pure false := by
  cases v <;> rfl
theorem swaps_sub {v a b : Expr} {p : Pos} {l : Nat} {env : PySem.Env} : swapsWith v (some (.Subscript a b p)) l env = pure false := by
  cases v <;> rfl
theorem swaps_lc {elt : Expr} {gs : List Comprehension} {s : Scope} {p p2 : Pos} {x : Str} {l : Nat} {env : PySem.Env} :
    swapsWith (.ListComp elt gs s p) (some (.Name x p2)) l env = pure (env.blockKind == .function && env.kindOf x == some .local && p2.line == p.line && !(s.names.any fun q => q.1 == x && (q.2 == .local || q.2 == .cell))) := rfl
theorem filter_lt {α β : Type} {f : α → Option β} : ∀ {l : List α}, (l.any fun a => (f a).isNone) = true → (l.filterMap f).length ≠ l.length := fun {l} h => by
  have le : ∀ l : List α, (l.filterMap f).length ≤ l.length := fun l => List.length_filterMap_le f l
  induction l with
  | nil => cases h
  | cons a l ih =>
    rw [List.any_cons] at h
    cases e : f a with
    | none =>
      rw [List.filterMap_cons_none e]
      have := le l
      simp only [List.length_cons]; omega
    | some b =>
      rw [e] at h
      rw [List.filterMap_cons_some e]
      simp only [List.length_cons]
      have := ih (by simpa using h)
      omega
theorem swapped_none {ts : List Expr} {v : Expr} {k : Nat} {p : Pos} {env : PySem.Env} (hsc : env.scope = C.sc) (h : swN C ts v = true) : swappedStores [.Tuple ts k p] v env = pure none := by
  cases v with
  | Tuple vs k2 p2 =>
    unfold swN at h
    have hn : (ts.filterMap fun t => match t with
      | .Name id pos => if env.kindOf id == some .local && pos.line == (ts.head?.map (·.pos.line)).getD 0 then some id else none
      | _ => none).length ≠ ts.length := by
      refine filter_lt ?_
      obtain ⟨t, m, q⟩ := List.any_eq_true.mp h
      refine List.any_eq_true.mpr ⟨t, m, ?_⟩
      cases t with
      | Name x p3 =>
        have q' : (!(decide (C.sc.names.lookup x = some .local))) = true := q
        have q2 : ¬ C.sc.names.lookup x = some .local := by simpa using q'
        have e : (env.kindOf x == some NameKind.local) = false := by
          unfold Env.kindOf
          rw [hsc, beq_eq_false_iff_ne]
          exact q2
        simp [e]
      | _ => rfl
    unfold swappedStores
    dsimp only
    split
    · rfl
    · split
      · rfl
      · rw [if_pos]
        rw [Bool.or_eq_true]
        exact .inl (bne_iff_ne.mpr hn)
  | _ => rfl
def isStar : Expr → Bool
  | .Starred _ _ => true
  | _ => false
theorem isStar_no {e : Expr} (h : noStar e = true) : isStar e = false := by cases e <;> first | rfl | cases h
theorem swapped_two {x y : Str} {p2 p3 pt pt2 : Pos} {kt k2 : Nat} {e1 e2 : Expr} {env : PySem.Env} (hk : env.scope.kind = .function) (hx : env.scope.names.lookup x = some .local) (hy : env.scope.names.lookup y = some .local) (hl : p3.line = p2.line) (ne : x ≠ y)
    (h1 : [e1, e2].all (foldedForSure 8) = false) (h2 : [e1, e2].all (constantsAlone 8) = false) (s1 : noStar e1 = true) (s2 : noStar e2 = true) : swappedStores [.Tuple [.Name x p2, .Name y p3] kt pt] (.Tuple [e1, e2] k2 pt2) env = pure (some [x, y]) := by
  have b := bk_of hk
  have kx : (env.kindOf x == some NameKind.local) = true := by unfold Env.kindOf; rw [hx]; rfl
  have ky : (env.kindOf y == some NameKind.local) = true := by unfold Env.kindOf; rw [hy]; rfl
  have d : ([x, y] : List Str).eraseDups = [x, y] := by
    have : (y == x) = false := beq_eq_false_iff_ne.mpr (Ne.symm ne)
    simp [List.eraseDups_cons, this]
  unfold swappedStores
  dsimp only
  rw [b]
  refine (if_neg (fun q => nomatch (show false = true from q))).trans ?_
  refine (if_neg (show ¬ ((isStar e1 || (isStar e2 || false)) = true) from by rw [isStar_no s1, isStar_no s2]; decide)).trans ?_
  have nx : ([.Name x p2, .Name y p3] : List Expr).filterMap (fun t => match t with
      | .Name id pos => if env.kindOf id == some .local && pos.line == (([.Name x p2, .Name y p3] : List Expr).head?.map (·.pos.line)).getD 0 then some id else none
      | _ => none) = [x, y] := by
    simp only [List.filterMap_cons, List.filterMap_nil, kx, ky, List.head?_cons, Option.map_some, Option.getD_some, Expr.pos, hl, beq_self_eq_true, Bool.and_self, if_true]
  have key : ∀ names : List Str, names = [x, y] → (if (names.length != 2 || names.eraseDups.length != names.length) = true then (pure none : Sem (Option (List Str))) else if [e1, e2].all (foldedForSure 8) = true then pure none else if [e1, e2].all (constantsAlone 8) = true then (do
      unsupported "assign.tuple-of-constant-expressions:order-of-the-stores"
      pure (some names)) else pure (some names)) = pure (some [x, y]) := by
    rintro _ rfl
    rw [d, h1, h2]
    rfl
  exact key _ nx
end
end DL

set_option Elab.async false
set_option linter.all false
set_option maxRecDepth 100000
/-! DL27: the check of statements is right. -/
namespace DL
open PySem PySem.Spec PyProof.Rows L2
theorem mem_look {β : Type} {k : Nat} {v : β} : ∀ {l : List (Nat × β)}, l.lookup k = some v → (k, v) ∈ l
  | [], h => by cases h
  | (a, b) :: l, h => by
    rw [List.lookup_cons] at h
    cases e : k == a with
    | true => rw [e] at h; cases h; rw [beq_iff_eq.mp e]; exact List.mem_cons_self ..
    | false => rw [e] at h; exact List.mem_cons_of_mem _ (mem_look h)
theorem itB_ok {n : Str} : ∀ {is : List HIt} {es : List Expr}, itB n is es = true → ItS n is es
  | [], es, h => by
    unfold itB at h
    rw [List.isEmpty_iff.mp h]; exact .nil
  | i :: is, es, h => by
    unfold itB at h
    split at h
    · obtain ⟨h1, h2⟩ := and2 h
      obtain rfl := de h1
      exact .str (itB_ok h2)
    · obtain ⟨h1, h⟩ := and2 h
      obtain ⟨h2, h3⟩ := and2 h
      obtain rfl := de h1
      obtain rfl := de h2
      exact .fld (itB_ok h3)
    · cases h
theorem swaps_sole {v : Expr} {ts : List Expr} {k : Nat} {p : Pos} {l : Nat} {env : PySem.Env} : swapsWithSole [.Tuple ts k p] v l env = pure false := by
  cases v <;> rfl
theorem hbB_ok {n : Str} {h : HB} {sts : List Stmt} (e : hbB n h sts = true) : ∃ st r, sts = st :: r ∧ HbS n h (st :: r) := by
  unfold hbB at e
  split at e
  · obtain rfl := beq_iff_eq.mp e
    exact ⟨_, _, rfl, .bl⟩
  · exact ⟨_, _, rfl, .tup (itB_ok e)⟩
  · cases e
section
variable {X : Cx} {C : Cc} {W : WX} {Γ : Gam} {nm : Nm} {L : Nat}
theorem ckHs_ok (K : CkX X C W Γ nm L) {n : Str} : ∀ {hs : List (Nat × HB)} {hds : List ExceptHandler}, ckHs C n hs hds = true → HdS X nm n hs hds ∧ ∀ p ∈ hs, ∃ q ∈ C.exf, q.1 = p.1
  | [], hds, h => by
    unfold ckHs at h
    rw [List.isEmpty_iff.mp h]
    exact ⟨.nil, fun _ m => nomatch m⟩
  | (g, hb) :: hs, hds, h => by
    unfold ckHs at h
    split at h
    · obtain ⟨h1, h⟩ := and2 h
      obtain ⟨h2, h⟩ := and2 h
      obtain ⟨h3, h⟩ := and2 h
      obtain ⟨h4, h⟩ := and2 h
      obtain ⟨h5, h⟩ := and2 h
      obtain ⟨h6, h⟩ := and2 h
      obtain ⟨h7, h8⟩ := and2 h
      obtain ⟨r1, r2⟩ := ckHs_ok K h8
      obtain ⟨g1, g2⟩ := K.gl h2
      have eg := K.nmg g
      have gl : X.mg (nm g) = some (.ref (He.ga X.K (nm g))) := by
        rw [eg]
        exact K.F.gl g (List.contains_iff_mem.mp h6)
      split at h5
      · rename_i flds el
        have me := mem_look el
        obtain ⟨x1, x2⟩ := K.F.xfc (g, flds) me
        obtain ⟨st, r, e, S⟩ := hbB_ok h7
        obtain rfl := e
        obtain rfl := de h3
        have ex := de h1
        rw [← eg] at ex
        obtain rfl := ex
        refine ⟨.cons gl g1 (okN_d g2).1 (by rw [eg]; exact x1) (fun f hf => by rw [eg]; exact x2 f (List.contains_iff_mem.mp (List.all_eq_true.mp h5 f hf))) S (de h4) r1, fun p hp => ?_⟩
        rcases List.mem_cons.mp hp with e | hp
        · rw [e]; exact ⟨_, me, rfl⟩
        · exact r2 p hp
      · cases h5
    · cases h
end
mutual
theorem ckS_ok {Γ : Gam} {nm : Nm} {L : Nat} : ∀ (s : S) {X : Cx} {C : Cc} {W : WX} {st : Stmt}, CkS X C W Γ nm L → ckS s C st = true → pS X nm W Γ s st
  | .set i a, X, C, W, st, K, h => by
    simp only [ckS] at h
    split at h
    · rename_i x p2 v pos
      obtain ⟨h1, h⟩ := and2 h
      obtain ⟨h2, h⟩ := and2 h
      obtain ⟨h3, h⟩ := and2 h
      obtain ⟨h4, h5⟩ := and2 h
      obtain ⟨l1, l2⟩ := K.loc h2
      have hN : X.N.Nodup := by rw [K.N]; exact K.nd
      have hi : X.N[i]? = some x := by rw [K.N]; exact de h1
      rcases Bool.or_eq_true_iff.mp h4 with h4 | h4
      · exact s_set hN hi l1 l2 (swaps_none h4) (ckE_ok a K.toCkX h5)
      · obtain ⟨q1, q2⟩ := and2 h4
        cases v with
        | ListComp elt gs scope p3 =>
          cases a with
          | lc own tg kd as ifs el =>
            have full := ckE_ok _ K.toCkX h5
            cases b : (X.env.blockKind == .function && X.env.kindOf x == some .local && p2.line == p3.line && !(scope.names.any fun q => q.1 == x && (q.2 == .local || q.2 == .cell))) with
            | false => exact s_set hN hi l1 l2 (by rw [swaps_lc, b]) full
            | true =>
              simp only [ckE] at h5
              split at h5
              · rename_i eltE tgE iterE ifsE scope' pos' ee
                cases ee
                obtain ⟨k1, h⟩ := and2 h5
                obtain ⟨k2, h⟩ := and2 h
                obtain ⟨k3, h⟩ := and2 h
                obtain ⟨k4, h⟩ := and2 h
                obtain ⟨k5, h⟩ := and2 h
                obtain ⟨k6, h⟩ := and2 h
                obtain ⟨k7, h⟩ := and2 h
                obtain ⟨k8, k9⟩ := and2 h
                have hl : X.env.scope.names.lookup x = some .local := by
                  simp only [Bool.and_eq_true] at b
                  exact beq_iff_eq.mp b.1.1.2
                have r := s_setLc (W := W) (own := own2 C own) (tg := tg) (kd := kd) (as := as) (ifs := ifs) (a := el) (p2 := p2) (p3 := p3) (pos := pos) K.rm.calm hN hi hl (by rw [swaps_lc, b]) (by rw [own2_eq]; exact de k1) (fun i hi => by
                  rw [own2_eq]
                  exact List.contains_iff_mem.mp (List.all_eq_true.mp k3 i hi)) (blkOk_by (by rw [K.N, K.sc]; exact k4)) (ckIt_ok as kd K.toCkX k6) (noSet_ok k5) (fun s H ca cl fp => (K.toCkX.inB scope s H ca cl fp).tg k7) (fun s H ca cl fp => ckTs_ok ifs (K.toCkX.inB scope s H ca cl fp) k8) (fun s H ca cl fp => ckE_ok el (K.toCkX.inB scope s H ca cl fp) k9)
                rw [own2_eq] at r
                exact r
              · cases h5
          | _ => cases q2
        | _ => cases q1
    · cases h
  | .sett is a, X, C, W, st, K, h => by
    simp only [ckS] at h
    split at h
    · obtain ⟨h1, h⟩ := and2 h
      obtain ⟨h2, h3⟩ := and2 h
      exact s_sett (K.tg h1) swaps_sole (swapped_none K.sc h2) rfl (ckE_ok a K.toCkX h3)
    · cases h
  | .par i j a b, X, C, W, st, K, h => by
    simp only [ckS] at h
    split at h
    · rename_i x p2 y p3 kt pt e1 e2 k2 pt2 pos
      obtain ⟨h1, h⟩ := and2 h
      obtain ⟨h2, h⟩ := and2 h
      obtain ⟨h3, h⟩ := and2 h
      obtain ⟨h4, h⟩ := and2 h
      obtain ⟨h5, h⟩ := and2 h
      obtain ⟨h6, h⟩ := and2 h
      obtain ⟨h7, h⟩ := and2 h
      obtain ⟨h8, h⟩ := and2 h
      obtain ⟨h9, h⟩ := and2 h
      obtain ⟨h10, h⟩ := and2 h
      obtain ⟨h11, h⟩ := and2 h
      obtain ⟨h12, h13⟩ := and2 h
      have hx : X.env.scope.names.lookup x = some .local := by rw [K.sc]; exact de h4
      have hy : X.env.scope.names.lookup y = some .local := by rw [K.sc]; exact de h5
      exact s_par K.rm.calm (by rw [K.N]; exact K.nd) (by rw [K.N]; exact de h1) (by rw [K.N]; exact de h2) (de h3) hx hy h10 h11 (swapped_two (by rw [K.sc]; exact K.kind) hx hy (de h6) (de h7) (nt h8) (nt h9) h10 h11) (ckE_ok a K.toCkX h12) (ckE_ok b K.toCkX h13)
    · cases h
  | .ex a, X, C, W, st, K, h => by
    simp only [ckS] at h
    split at h
    · obtain ⟨h1, h2⟩ := and2 h
      exact s_ex (swaps_none h1) (ckE_ok a K.toCkX h2)
    · cases h
  | .ret a, X, C, W, st, K, h => by
    simp only [ckS] at h
    split at h
    · exact s_ret (ckE_ok a K.toCkX h)
    · cases h
  | .retn, X, C, W, st, K, h => by
    simp only [ckS] at h
    split at h
    · exact s_retn
    · cases h
  | .iff t a b, X, C, W, st, K, h => by
    simp only [ckS] at h
    split at h
    · obtain ⟨h1, h⟩ := and2 h
      obtain ⟨h2, h3⟩ := and2 h
      exact s_iff (ckT_ok t K.toCkX h1) (ckSs_ok a K h2) (ckSs_ok b K h3)
    · cases h
  | .fr tg kd as body, X, C, W, st, K, h => by
    simp only [ckS] at h
    split at h
    · obtain ⟨h1, h⟩ := and2 h
      obtain ⟨h2, h⟩ := and2 h
      obtain ⟨h3, h4⟩ := and2 h
      exact s_fr K.po K.rm.calm (ckIt_ok as kd K.toCkX h2) (K.tg h3) (noSet_ok h1) (ckSs_ok body K h4)
    · cases h
  | .whl n t body, X, C, W, st, K, h => by
    simp only [ckS] at h
    split at h
    · obtain ⟨h1, h2⟩ := and2 h
      exact s_whl K.po (ckT_ok t K.toCkX h1) (ckSs_ok body K h2)
    · cases h
  | .brk, X, C, W, st, K, h => by
    simp only [ckS] at h
    split at h
    · exact s_brk
    · cases h
  | .cnt, X, C, W, st, K, h => by
    simp only [ckS] at h
    split at h
    · exact s_cnt
    · cases h
  | .pas, X, C, W, st, K, h => by
    simp only [ckS] at h
    split at h
    · exact s_pass
    · cases h
  | .rse g as, X, C, W, st, K, h => by
    simp only [ckS] at h
    split at h
    · obtain ⟨h1, h⟩ := and2 h
      obtain ⟨h2, h⟩ := and2 h
      obtain ⟨h3, h4⟩ := and2 h
      obtain ⟨g1, g2⟩ := K.gl h2
      obtain ⟨p, hp, e⟩ := List.any_eq_true.mp h3
      obtain ⟨g', flds⟩ := p
      obtain ⟨e, ene⟩ := and2 e
      obtain rfl := beq_iff_eq.mp e
      obtain ⟨x1, x2, k, x3, x4⟩ := K.F.exf _ hp
      have eg := K.nmg g'
      have ex := de h1
      rw [← eg] at ex
      obtain rfl := ex
      exact s_rse (by rw [eg]; exact x4) x1 ⟨K.rm.room.mono x3, K.rm.gd, K.rm.calm⟩ K.tk g1 (okN_d g2).1 x2 (fun z => by rw [show flds = [] from z] at ene; cases ene) (ckStar as h4) (ckAs_ok as K.toCkX h4)
    · cases h
  | .app i a, X, C, W, st, K, h => by
    simp only [ckS] at h
    split at h
    · obtain ⟨h1, h⟩ := and2 h
      obtain ⟨h2, h⟩ := and2 h
      obtain ⟨h3, h⟩ := and2 h
      obtain ⟨h4, h5⟩ := and2 h
      obtain rfl := de h1
      obtain ⟨q1, q2, q3, q4⟩ := K.v h2
      exact s_app q1 q2 q3 q4 h3 h4 (ckE_ok a K.toCkX h5)
    · cases h
  | .apop i j a, X, C, W, st, K, h => by
    simp only [ckS] at h
    split at h
    · obtain ⟨h1, h⟩ := and2 h
      obtain ⟨h2, h⟩ := and2 h
      obtain ⟨h3, h⟩ := and2 h
      obtain ⟨h4, h⟩ := and2 h
      obtain ⟨h5, h⟩ := and2 h
      obtain ⟨h6, h⟩ := and2 h
      obtain ⟨h7, h8⟩ := and2 h
      obtain rfl := de h1
      obtain rfl := de h2
      obtain ⟨q1, q2, q3, q4⟩ := K.v h3
      obtain ⟨r1, r2, r3, r4⟩ := K.v h4
      exact s_apop q1 q2 q3 q4 r1 r2 r3 r4 h5 h6 h7 (ckE_ok a K.toCkX h8)
    · cases h
  | .pst i f a, X, C, W, st, K, h => by
    simp only [ckS] at h
    split at h
    · obtain ⟨h1, h⟩ := and2 h
      obtain ⟨h2, h⟩ := and2 h
      obtain ⟨h3, h4⟩ := and2 h
      obtain ⟨q1, q2, q3, q4⟩ := K.v h1
      exact s_pst K.u1 q1 q2 q3 q4 (de h2) (swaps_none h3) (ckE_ok a K.toCkX h4)
    · cases h
  | .tput i a b, X, C, W, st, K, h => by
    simp only [ckS] at h
    split at h
    · obtain ⟨h1, h⟩ := and2 h
      obtain ⟨h2, h⟩ := and2 h
      obtain ⟨h3, h4⟩ := and2 h
      obtain ⟨q1, q2, q3, q4⟩ := K.v h1
      exact s_tput K.u1 q1 q2 q3 q4 (swaps_none h2) (ckE_ok a K.toCkX h3) (ckE_ok b K.toCkX h4)
    · cases h
  | .try_ body hs, X, C, W, st, K, h => by
    simp only [ckS] at h
    split at h
    · obtain ⟨h1, h⟩ := and2 h
      obtain ⟨h2, h⟩ := and2 h
      obtain ⟨h3, h⟩ := and2 h
      obtain ⟨h4, h5⟩ := and2 h
      obtain ⟨r1, r2⟩ := ckHs_ok K.toCkX h4
      obtain ⟨d1, d2, _⟩ := okN_d h1
      obtain ⟨i, hi, e⟩ := List.mem_iff_getElem.mp (List.contains_iff_mem.mp h3)
      exact s_try (i := i) (by rw [K.N]; exact K.nd) K.stack K.frame K.tk (by rw [K.N, List.getElem?_eq_getElem hi, e]) (by rw [K.sc]; exact de h2) d1 d2 (fun W' pn xe tk po => ckSs_ok body (K.tr tk po) h5) r1 fun g hg p hp => by
        obtain ⟨q, m, eq⟩ := r2 p hp
        rw [← eq, K.nmg g, K.nmg q.1]
        exact K.F.exm g hg q m
    · cases h
  | .tryb body gb c, X, C, W, st, K, h => by
    simp only [ckS] at h
    split at h
    · obtain ⟨h1, h⟩ := and2 h
      obtain ⟨h2, h⟩ := and2 h
      obtain ⟨h3, h⟩ := and2 h
      obtain ⟨h4, h5⟩ := and2 h
      obtain ⟨g1, g2⟩ := K.gl h2
      have eg := K.nmg gb
      have ex := de h1
      rw [← eg] at ex
      obtain rfl := ex
      refine s_tryb K.stack K.frame K.tk (by rw [eg]; exact K.F.gl gb (List.contains_iff_mem.mp h3)) g1 (okN_d g2).1 (fun W' pn xe tk po => ckSs_ok body (K.tr tk po) h5) (fun X' => pe_cn h4) (fun P R => ?_) fun g t e => K.F.xb g gb t e
      cases c <;> (simp only [Cn.d, Cn.v, Rep])
    · cases h
  | .aug _ _ _, X, C, W, st, K, h => by simp [ckS] at h
  | .st1 _ _ _, X, C, W, st, K, h => by simp [ckS] at h
  | .st2 _ _ _ _, X, C, W, st, K, h => by simp [ckS] at h
  | .ag1 _ _ _ _, X, C, W, st, K, h => by simp [ckS] at h
  | .fld _ _ _, X, C, W, st, K, h => by simp [ckS] at h
theorem ckSs_ok {Γ : Gam} {nm : Nm} {L : Nat} : ∀ (ss : List S) {X : Cx} {C : Cc} {W : WX} {sts : List Stmt}, CkS X C W Γ nm L → ckSs ss C sts = true → pSs X nm W Γ ss sts
  | [], X, C, W, sts, K, h => by
    simp only [ckSs] at h
    rw [List.isEmpty_iff.mp h]
    exact ss_nil
  | s :: ss, X, C, W, sts, K, h => by
    simp only [ckSs] at h
    split at h
    · obtain ⟨h1, h2⟩ := and2 h
      exact ss_cons (ckS_ok s K h1) (ckSs_ok ss K h2)
    · cases h
end
end DL

set_option Elab.async false
set_option linter.all false
set_option maxRecDepth 100000
/-! DL28: a law's call, from the state that the head leaves. -/
namespace DL
open PySem PySem.Spec PyProof.Rows L2
/-- what is tracked at a law's entry: the tables of code objects, the script -/
def startH (K : PySem.W.Frag) (cs : List (Addr × Addr)) (a : Addr) (o : Obj) (ns : List Int) : Hp := fun b =>
  if b ∈ cs.map (·.2) then some (.tbl #[]) else if b = a ∧ K.lookup a = none then some (.frz o (.lst (ns.map V.int))) else none
theorem startH_tab {K : PySem.W.Frag} {cs : List (Addr × Addr)} {a : Addr} {o : Obj} {ns : List Int} {p : Addr × Addr} (h : p ∈ cs) : startH K cs a o ns p.2 = some (.tbl #[]) := if_pos (List.mem_map.mpr ⟨p, h, rfl⟩)
/-- the call of the law, as the proof of its def gives it -/
def LawRun (P : Program) (w : World) (K : PySem.W.Frag) (mg : Str → Option Value) (fa : Addr) (cs : List (Addr × Addr)) (n : Nat) : Prop :=
  ∀ (base : Heap) (s : Shared) (H : Hp) (a : Addr) (u : Value) (ns : List Int), ns.length ≤ n → (∀ z ∈ ns, Builtin.Int.intBits z ≤ 1048576) → u = .ref a → (∀ p ∈ cs, LamX.TabB base mg p.1 p.2) → Env0 P w K mg base callerA [] s H → (∀ p ∈ cs, H p.2 = some (.tbl #[])) → SqL K H a (ns.map V.int) →
    (∀ b ps, H b = some (.tbl ps) → b ∈ cs.map (·.2)) → codeAny (model P w) callerA (.call (.ref fa) ⟨[u], []⟩) (CR (L2.CX P w) [] P w H s (fun v _ => v = .bl true) fun _ _ _ => False) s
theorem noCX {P : Program} {w : World} {H : Hp} {s : Shared} {e : Value} {s' : Shared} (h : L2.CX P w [] H s (fun _ _ _ => False) e s') : False := by
  obtain ⟨_, _, _, _, _, _, _, _, _, _, _, _, z⟩ := h
  exact z
theorem law_go {P : Program} {w : World} {K : PySem.W.Frag} {mg mb : Str → Option Value} {n : Nat} {fa a : Addr} {cs : List (Addr × Addr)} {s : Shared} {vs : List Value} {ns : List Int} (KX : K.In s.heap) (gl : s.heap.Ns mainGlobals mg) (bl : s.heap.Ns builtinsNs mb) (boot : ∀ x : Str, x ≠ "__name__" → mb x = bootBuiltins x) (lim : s.heap.NoLimit) (gens : s.gens = #[])
    (tabs : ∀ p ∈ cs, s.heap.get? p.2 = some { cls := .none, data := .fields #[] }) (out : ∀ p ∈ cs, K.lookup p.2 = none) (codes : ∀ p ∈ cs, PySem.W.CodeHd s.heap p.1 p.2)
    (bmain : ∃ (bm : Addr) (ob : Obj), mg "__builtins__" = some (.ref bm) ∧ bm ≠ builtinsNs ∧ s.heap.get? bm = some ob ∧ ob.cls = .type "module" ∧ ob.dict = some builtinsNs ∧ ob.data = .plain)
    (geta : s.heap.get? a = some { cls := .type "list", data := .seq vs.toArray }) (iv : IntsAre vs ns) (len : ns.length ≤ n) (len2 : n ≤ sizeLine) (bits : ∀ z ∈ ns, Builtin.Int.intBits z ≤ 1048576) (run : LawRun P w K mg fa cs n) :
    codeAny (model P w) callerA (.call (.ref fa) ⟨[.ref a], []⟩) (fun r s' => r = .ok (.ret (.bool true)) ∧ OldK s.heap s'.heap ∧ s'.os = s.os ∧ AllBare s'.gens) s := by
  have vals := vals_ints iv
  have tabObj : ∀ b ∈ cs.map (·.2), s.heap.get? b = some { cls := .none, data := .fields #[] } := fun b hb => by
    obtain ⟨p, hp, rfl⟩ := List.mem_map.mp hb
    exact tabs p hp
  have notTab : a ∉ cs.map (·.2) := fun z => by
    have q := (tabObj a z).symm.trans geta
    have q2 : Data.fields #[] = Data.seq vs.toArray _ := congrArg Obj.data (Option.some.inj q)
    cases q2
  generalize hH : startH K cs a { cls := .type "list", data := .seq vs.toArray } ns = H
  have HT : ∀ p ∈ cs, H p.2 = some (.tbl #[]) := fun p hp => by rw [← hH]; exact startH_tab hp
  have kinds : ∀ b u, H b = some u → (b ∈ cs.map (·.2) ∧ u = .tbl #[]) ∨ (b = a ∧ K.lookup a = none ∧ u = .frz { cls := .type "list", data := .seq vs.toArray } (.lst (ns.map V.int))) := fun b u e => by
    rw [← hH] at e
    unfold startH at e
    by_cases h1 : b ∈ cs.map (·.2)
    · rw [if_pos h1] at e; cases e; exact .inl ⟨h1, rfl⟩
    · rw [if_neg h1] at e
      by_cases h2 : b = a ∧ K.lookup a = none
      · rw [if_pos h2] at e; cases e; exact .inr ⟨h2.1, h2.2, rfl⟩
      · rw [if_neg h2] at e; cases e
  have HS : SqL K H a (ns.map V.int) := by
    cases q : K.lookup a with
    | none =>
      refine .inl (.inr ⟨{ cls := .type "list", data := .seq vs.toArray }, ?_⟩)
      rw [← hH]
      unfold startH
      rw [if_neg notTab, if_pos ⟨rfl, q⟩]
    | some o =>
      have z := KX a o q
      rw [geta] at z
      cases z
      exact .inr ⟨_, vs.toArray, _, q, rfl, rfl, rfl, by rw [List.size_toArray, iv.length]; exact Nat.le_trans len len2, by simpa using vals⟩
  have ok : HOk P w H s.heap := fun b u e => by
    rcases kinds b u e with ⟨h1, rfl⟩ | ⟨rfl, _, rfl⟩
    · exact tabObj b h1
    · exact ⟨geta, by rw [List.length_map]; exact Nat.le_trans len len2, vs, _, vals, geta⟩
  have inBase : ∀ {b : Addr} {o : Obj}, s.heap.get? b = some o → (∀ items m, o.data ≠ .seq items m) → o.data ≠ .fields #[] → (hidT s.heap H).get? b = some o := fun {b o} e h1 h2 => by
    refine hidT_get e ?_
    cases q : H b with
    | none => rfl
    | some u =>
      exfalso
      rcases kinds b u q with ⟨h3, _⟩ | ⟨h3, _⟩
      · have z := (tabObj b h3).symm.trans e
        cases z
        exact h2 rfl
      · rw [h3, geta] at e
        cases e
        exact h1 _ _ rfl
  have inNs : ∀ {b : Addr} {m : Str → Option Value}, s.heap.Ns b m → (hidT s.heap H).Ns b m := fun {b m} ⟨o, es, ep, e, d, r⟩ => by
    refine ⟨o, es, ep, inBase e (fun _ _ z => ?_) (fun z => ?_), d, r⟩ <;> (rw [d] at z; cases z)
  have kIn : K.In (hidT s.heap H) := fun b o e => by
    refine hidT_get (KX b o e) ?_
    cases q : H b with
    | none => rfl
    | some u =>
      exfalso
      rcases kinds b u q with ⟨h3, _⟩ | ⟨h3, h4, _⟩
      · obtain ⟨p, hp, rfl⟩ := List.mem_map.mp h3
        rw [out p hp] at e; cases e
      · rw [h3, h4] at e; cases e
  have mod : Mod K mg (hidT s.heap H) := ⟨kIn, inNs gl, ⟨mb, inNs bl, boot⟩, let ⟨mc, l1, l2⟩ := lim; ⟨mc, inNs l1, l2⟩⟩
  have tb : ∀ p ∈ cs, LamX.TabB (hidT s.heap H) mg p.1 p.2 := fun p hp => by
    refine ⟨?_, ?_, fun z => ?_⟩
    · obtain ⟨o, us, file, tf, flags, tg, inF, text, tt, e1, ec, e2, e3, rest⟩ := codes p hp
      refine ⟨o, us, file, tf, flags, tg, inF, text, tt, inBase e1 (fun _ _ z => ?_) (fun z => ?_), ec, e2, e3, rest⟩
      · rw [e2] at z; cases z
      · rw [e2] at z
        cases z
        simp at e3
    · obtain ⟨bm, ob, b1, b2, b3, b4, b5, b6⟩ := bmain
      refine ⟨bm, ob, b1, b2, fun q => ?_, fun q => ?_, inBase b3 (fun _ _ z => ?_) (fun z => ?_), b4, b5, b6⟩
      · obtain ⟨o, es, ep, e, d, _⟩ := gl
        rw [q, e] at b3
        cases b3
        rw [d] at b6; cases b6
      · rw [q, tabs p hp] at b3
        cases b3
        cases b6
      · rw [b6] at z; cases z
      · rw [b6] at z; cases z
    · obtain ⟨o, es, ep, e, d, _⟩ := gl
      rw [z, tabs p hp] at e
      cases e
      cases d
  have e0 : Env0 P w K mg (hidT s.heap H) callerA [] s H := ⟨rfl, mod, fun b o e => of_hidT e, Nat.le_of_eq (hidT_size _ _), trivial, fun b hb => absurd (show b ∈ ([] : List Addr) from hb) (by simp), ok, .of_eq gens⟩
  refine codeAny_mono (run _ s H a (.ref a) ns len bits rfl tb e0 HT HS fun b ps e => ?_) fun r s' h => ?_
  · rcases kinds b _ e with ⟨h1, _⟩ | ⟨_, _, h3⟩
    · exact h1
    · cases h3
  · cases r with
    | error e => exact (noCX h).elim
    | ok fl =>
      cases fl with
      | next => exact False.elim h
      | brk => exact False.elim h
      | cont => exact False.elim h
      | ret u =>
        obtain ⟨v, H', os, bare, un, ok', r', q⟩ := h
        obtain rfl : v = .bl true := q
        obtain rfl : u = Value.bool true := r'
        have same : ∀ b o, b ∉ cs.map (·.2) → s.heap.get? b = some o → s'.heap.get? b = some o := fun b o nb e => by
          cases hb : H b with
          | none => exact un.keep b o e hb (by simp [frs]) (by simp)
          | some u =>
            rcases kinds b u hb with ⟨z, _⟩ | ⟨_, _, rfl⟩
            · exact absurd z nb
            · obtain ⟨e1, _⟩ := ok b _ hb
              obtain ⟨e2, _⟩ := ok' b _ (un.frzs b _ _ hb)
              rw [e] at e1
              cases e1
              exact e2
        have grown : ∀ p ∈ cs, ∃ more : Array Value, s'.heap.get? p.2 = some { cls := .none, data := .fields more } := fun p hp => by
          obtain ⟨more, z⟩ := un.tbls p.2 #[] (HT p hp)
          exact ⟨_, ok' p.2 _ z⟩
        refine ⟨rfl, ⟨fun b o e => ?_, fun b o e => ?_⟩, os, bare⟩
        · by_cases hb : b ∈ cs.map (·.2)
          · obtain ⟨p, hp, rfl⟩ := List.mem_map.mp hb
            obtain ⟨more, hm⟩ := grown p hp
            have z := (tabs p hp).symm.trans e
            cases z
            exact .inr (.inl ⟨((codes p hp).tab (tabs p hp)).isCodeTable, rfl, #[], more, rfl, by rw [Array.empty_append]; exact hm⟩)
          · exact .inl (same b o hb e)
        · by_cases hb : b ∈ cs.map (·.2)
          · obtain ⟨p, hp, rfl⟩ := List.mem_map.mp hb
            obtain ⟨more, hm⟩ := grown p hp
            exact ⟨_, hm⟩
          · exact ⟨o, same b o hb e⟩
/-- what the head must tell of a law -/
def LawAt (l : PySem.W.OpenLaw) (w : World) (K : PySem.W.Frag) (n : Nat) (mg : Str → Option Value) (fa : Addr) (h : Heap) : Prop :=
  ∃ cs : List (Addr × Addr), (∀ p ∈ cs, h.get? p.2 = some { cls := .none, data := .fields #[] }) ∧ (∀ p ∈ cs, K.lookup p.2 = none) ∧ (∀ p ∈ cs, PySem.W.CodeHd h p.1 p.2) ∧ LawRun l.prog w K mg fa cs n
theorem law_walk {l : PySem.W.OpenLaw} {n : Nat} {q : Program} {loose : List Str} {XP : (Str → Option Value) → Heap → Prop} {YP : World → Heap → Prop} {d : DefRec} (hn : l.most = some n) (hn2 : n ≤ sizeLine) (hdf : d.params.defaults = [])
    (F : ∀ (w : World) (mg : Str → Option Value) (fa : Addr) (h : Heap), YP w h → h.Ns mainGlobals mg → mg d.name = some (.ref fa) → ∃ K : PySem.W.Frag, K.In h ∧ LawAt l w K n mg fa h) :
    PySem.W.WalkO q loose XP YP l.row.toRowW d [] (fun f vs => PySem.call f vs) := by
  refine Att.attach_callB hn hdf fun w s₀ s₁ mg mb fa o pm cd doc a vs ns G Y ho hd hcd hmg hobj hints hlen hbits hg => ?_
  obtain ⟨K, KX, cs, h1, h2, h3, h4⟩ := F w mg fa _ Y G.T.g hmg
  exact law_go KX G.T.g G.T.b G.T.builtins G.T.nolimit hg h1 h2 h3 G.T.bmain hobj hints hlen hn2 hbits h4
end DL

set_option Elab.async false
set_option linter.all false
set_option maxRecDepth 100000
/-! DL29: the pen is made. -/
namespace DL
open PySem PySem.Spec PyProof.Rows L2
def foldP (ns : List Int) : Int := ns.foldl (fun f c => (f * 79 + c) % 999999797) 0
def pen0 (ns : List Int) : Pen := { cells := ns, at_ := 0, digits := 0, count := 0, fold := foldP ns, env := [] }
def spPen (K : PySem.W.Frag) : Sp := fun vs H Q _ => ∃ (a : Addr) (ns : List Int), vs = [.ref a] ∧ SqL K H a (ns.map V.int) ∧ ∀ p cl, H p = none → H cl = none → p ≠ cl → Q (.ref p) (upd (upd H cl (.lst (ns.map V.int))) p (.dK (penKs cl (pen0 ns))))
/-- the text of the pen's def -/
def penB : List Stmt → Bool
  | [.Assign [.Name x1 _] (.Constant (.int i1) _ _) _, .For (.Name x2 _) (.Name x3 _) [.Assign [.Name x4 _] (.BinOp (.Call (.Name x5 _) [.BinOp (.BinOp (.Name x6 _) o1 (.Constant (.int i2) _ _) _) o2 (.Name x7 _) _] [] _) o3 (.Constant (.int i3) _ _) _) _] [] _,
      .Return (some (.Dict [some (.Constant (.str k1) _ _), some (.Constant (.str k2) _ _), some (.Constant (.str k3) _ _), some (.Constant (.str k4) _ _), some (.Constant (.str k5) _ _)] [.Call (.Name x8 _) [.Name x9 _] [] _, .Constant (.int i4) _ _, .Constant (.int i5) _ _, .Constant (.int i6) _ _, .Name x10 _] _)) _] =>
    decide (x1 = ("fold" : Str)) && (decide (x2 = ("cell" : Str)) && (decide (x3 = ("script" : Str)) && (decide (x4 = ("fold" : Str)) && (decide (x5 = ("int" : Str)) && (decide (x6 = ("fold" : Str)) && (decide (x7 = ("cell" : Str)) && (decide (x8 = ("list" : Str)) && (decide (x9 = ("script" : Str)) && (decide (x10 = ("fold" : Str)) &&
      (decide (i1 = 0) && (decide (i2 = 79) && (decide (i3 = 999999797) && (decide (i4 = 0) && (decide (i5 = 0) && (decide (i6 = 0) && (decide (o1 = .Mult) && (decide (o2 = .Add) && (decide (o3 = .Mod) &&
      (decide (k1 = ("cells" : Str)) && (decide (k2 = ("at" : Str)) && (decide (k3 = ("digits" : Str)) && (decide (k4 = ("count" : Str)) && decide (k5 = ("fold" : Str))))))))))))))))))))))))
  | _ => false
abbrev penN : List Str := ["script", "fold", "cell"]
def penSc (sc : Scope) : Bool := decide (sc.kind = .function) && (!sc.isCoroutine && (!sc.isGenerator && ((sc.names.all fun y => !decide (y.2 = .free)) && (decide (sc.names.lookup ("script" : Str) = some .local) && (decide (sc.names.lookup ("fold" : Str) = some .local) && (decide (sc.names.lookup ("cell" : Str) = some .local) && (decide (sc.names.lookup ("int" : Str) = some .globalImplicit) && decide (sc.names.lookup ("list" : Str) = some .globalImplicit))))))))
theorem fold_take (ns : List Int) (i : Nat) (x : Int) (h : ns[i]? = some x) : foldP (ns.take (i + 1)) = (foldP (ns.take i) * 79 + x) % 999999797 := by
  unfold foldP
  rw [List.take_add_one, h, List.foldl_append]
  rfl
theorem fold_bd (ns : List Int) : 0 ≤ foldP ns ∧ foldP ns < 999999797 := by
  unfold foldP
  have key : ∀ (ns : List Int) (f : Int), 0 ≤ f → f < 999999797 → 0 ≤ ns.foldl (fun f c => (f * 79 + c) % 999999797) f ∧ ns.foldl (fun f c => (f * 79 + c) % 999999797) f < 999999797 := by
    intro ns
    induction ns with
    | nil => intro f h1 h2; exact ⟨h1, h2⟩
    | cons n ns ih => intro f _ _; exact ih _ (Int.emod_nonneg _ (by decide)) (Int.emod_lt_of_pos _ (by decide))
  exact key ns 0 (by decide) (by decide)
theorem pen_fn {P : Program} {w : World} {K : PySem.W.Frag} {mg : Str → Option Value} {base : Heap} {x qual : Str} {params : Arguments} {body : List Stmt} {scope : Scope} {f : Addr} {fd : FuncData} (F : FunD K x qual params body scope [] [] f fd) (hb : penB body = true) (hs : penSc scope = true) (mi : mg "int" = none) (ml : mg "list" = none) :
    FnOk P w K mg base (L2.CX P w) 1 f fd ["script"] (spPen K) := by
  simp only [penSc, Bool.and_eq_true, decide_eq_true_eq, Bool.not_eq_true', List.all_eq_true, decide_eq_false_iff_not] at hs
  obtain ⟨s1, s2, s3, s4, s5, s6, s7, s8, s9⟩ := hs
  have S : FnScope penN ["script"] scope := ⟨s1, s2, s3, by decide, rfl, fun y hy => by
    rw [List.mem_singleton.mp hy]; exact .inl s5, s4⟩
  refine F.ok (N := penN) S (fun vs H Q E ⟨a, ns, e, _⟩ => by rw [e]; rfl) fun cdv A outer s H vs Q E hr sp => ?_
  obtain ⟨a, ns, rfl, hS, hQ⟩ := sp
  unfold penB at hb
  split at hb
  · simp only [Bool.and_eq_true, decide_eq_true_eq] at hb
    obtain ⟨rfl, rfl, rfl, rfl, rfl, rfl, rfl, rfl, rfl, rfl, rfl, rfl, rfl, rfl, rfl, rfl, rfl, rfl, rfl, rfl, rfl, rfl, rfl, rfl⟩ := hb
    refine ⟨_, PSs.nox (pss_cons (ps_set (i := 1) S.nd rfl (.inl s6) pe_int)
      (pss_cons (ps_for PassesOwn.never rfl (pi_list (pe_var (i := 0) rfl (.inl s5))) (pg_name (i := 2) S.nd rfl (.inl s7)) (pss_one (ps_set (i := 1) S.nd rfl (.inl s6)
        (pe_op op_mod (pe_callTy call_int1 s8 mi boot_int (pa_cons (pe_op op_add (pe_op op_mul (pe_var (i := 1) rfl (.inl s6)) pe_int) (pe_var (i := 2) rfl (.inl s7))) pa_nil)) pe_int))))
      (pss_one (ps_ret (pe_disp (pps_cons pe_str (pe_callTy call_list_of s9 ml boot_list (pa_cons (pe_var (i := 0) rfl (.inl s5)) pa_nil)) (pps_cons pe_str pe_int (pps_cons pe_str pe_int (pps_cons pe_str pe_int (pps_cons pe_str (pe_var (i := 1) rfl (.inl s6)) pps_nil))))) rfl rfl (by simp) (by simp)))))), ?_⟩
    refine ⟨_, rfl, a, rfl, ⟨_, hS⟩, for_list (xs := ns.map V.int) (fun i σ H' => H' = H ∧ σ.length = 3 ∧ σ[0]? = some (some (.ref a)) ∧ σ[1]? = some (some (.int (foldP (ns.take i))))) ⟨rfl, rfl, rfl, rfl⟩ (fun i σ H' _ h => by rw [h.1]; exact hS) (fun i x σ H' hx h => ?_) fun σ H' h => ?_⟩
    · obtain ⟨rfl, h1, h2, h3⟩ := h
      obtain ⟨z, hz, rfl⟩ : ∃ z, ns[i]? = some z ∧ V.int z = x := by
        rw [List.getElem?_map] at hx
        exact Option.map_eq_some_iff.mp hx
      have bd := fold_bd (ns.take i)
      have l0 : (0 : Nat) ≠ 2 := by decide
      match σ, h1, h2, h3 with
      | [b0, b1, b2], _, h2, h3 =>
        obtain rfl : b0 = some (.ref a) := Option.some.inj h2
        obtain rfl : b1 = some (.int (foldP (ns.take i))) := Option.some.inj h3
        refine ⟨_, rfl, _, _, rfl, rfl, .inl ⟨by omega, by omega⟩, _, rfl, _, _, rfl, rfl, .inl ⟨_, rfl, ?_⟩⟩
        refine ⟨_, _, rfl, rfl, by show (0 : Int) < 999999797; decide, ?_⟩
        exact ⟨rfl, rfl, rfl, by rw [fold_take ns i z hz]; rfl⟩
    · obtain ⟨rfl, h1, h2, h3⟩ := h
      rw [List.length_map, List.take_length] at h3
      intro p hp
      refine ⟨.ref a, h2, a, ns.map V.int, rfl, .inl ?_, fun cl hcl => ?_⟩
      · rcases hS with (h | ⟨o, h⟩) | h
        · exact .inl (.inl (by rw [upd_ne (ne_of_none h hp)]; exact h))
        · exact .inl (.inr ⟨o, by rw [upd_ne (ne_of_none h hp)]; exact h⟩)
        · exact .inr h
      · have ncp : cl ≠ p := fun e => by rw [e, upd_same] at hcl; cases hcl
        have hcl' : H' cl = none := by rw [upd_ne ncp] at hcl; exact hcl
        refine ⟨_, h3, ?_, penKs cl (pen0 ns), rfl, by show 5 ≤ 15; decide, ?_⟩
        · rw [upd_ne (Ne.symm ncp), upd_same]
        · have e : upd (upd (upd H' p (.dK [])) cl (.lst (ns.map V.int))) p (.dK (mergeK [] (penKs cl (pen0 ns)))) = upd (upd H' cl (.lst (ns.map V.int))) p (.dK (penKs cl (pen0 ns))) := by
            have em : mergeK [] (penKs cl (pen0 ns)) = penKs cl (pen0 ns) := rfl
            rw [em]
            funext b
            by_cases e1 : b = p
            · rw [e1, upd_same, upd_same]
            · rw [upd_ne e1, upd_ne e1]
              by_cases e2 : b = cl
              · rw [e2, upd_same, upd_same]
              · rw [upd_ne e2, upd_ne e2, upd_ne e1]
          rw [e]
          exact hQ p cl hp hcl' (Ne.symm ncp)
  · cases hb
end DL

set_option Elab.async false
set_option linter.all false
set_option maxRecDepth 100000
/-! DL30: a law's def: the pen is made, then the text that is checked. -/
namespace DL
open PySem PySem.Spec PyProof.Rows L2
/-- the law's cells are told by where its frame stands -/
abbrev Nm.cell (nm : Nm) (scope : Scope) (s : Shared) : Nm := { nm with cells := cellsFrom (s.heap.objs.size + 1) scope.names [] }
/-- what a law's def must be -/
structure LawDef where
  params : Arguments
  p1 : Pos
  p2 : Pos
  p3 : Pos
  p4 : Pos
  p5 : Pos
  body : List Stmt
  scope : Scope
  N : List Str
  ip : Nat
  is : List Nat
abbrev LawDef.text (d : LawDef) : List Stmt := .Assign [.Name "pen" d.p1] (.Call (.Name "_law_pen" d.p2) [.Name "script" d.p3] [] d.p4) d.p5 :: d.body
def lawSt (d : LawDef) (ns : List Int) : Env := ⟨(List.replicate d.N.length none).set d.ip (some (.frz .pen)), pen0 ns⟩
/-- what is to be looked at -/
def makesB (d : LawDef) (nm : Nm) : Bool := (List.range d.is.length).all fun j => match d.is[j]?, nm.cN[j]? with
  | some i, some x => decide (d.N[i]? = some x) && decide (d.scope.names.lookup x = some .cell)
  | _, _ => false
structure LawDef.Ok (d : LawDef) : Prop where
  S : FnScope d.N ["script"] d.scope
  ip : d.N[d.ip]? = some "pen"
  ne : d.ip ≠ 0
  vs : Vis d.scope "script"
  lp : Loc d.scope "pen"
  gl : d.scope.names.lookup ("_law_pen" : Str) = some .globalImplicit
theorem law_run {P : Program} {w : World} {K : PySem.W.Frag} {mg : Str → Option Value} {fa : Addr} {cs : List (Addr × Addr)} {n L : Nat} {d : LawDef} {fd : FuncData} {nm : Nm} {Γ : Gam} {C : Cc} {ss : List S}
    (F : FunD K "law" "law" d.params d.text d.scope [] [] fa fd) (hb : ∀ (s : Shared) (u : Value), BindsTo s fd ⟨[u], []⟩ [("script", u)]) (ok : d.Ok) (hr : Room (L + 1) callerA)
    {pf : Addr} {pfd : FuncData} (hP : ∀ base, FnOk P w K mg base (L2.CX P w) 1 pf pfd ["script"] (spPen K)) (pb : Binds K pfd ["script"] []) (pk : PySem.W.keepIn K (.ref pf) = true) (pg : mg "_law_pen" = some (.ref pf))
    (hCN : C.N = d.N) (hCs : C.sc = d.scope) (hCb : C.blk = none) (hCm : C.maker = true) (hΓ : Γ.own = some d.is) (hL : 1 ≤ L) (hnm : nm.cv = []) (hcs : nm.cs = cs)
    (hF : ∀ base (s : Shared), Mod K mg base → Facts ⟨P, w, K, mg, base, nm.cell d.scope s⟩ Γ C L) (hkx : C.kwx = []) (hkl : C.klam = false) (mk : makesB d nm = true)
    (hlam : ∀ k l, C.lams.lookup k = some l → nm.lam k = some l ∧ ("law" ++ ".<locals>." ++ "<lambda>" : Str) = l.qual ∧ (∃ c T, (c, T) ∈ nm.cs ∧ fd.code = .ref c ∧ (T, l.qual) ∈ nm.T ∧ ∀ p ∈ nm.T, p.1 = T → p.2 = l.qual) ∧ ∀ y ∈ l.scope.names, y.2 = .free → d.scope.names.lookup y.1 = some .cell)
    (hlc : ∀ k l, nm.lam k = some l → ∀ y ∈ l.scope.names, y.2 = .free → d.scope.names.lookup y.1 = some .cell)
    (hT : ∀ q ∈ nm.T, ∃ c, (c, q.1) ∈ cs) (ck : ckSs ss C d.body = true)
    (pure_ : ∀ ns : List Int, ns.length ≤ n → (∀ z ∈ ns, Builtin.Int.intBits z ≤ 1048576) → ∃ ρ', evSs Γ ss (lawSt d ns) = .ok (.ret (.bl true)) ρ') : LawRun P w K mg fa cs n := by
  intro base s H a u ns hlen hbits eu tb e0 hTab hS hKn
  subst eu
  obtain ⟨oc, od, dV, kV, doc, pm, an, cdv, ct, osl, rfl, lk, hcd, _, _⟩ := F.ex
  have hkn := ok.S.nd
  refine LamX.run_ofS (N := d.N) (ps := ["script"]) (us := [.ref a]) (vs := [.ref a]) lk hcd ok.S hr e0 (hb s (.ref a)) (.cons rfl .nil) rfl fun hr' => ?_
  let X : Cx := cxOf (L2.CX P w) P w K mg base d.N "law" d.scope fa cdv callerA [] s H (fun _ _ _ => False)
  have tk : Takes X (fun cls d' _ H' => (fun _ _ _ => False : XK) cls d' H') := takes_of rfl rfl rfl rfl
  have GMx : GM (gOf X (nm.cell d.scope s)) := ⟨e0.mod, fun p hp => tb p (by rw [← hcs]; exact hp)⟩
  have cells : ∀ y, d.scope.names.lookup y = some .cell → ∃ c, X.env.cells.lookup y = some c := fun y hy => cell_has hy
  have Kx : CkS X C (fun cls d' _ H' => (fun _ _ _ => False : XK) cls d' H') Γ (nm.cell d.scope s) L := {
    N := hCN.symm
    nd := by rw [hCN]; exact ok.S.nd
    sc := hCs.symm
    fnx := fun x _ => rfl
    rm := ⟨hr', rfl, rfl⟩
    tk := tk
    kl := fun h => by rw [hkl] at h; cases h
    F := hF base s e0.mod
    md := .inr (.inl ⟨hCm, d.is, hΓ, ⟨rfl, hnm, fun j i hj => by
      have q := List.all_eq_true.mp mk j (List.mem_range.mpr (List.getElem?_eq_some_iff.mp hj).1)
      rw [hj] at q
      cases e : nm.cN[j]? with
      | none => rw [e] at q; cases q
      | some x =>
        rw [e] at q
        obtain ⟨q1, q2⟩ := and2 q
        exact ⟨x, rfl, de q1, de q2⟩, fun _ => rfl, fun k l hk y hy e => cells y.1 (hlc k l hk y hy e)⟩, GMx, hkx⟩)
    callc := fun _ h => by rw [hCm] at h; cases h
    lam := fun k l hk => by
      obtain ⟨h1, h2, ⟨c, T, h3, h4, h5, h6⟩, h7⟩ := hlam k l hk
      exact ⟨GMx, h1, h2, rfl, ⟨c, T, h3, h4, h5, h6⟩, fun y hy e => cells y.1 (h7 y hy e)⟩
    kind := by rw [hCs]; exact ok.S.kind
    stack := rfl
    frame := rfl
    po := passes_of rfl }
  have h0 : d.N[0]? = some ("script" : Str) := by
    have q := ok.S.pre
    cases e : d.N with
    | nil => rw [e] at q; cases q
    | cons x xs =>
      rw [e] at q
      have q2 : [x] = [("script" : Str)] := q
      rw [(List.cons.inj q2).1]; rfl
  have ipl : d.ip < d.N.length := (List.getElem?_eq_some_iff.mp ok.ip).1
  have n0 : 0 < d.N.length := (List.getElem?_eq_some_iff.mp h0).1
  refine ⟨_, pss_cons (ps_set (i := d.ip) ok.S.nd ok.ip ok.lp (pe_call (X := X) (dvs := []) (E := fun _ _ _ => False) (hP base) (hr'.mono hL) ok.gl pg pk pb .nil (passes_call tk fun _ _ _ _ z => z.elim) (pa_cons (pe_var (i := 0) h0 ok.vs) pa_nil))) (ckSs_ok ss Kx ck), ?_⟩
  have st0 : (L2.start d.N [.ref a])[0]? = some (some (.ref a)) := rfl
  refine ⟨_, st0, ?_⟩
  refine ⟨a, ns, rfl, hS, fun p cl hp hcl ne => ?_⟩
  show tSs (gOf X (nm.cell d.scope s)) _ Γ ss _ ((L2.start d.N [.ref a]).set d.ip (some (.ref p))) (upd (upd H cl (.lst (ns.map V.int))) p (.dK (penKs cl (pen0 ns))))
  have slen : (L2.start d.N [.ref a]).length = d.N.length := by unfold L2.start; simp; omega
  have R1 : Same (fun b => if b = cl then some (.lst (ns.map V.int)) else none : Hp) (upd (upd H cl (.lst (ns.map V.int))) p (.dK (penKs cl (pen0 ns)))) := fun b o e => by
    by_cases q : b = cl
    · have e' := (if_pos q).symm.trans e
      rw [q, upd_ne (Ne.symm ne), upd_same]; exact e'
    · have e' := (if_neg q).symm.trans e
      cases e'
  have Sm : Sim (gOf X (nm.cell d.scope s)) ⟨p, fun b => if b = cl then some (.lst (ns.map V.int)) else none, upd (upd H cl (.lst (ns.map V.int))) p (.dK (penKs cl (pen0 ns)))⟩ (fun b => if b = cl then some (.lst (ns.map V.int)) else none) (upd (upd H cl (.lst (ns.map V.int))) p (.dK (penKs cl (pen0 ns))))
      ((L2.start d.N [.ref a]).set d.ip (some (.ref p))) (lawSt d ns) (List.replicate d.N.length []) := {
    same := R1
    base := Same.refl _
    keep := SX.refl _ _
    sl := by
      refine ⟨by unfold lawSt; simp [slen], by simp [slen], fun i o hi => ?_⟩
      unfold lawSt at hi
      rcases getElem?_set_cases hi with ⟨e1, e2, e3⟩ | ⟨e1, e2⟩
      · subst e1
        cases e2
        exact ⟨.ref p, [], by rw [List.getElem?_set_self (by rw [slen]; exact ipl)], by rw [List.getElem?_replicate, if_pos ipl], by simp only [RO, Rep]; exact ⟨trivial, trivial⟩⟩
      · rw [List.getElem?_replicate] at e2
        split at e2 <;> cases e2
    dis := ⟨fun i f h => by rw [List.getElem?_replicate] at h; split at h <;> cases h; exact List.nodup_nil, fun i j f g b _ h _ hm => by
      rw [List.getElem?_replicate] at h; split at h <;> cases h; cases hm⟩
    out := fun i f b h hm => by rw [List.getElem?_replicate] at h; split at h <;> cases h; cases hm
    grow := fun b h => .inl h
    pen := ⟨cl, upd_same, .inl (.inl (if_pos rfl)), fun j dd h => by cases h⟩
    pr := ⟨if_neg ne, fun b ps h => by
      by_cases q : b = cl
      · have h' := (if_pos q).symm.trans h
        cases h'
      · have h' := (if_neg q).symm.trans h
        cases h'⟩
    tab := fun q hq => by
      obtain ⟨c, hc⟩ := hT q hq
      have ht := hTab _ hc
      refine LamX.TabS.nil ?_
      rw [upd_ne (ne_of_none ht hp), upd_ne (ne_of_none ht hcl)]
      exact ht }
  refine ⟨_, _, _, _, Sm, ?_⟩
  obtain ⟨ρ', hρ⟩ := pure_ ns hlen hbits
  rw [hρ]
  intro R' H' ν fps' x _ _ rd
  have e : x = .bl true := by simpa only [Rep] using rd
  exact e
end DL

set_option Elab.async false
set_option linter.all false
set_option maxRecDepth 100000
/-! DL31: the defs of a text, one behind another. -/
namespace DL
open PySem PySem.Spec PyProof.Rows L2
/-- a def of the text: its number, its statement, its slots, its parameters, what it is in the dialect -/
structure FD where
  g : Nat
  st : Stmt
  N : List Str
  ps : List Str
  ss : List S
  /-- how deep it calls itself; 0: it does not -/
  fuel : Nat
  /-- whether it makes a key for sorted -/
  klam : Bool
/-- whether an exception of the number h is of the class of the number g -/
def xsB (C : Cc) (h g : Nat) : Option Bool := if (C.exf.lookup h).isSome then (if (C.exf.lookup g).isSome then some (h == g) else if C.root = some g ∧ C.isx = true then some true else none) else none
def mkG (T : List (Nat × Fn)) (lam : Nat → Option Fn) (C : Cc) : Gam := { fn := fun g => T.lookup g, lam := lam, own := none, cst := fun n => (C.kst[n]?).map fun p => D.int p.2, exf := fun g => C.exf.lookup g, cls := [], att := fun g => (C.exf.lookup g).getD [], xs := fun h g => if C.isx = true then xsB C h g else none, xb := xsB C, fnk := fun g ks => (C.kwp.lookup (g, ks)).bind fun perm => (C.exf.lookup g).map fun flds => pickFn perm (excFn g flds) }
section
variable (lam : Nat → Option Fn) (C : Cc)
def dfn (f : FD) (T : List (Nat × Fn)) : Fn := defFn (mkG T lam C) f.ps.length f.N.length f.ss
/-- a def that calls itself, n deep -/
def rfn (f : FD) (T : List (Nat × Fn)) : Nat → Fn
  | 0 => fun _ _ => .bad
  | n + 1 => dfn lam C f ((f.g, rfn f T n) :: T)
def ofn (f : FD) (T : List (Nat × Fn)) : Fn := if f.fuel = 0 then dfn lam C f T else rfn lam C f T f.fuel
def build : List FD → List (Nat × Fn) → List (Nat × Fn)
  | [], T => T
  | f :: fs, T => build fs ((f.g, ofn lam C f T) :: T)
end
/-- the exceptions, called -/
def excT (exf : List (Nat × List Str)) : List (Nat × Fn) := exf.map fun p => (p.1, excFn p.1 p.2)
def FD.cost (f : FD) : Nat := if f.fuel = 0 then 1 else f.fuel
def costs (fs : List FD) : Nat := (fs.map FD.cost).sum
/-- a def's scope, as FnScope asks -/
def scopeB (N ps : List Str) (sc : Scope) : Bool := decide (sc.kind = .function) && (!sc.isCoroutine && (!sc.isGenerator && (decide N.Nodup && (decide (N.take ps.length = ps) && ((ps.all fun x => decide (sc.names.lookup x = some .local) || decide (sc.names.lookup x = some .cell)) && sc.names.all fun y => !decide (y.2 = .free))))))
theorem scope_by {N ps : List Str} {sc : Scope} (h : scopeB N ps sc = true) : FnScope N ps sc := by
  simp only [scopeB, Bool.and_eq_true, Bool.or_eq_true, decide_eq_true_eq, Bool.not_eq_true', List.all_eq_true, decide_eq_false_iff_not] at h
  obtain ⟨h1, h2, h3, h4, h5, h6, h7⟩ := h
  exact ⟨h1, h2, h3, h4, h5, h6, h7⟩
def Cc.at_ (C : Cc) (N : List Str) (sc : Scope) (fns : List Nat) (callc klam : Bool) : Cc := { C with klam := klam, N := N, sc := sc, blk := none, fns := fns, lams := [], maker := false, callc := callc }
def ckAll (C : Cc) (callc : Bool) : List FD → List Nat → Bool
  | [], _ => true
  | f :: fs, known => scopeB f.N f.ps (defScope f.st) && (C.gls.contains f.g && (ckSs f.ss (C.at_ f.N (defScope f.st) (if f.fuel = 0 then known else f.g :: known) callc f.klam) (defBody f.st) && ckAll C callc fs (f.g :: known)))
/-- what the head tells of the module, whatever the base -/
structure Head (G : Gx) (C : Cc) : Prop where
  nm : ∀ g, G.nm.f g = C.g g
  gl : ∀ g ∈ C.gls, G.mg (C.g g) = some (.ref (He.ga G.K (C.g g)))
  bi : ∀ x ∈ C.bis, G.mg x = none
  gcd : C.gcd = true → G.mg "gcd" = some (.builtin "math.gcd")
  cmb : C.cmb = true → G.mg "combinations" = some (.type "itertools.combinations")
  exc : ∀ p ∈ C.exf, p.2.length ≤ 100 ∧ ExcC G.prog G.w G.K G.mg 1 (C.g p.1) p.2
  exm : ∀ p ∈ C.exf, ∀ q ∈ C.exf, PySem.W.exmOne G.K (.ref (He.ga G.K (C.g p.1))) (.ref (He.ga G.K (C.g q.1))) = some (p.1 == q.1)
  xfc : ∀ p ∈ C.exf, XfC G.K (He.ga G.K (C.g p.1)) ∧ ∀ f ∈ p.2, PySem.W.findIn G.K (.ref (He.ga G.K (C.g p.1))) f = some none
  nd : (C.exf.map (·.1)).Nodup
  sys : (G.K.lookup sysModules).isSome = true
  xc : ∀ p ∈ C.exf, G.nm.xc p.1 = true
  isx : C.isx = true → ∀ p ∈ C.exf, IsxC G.K (He.ga G.K (C.g p.1))
  kit : C.isx = true → ∀ p ∈ C.exf, ∀ q ∈ C.exf, PySem.W.kitOne G.K (.ref (He.ga G.K (C.g p.1))) (.ref (He.ga G.K (C.g q.1))) = some (p.1 == q.1)
  rt : C.isx = true → ∀ r, C.root = some r → ∀ p ∈ C.exf, PySem.W.kitOne G.K (.ref (He.ga G.K (C.g p.1))) (.ref (He.ga G.K (C.g r))) = some true ∧ PySem.W.exmOne G.K (.ref (He.ga G.K (C.g p.1))) (.ref (He.ga G.K (C.g r))) = some true
  kw : ∀ p ∈ C.kwp, ∀ flds, C.exf.lookup p.1.1 = some flds → FnK G 2 p.1.1 p.1.2 (pickFn p.2 (excFn p.1.1 flds))
  kst : ∀ (n : Nat) (p : Str × Int), C.kst[n]? = some p → ∃ t, G.mg p.1 = some (.int p.2 t)
/-- the def stands in the module -/
structure FDok (G : Gx) (C : Cc) (f : FD) : Prop where
  F : ∃ fd, FunD G.K (C.g f.g) (C.g f.g) (defArgs f.st) (defBody f.st) (defScope f.st) [] [] (He.ga G.K (C.g f.g)) fd
  bind : ∀ (kV doc pm : Value) (an : Option Addr) (cdv ct : Value) (us : List Value), us.length = f.ps.length → bindArgs (PySem.W.fnOf (C.g f.g) (C.g f.g) (defArgs f.st) (defBody f.st) (defScope f.st) .none kV doc pm an cdv ct) ⟨us, []⟩ = pure (f.ps.zip us)
  kl : f.klam = true → ∃ c P, (∀ oc od osl fd, G.K.lookup (He.ga G.K (C.g f.g)) = some ⟨oc, od, .func fd, osl⟩ → fd.code = .ref c) ∧ (c, P) ∈ G.nm.cs ∧ (P, C.g f.g ++ ".<locals>." ++ "<lambda>") ∈ G.nm.T ∧ ∀ p ∈ G.nm.T, p.1 = P → p.2 = C.g f.g ++ ".<locals>." ++ "<lambda>"
theorem FnF.mono {G : Gx} {j k g : Nat} {fn : Fn} (F : FnF G j g fn) (h : j ≤ k) : FnF G k g fn := ⟨fun base cells cv B A outer s H us vs Q E hg hr => F.run base cells cv B A outer s H us vs Q E hg (hr.mono h), F.kp, F.mg⟩
theorem FnF.at_ {G : Gx} {k g : Nat} {fn : Fn} {base : Heap} {cells : List (Str × Addr)} {cv : List (Option V)} (F : FnF G k g fn) : FnF (G.at_ base cells cv) k g fn := ⟨F.run, F.kp, F.mg⟩
theorem cls_none {K : PySem.W.Frag} {nm : Nm} : ClsF K nm [] := ⟨fun _ h => (nomatch h), fun _ h => (nomatch h), fun _ h => (nomatch h), fun _ h => (nomatch h), fun _ h => (nomatch h), fun h => absurd rfl h⟩
theorem exf_mem {C : Cc} (nd : (C.exf.map (·.1)).Nodup) {p : Nat × List Str} (h : p ∈ C.exf) : C.exf.lookup p.1 = some p.2 := by
  have key : ∀ {l : List (Nat × List Str)}, (l.map (·.1)).Nodup → p ∈ l → l.lookup p.1 = some p.2 := by
    intro l
    induction l with
    | nil => intro _ h; cases h
    | cons q l ih =>
      intro nd h
      rw [List.map_cons, List.nodup_cons] at nd
      obtain ⟨a, b⟩ := q
      rw [List.lookup_cons]
      rcases List.mem_cons.mp h with e | e
      · rw [e]; simp
      · have ne : (p.1 == a) = false := beq_eq_false_iff_ne.mpr fun z => nd.1 (List.mem_map.mpr ⟨p, e, z⟩)
        rw [ne]; exact ih nd.2 e
  exact key nd h
/-- the facts, by the head and the table -/
theorem facts_of {G : Gx} {C C' : Cc} {T : List (Nat × Fn)} {lam : Nat → Option Fn} {k : Nat} {base : Heap} {cells : List (Str × Addr)} {cv : List (Option V)} (H : Head G C) (hT : ∀ g fn, T.lookup g = some fn → FnF G k g fn) (hk : 2 ≤ k) (e : C' = { C with N := C'.N, sc := C'.sc, blk := C'.blk, fns := C'.fns, kwx := C'.kwx, klam := C'.klam, lams := C'.lams, callc := C'.callc, maker := C'.maker }) (hkx : ∀ p ∈ C'.kwx, (C.kwp.any fun q => decide (q.1 = p)) = true ∧ (C.exf.lookup p.1).isSome = true)
    (dom : ∀ g ∈ C'.fns, ∃ fn, T.lookup g = some fn) {own : Option (List Nat)} : Facts (G.at_ base cells cv) { mkG T lam C with own := own } C' k := by
  have eG : C'.G = C.G := by rw [e]
  have eg : ∀ g, C'.g g = C.g g := fun g => by unfold Cc.g; rw [eG]
  have ex : C'.exf = C.exf := by rw [e]
  exact {
    nm := fun g => (H.nm g).trans (eg g).symm
    fn := fun g fn h => (hT g fn h).at_
    dom := dom
    gl := fun g h => by rw [eg]; exact H.gl g (by rw [e] at h; exact h)
    bi := fun x h => H.bi x (by rw [e] at h; exact h)
    gcd := fun h => H.gcd (by rw [e] at h; exact h)
    cmb := fun h => H.cmb (by rw [e] at h; exact h)
    cls := cls_none
    sys := H.sys
    att := fun g f hf => by
      have hf' : ((C.exf.lookup g).getD []).contains f = true := hf
      cases q : C.exf.lookup g with
      | none => rw [q] at hf'; cases hf'
      | some fl =>
        rw [q] at hf'
        have me := mem_look q
        obtain ⟨x1, x2⟩ := H.xfc _ me
        have ex := H.nm g
        refine ⟨fun _ => ?_, fun z => ?_⟩
        · show XfC G.K (He.ga G.K (G.nm g)) ∧ PySem.W.findIn G.K (.ref (He.ga G.K (G.nm g))) f = some none
          rw [ex]; exact ⟨x1, x2 f (List.contains_iff_mem.mp hf')⟩
        · have z' : G.nm.xc g = false := z
          rw [H.xc _ me] at z'; cases z'
    xs := fun h g t ht => by
      have ht' : (if C.isx = true then xsB C h g else none) = some t := ht
      by_cases ix : C.isx = true
      · rw [if_pos ix] at ht'
        unfold xsB at ht'
        have n1 := H.nm h
        have n2 := H.nm g
        show IsxC G.K (He.ga G.K (G.nm h)) ∧ G.nm.xc h = true ∧ PySem.W.kitOne G.K (.ref (He.ga G.K (G.nm h))) (.ref (He.ga G.K (G.nm g))) = some t
        rw [n1, n2]
        split at ht'
        · rename_i e1
          obtain ⟨v1, e1⟩ := Option.isSome_iff_exists.mp e1
          have m1 := mem_look e1
          refine ⟨H.isx ix _ m1, H.xc _ m1, ?_⟩
          split at ht'
          · rename_i e2
            obtain ⟨v2, e2⟩ := Option.isSome_iff_exists.mp e2
            cases ht'
            exact H.kit ix _ m1 _ (mem_look e2)
          · split at ht'
            · rename_i e3
              cases ht'
              exact (H.rt ix _ e3.1 _ m1).1
            · cases ht'
        · cases ht'
      · rw [if_neg ix] at ht'; cases ht'
    xb := fun h g t ht => by
      have ht' : xsB C h g = some t := ht
      unfold xsB at ht'
      have n1 := H.nm h
      have n2 := H.nm g
      show PySem.W.exmOne G.K (.ref (He.ga G.K (G.nm h))) (.ref (He.ga G.K (G.nm g))) = some t
      rw [n1, n2]
      split at ht'
      · rename_i e1
        obtain ⟨v1, e1⟩ := Option.isSome_iff_exists.mp e1
        have m1 := mem_look e1
        split at ht'
        · rename_i e2
          obtain ⟨v2, e2⟩ := Option.isSome_iff_exists.mp e2
          cases ht'
          exact H.exm _ m1 _ (mem_look e2)
        · split at ht'
          · rename_i e3
            cases ht'
            exact (H.rt e3.2 _ e3.1 _ m1).2
          · cases ht'
      · cases ht'
    fnk := fun p hp => by
      obtain ⟨h1, h2⟩ := hkx p hp
      obtain ⟨flds, h2⟩ := Option.isSome_iff_exists.mp h2
      have key : ∀ l : List ((Nat × List Str) × List Nat), (l.any fun q => decide (q.1 = p)) = true → ∃ perm, l.lookup p = some perm := by
        intro l
        induction l with
        | nil => intro z; cases z
        | cons q l ih =>
          intro z
          obtain ⟨a, b⟩ := q
          rw [List.lookup_cons]
          cases e : p == a with
          | true => exact ⟨b, rfl⟩
          | false =>
            rw [List.any_cons] at z
            have ne : ¬ a = p := fun y => by rw [y] at e; simp at e
            rw [decide_eq_false ne, Bool.false_or] at z
            exact ih z
      obtain ⟨perm, hp2⟩ := key _ h1
      have memk : ∀ {l : List ((Nat × List Str) × List Nat)}, l.lookup p = some perm → (p, perm) ∈ l := by
        intro l
        induction l with
        | nil => intro z; cases z
        | cons q l ih =>
          intro z
          obtain ⟨a, b⟩ := q
          rw [List.lookup_cons] at z
          cases e : p == a with
          | true => rw [e] at z; cases z; rw [eq_of_beq e]; exact List.mem_cons_self ..
          | false => rw [e] at z; exact List.mem_cons_of_mem _ (ih z)
      have F := H.kw _ (memk hp2) flds h2
      refine ⟨pickFn perm (excFn p.1 flds), ?_, (F.mono hk).at_⟩
      show ((C.kwp.lookup (p.1, p.2)).bind fun perm => (C.exf.lookup p.1).map fun flds => pickFn perm (excFn p.1 flds)) = _
      rw [show (p.1, p.2) = p from rfl, hp2, h2]; rfl
    exf := fun p h => by
      rw [ex] at h
      obtain ⟨h1, h2⟩ := H.exc p h
      exact ⟨exf_mem H.nd h, h1, 1, hk, by rw [eg]; exact h2⟩
    exm := fun g hg p h => by
      rw [ex] at h
      obtain ⟨v, hv⟩ := Option.isSome_iff_exists.mp (show (C.exf.lookup g).isSome = true from hg)
      rw [eg, eg]
      exact H.exm (g, v) (mem_look hv) p h
    xfc := fun p h => by
      rw [ex] at h
      rw [eg]
      exact H.xfc p h
    kst := fun n p h => by
      have ek : C'.kst = C.kst := by rw [e]
      rw [ek] at h
      refine ⟨H.kst n p h, fun d hd => ?_⟩
      have hd' : (C.kst[n]?).map (fun p => D.int p.2) = some d := hd
      rw [h] at hd'
      exact (Option.some.inj hd').symm }
/-- the keyword calls that may be made are known -/
abbrev KwOk (C : Cc) : Prop := ∀ p ∈ C.kwx, (C.kwp.any fun q => decide (q.1 = p)) = true ∧ (C.exf.lookup p.1).isSome = true
theorem fnF_of {G : Gx} {C : Cc} {T : List (Nat × Fn)} {lam : Nat → Option Fn} {k : Nat} {f : FD} {known : List Nat} {callc : Bool} (hkx : KwOk C) (H : Head G C) (hT : ∀ g fn, T.lookup g = some fn → FnF G k g fn) (hk : 2 ≤ k) (dom : ∀ g ∈ known, ∃ fn, T.lookup g = some fn) (ok : FDok G C f) (hs : scopeB f.N f.ps (defScope f.st) = true) (hg : f.g ∈ C.gls) (ck : ckSs f.ss (C.at_ f.N (defScope f.st) known callc f.klam) (defBody f.st) = true)
    (hl : callc = true → ∀ base cells cv, GB (G.at_ base cells cv) → ∀ j l fn, lam j = some fn → G.nm.lam j = some l → LamG (G.at_ base cells cv) k l fn) : FnF G (k + 1) f.g (dfn lam C f T) := by
  obtain ⟨fd, F⟩ := ok.F
  have S := scope_by hs
  have gl := H.gl f.g hg
  have en := H.nm f.g
  refine FnF.of (fd := fd) (ps := f.ps) (fun base cells cv B => ?_) (F.bindsN ok.bind) (fun ds p hne => by unfold dfn defFn; rw [if_neg hne]) (by rw [en]; exact F.kp) (by rw [en]; exact gl)
  rw [en]
  refine fnG_of F S fun cdv A outer s H' E hcd hgd hr => ?_
  refine ckSs_ok f.ss (L := k) (C := C.at_ f.N (defScope f.st) known callc f.klam) ?_ ck
  exact {
    N := rfl
    nd := S.nd
    sc := rfl
    fnx := fun _ _ => rfl
    rm := ⟨hr, hgd, rfl⟩
    tk := takes_of rfl rfl rfl rfl
    F := facts_of (own := none) (C' := C.at_ f.N (defScope f.st) known callc f.klam) H hT hk rfl hkx dom
    md := .inl ⟨rfl, rfl, B⟩
    kl := fun hk => by
      obtain ⟨c, Pt, k1, k2, k3, k4⟩ := ok.kl hk
      obtain ⟨oc, od, dV, kV, doc, pm, an, cdv', ct, osl, e1, lk, _⟩ := F.ex
      have e2 := k1 _ _ _ _ lk
      exact ⟨B.toGM, c, Pt, k2, hcd.symm.trans e2, k3, k4⟩
    callc := fun h _ => hl h base cells cv B
    lam := fun j l h => by
      have h' : ([] : List (Nat × LamD)).lookup j = some l := h
      cases h'
    kind := S.kind
    stack := rfl
    frame := rfl
    po := passes_of rfl }
/-- a def that never comes back -/
theorem fnF_bad {G : Gx} {C : Cc} {k : Nat} {f : FD} (H : Head G C) (ok : FDok G C f) (hs : scopeB f.N f.ps (defScope f.st) = true) (hg : f.g ∈ C.gls) : FnF G k f.g (fun _ _ => .bad) := by
  obtain ⟨fd, F⟩ := ok.F
  have gl := H.gl f.g hg
  have en := H.nm f.g
  refine ⟨fun base cells cv B A outer s Hp us vs Q E hg hr h0 hv h => ?_, by rw [en]; exact F.kp, by rw [en]; exact gl⟩
  obtain ⟨P, R, ds, p, rx, _, _, _, _, z⟩ := h
  exact z.elim
section
variable {G : Gx} {C : Cc} {lam : Nat → Option Fn} {callc : Bool}
theorem look_cons {T : List (Nat × Fn)} {k j g : Nat} {fn : Fn} (F : FnF G k g fn) (hT : ∀ h f, T.lookup h = some f → FnF G j h f) (hj : j ≤ k) : ∀ h f, ((g, fn) :: T).lookup h = some f → FnF G k h f := fun h f e => by
  rw [List.lookup_cons] at e
  cases q : h == g with
  | true => rw [q] at e; cases e; rw [beq_iff_eq.mp q]; exact F
  | false => rw [q] at e; exact (hT h f e).mono hj
theorem dom_cons {T : List (Nat × Fn)} {g : Nat} {fn : Fn} {known : List Nat} (dom : ∀ h ∈ known, ∃ f, T.lookup h = some f) : ∀ h ∈ g :: known, ∃ f, ((g, fn) :: T).lookup h = some f := fun h hh => by
  rw [List.lookup_cons]
  cases q : h == g with
  | true => exact ⟨_, rfl⟩
  | false =>
    rcases List.mem_cons.mp hh with z | z
    · rw [z] at q; simp at q
    · exact dom h z
abbrev LamsOk (G : Gx) (lam : Nat → Option Fn) (k : Nat) : Prop := ∀ base cells cv, GB (G.at_ base cells cv) → ∀ j l fn, lam j = some fn → G.nm.lam j = some l → LamG (G.at_ base cells cv) k l fn
theorem lams_mono {j k : Nat} (h : LamsOk G lam j) (e : j ≤ k) : LamsOk G lam k := fun base cells cv B i l fn e1 e2 => ⟨fun A outer s H' ff c' Q E hg hr => (h base cells cv B i l fn e1 e2).run A outer s H' ff c' Q E hg (hr.mono e)⟩
theorem fnF_rec {T : List (Nat × Fn)} {k : Nat} {f : FD} {known : List Nat} (hkx : KwOk C) (H : Head G C) (hT : ∀ g fn, T.lookup g = some fn → FnF G k g fn) (hk : 2 ≤ k) (dom : ∀ g ∈ known, ∃ fn, T.lookup g = some fn) (ok : FDok G C f) (hs : scopeB f.N f.ps (defScope f.st) = true) (hg : f.g ∈ C.gls) (ck : ckSs f.ss (C.at_ f.N (defScope f.st) (f.g :: known) callc f.klam) (defBody f.st) = true)
    (hl : callc = true → LamsOk G lam k) : ∀ n, FnF G (k + n) f.g (rfn lam C f T n)
  | 0 => fnF_bad H ok hs hg
  | n + 1 => by
    have F := fnF_rec hkx H hT hk dom ok hs hg ck hl n
    have := fnF_of (T := (f.g, rfn lam C f T n) :: T) (lam := lam) (k := k + n) hkx H (look_cons F hT (Nat.le_add_right k n)) (by omega) (dom_cons dom) ok hs hg ck (fun h => lams_mono (hl h) (Nat.le_add_right k n))
    exact this
end
theorem build_ok {G : Gx} {C : Cc} {lam : Nat → Option Fn} {callc : Bool} {kl : Nat} (hkx : KwOk C) (H : Head G C) (hl : callc = true → ∀ base cells cv, GB (G.at_ base cells cv) → ∀ j l fn, lam j = some fn → G.nm.lam j = some l → LamG (G.at_ base cells cv) kl l fn) : ∀ (fs : List FD) (T : List (Nat × Fn)) (k : Nat) (known : List Nat), (∀ g fn, T.lookup g = some fn → FnF G k g fn) → 2 ≤ k → kl ≤ k → (∀ g ∈ known, ∃ fn, T.lookup g = some fn) → (∀ f ∈ fs, FDok G C f) → ckAll C callc fs known = true →
    (∀ g fn, (build lam C fs T).lookup g = some fn → FnF G (k + costs fs) g fn) ∧ ∀ g ∈ (fs.map (·.g)).reverse ++ known, ∃ fn, (build lam C fs T).lookup g = some fn
  | [], T, k, known, hT, hk, hkl, dom, ok, ck => ⟨hT, by simpa [build] using dom⟩
  | f :: fs, T, k, known, hT, hk, hkl, dom, ok, ck => by
    simp only [ckAll, Bool.and_eq_true] at ck
    obtain ⟨c1, c2, c3, c4⟩ := ck
    have F : FnF G (k + f.cost) f.g (ofn lam C f T) := by
      unfold ofn FD.cost
      by_cases hf : f.fuel = 0
      · rw [if_pos hf, if_pos hf]
        rw [if_pos hf] at c3
        exact fnF_of (lam := lam) (callc := callc) hkx H hT hk dom (ok f (List.mem_cons_self ..)) c1 (List.contains_iff_mem.mp c2) c3 fun h => lams_mono (hl h) hkl
      · rw [if_neg hf, if_neg hf]
        rw [if_neg hf] at c3
        exact fnF_rec (lam := lam) (callc := callc) hkx H hT hk dom (ok f (List.mem_cons_self ..)) c1 (List.contains_iff_mem.mp c2) c3 (fun h => lams_mono (hl h) hkl) f.fuel
    have step := build_ok hkx H hl fs ((f.g, ofn lam C f T) :: T) (k + f.cost) (f.g :: known) (look_cons F hT (Nat.le_add_right _ _)) (by omega) (by omega) (dom_cons dom) (fun f' hf => ok f' (List.mem_cons_of_mem _ hf)) c4
    refine ⟨fun g fn h => ?_, fun g hg => ?_⟩
    · have := step.1 g fn h
      rw [show k + costs (f :: fs) = k + f.cost + costs fs by simp only [costs, List.map_cons, List.sum_cons]; omega]
      exact this
    · exact step.2 g (by simpa using hg)
end DL

set_option Elab.async false
set_option linter.all false
set_option maxRecDepth 100000
/-! DL32: the lambdas of a law; the head's facts by a Hook. -/
namespace DL
open PySem PySem.Spec PyProof.Rows L2
/-- a lambda of the text: its number, what it is in the dialect -/
abbrev LD := Nat × LamD × E
def lamT (T : List (Nat × Fn)) (C : Cc) (n : Nat) (ls : List LD) : Nat → Option Fn := fun k => (ls.lookup k).map fun p => lamFn (mkG T (fun _ => none) C) n p.2
def lamN (ls : List LD) : Nat → Option LamD := fun k => (ls.lookup k).map (·.1)
def lamOkB (l : LamD) : Bool := noParams l.params && (decide (l.scope.kind = .function) && (!l.scope.isCoroutine && (!l.scope.isGenerator && l.scope.names.all fun y => !decide (y.2 = .local) && !decide (y.2 = .cell))))
def Cc.lm (C : Cc) (cN : List Str) (sc : Scope) (fns : List Nat) : Cc := { C with N := cN, sc := sc, blk := some sc, fns := fns, lams := [], maker := false, callc := false, klam := false }
def ckLams (C : Cc) (cN : List Str) (known : List Nat) (ls : List LD) : Bool := decide cN.Nodup && ls.all fun p => lamOkB p.2.1 && ckE p.2.2 (C.lm cN p.2.1.scope known) p.2.1.body
theorem lam_ok {G : Gx} {C : Cc} {T : List (Nat × Fn)} {k : Nat} {known : List Nat} {ls : List LD} (hkx : KwOk C) (H : Head G C) (hT : ∀ g fn, T.lookup g = some fn → FnF G k g fn) (hk : 2 ≤ k) (dom : ∀ g ∈ known, ∃ fn, T.lookup g = some fn) (hN : G.nm.lam = lamN ls) (ck : ckLams C G.nm.cN known ls = true) :
    ∀ base cells cv, GB (G.at_ base cells cv) → ∀ j l fn, lamT T C G.nm.cN.length ls j = some fn → G.nm.lam j = some l → LamG (G.at_ base cells cv) (k + 1) l fn := by
  intro base cells cv B j l fn e1 e2
  unfold ckLams at ck
  obtain ⟨nd, ck⟩ := and2 ck
  rw [hN] at e2
  unfold lamT at e1
  unfold lamN at e2
  cases q : ls.lookup j with
  | none => rw [q] at e1; cases e1
  | some p =>
    rw [q] at e1 e2
    cases e1
    cases e2
    obtain ⟨l, a⟩ := p
    obtain ⟨c1, c2⟩ := and2 (List.all_eq_true.mp ck _ (mem_look q))
    simp only [lamOkB, Bool.and_eq_true, decide_eq_true_eq, Bool.not_eq_true', List.all_eq_true, decide_eq_false_iff_not] at c1
    obtain ⟨o1, o2, o3, o4, o5⟩ := c1
    have hn : G.nm.lam j = some l := by
      rw [hN]; unfold lamN; rw [q]; rfl
    have LO : LamOk (G.at_ base cells cv).nm l := ⟨o2, o3, o4, o5, fun y hy e => B.lamc j l hn y hy e, fun qn cl pm cv ctv => by
      rw [noParams_ok o1]; rfl⟩
    refine lamG_of (G := G.at_ base cells cv) B LO fun A outer s H' E f c' hg hr => ?_
    refine ckE_ok a (L := k) (C := C.lm G.nm.cN l.scope known) ?_ c2
    exact {
      N := rfl
      nd := de nd
      sc := rfl
      fnx := fun x h => by
        have h' : (l.scope.names.lookup x == some .cell) = true := h
        exact absurd rfl (o5 _ (PySem.mem_of_lookup (beq_iff_eq.mp h'))).2
      rm := ⟨hr, hg, rfl⟩
      tk := takes_of rfl rfl rfl rfl
      F := facts_of (own := none) (C' := C.lm G.nm.cN l.scope known) H hT hk rfl hkx dom
      md := .inl ⟨rfl, rfl, B⟩
      kl := fun h => nomatch h
      callc := fun h => by cases h
      lam := fun j l h => by
        have h' : ([] : List (Nat × LamD)).lookup j = some l := h
        cases h' }
/-! ### the head's facts -/
section
variable {K : PySem.W.Frag}
def exObj (K : PySem.W.Frag) (C : Addr) : Bool := match K.lookup C with
  | some ⟨.type t, dd, .cls cd, sl⟩ => decide (t = "type") && (match cd.mro with
    | .ref c :: bm => decide (c = C) && (PySem.HandSPX.refsVE bm && (cd.hasDict && (!cd.hasDel && (match sl.toList with
      | [_, _, _, _, k4, _] => decide (k4 = some (.builtin "ValueError.__new__"))
      | _ => false))))
    | _ => false)
  | _ => false
theorem exObj_ok {C : Addr} (h : exObj K C = true) : ∃ nm q N bs bm sn sub ab col dd k0 k1 k2 k3 k5, K.lookup C = some (excClassObj nm q C N bs bm true sn sub ab col dd k0 k1 k2 k3 k5 "ValueError.__new__") ∧ PySem.HandSPX.refsVE bm = true := by
  unfold exObj at h
  split at h
  · rename_i t dd cd sl e
    obtain ⟨h1, h⟩ := and2 h
    split at h
    · rename_i c bm em
      obtain ⟨h2, h⟩ := and2 h
      obtain ⟨h3, h⟩ := and2 h
      obtain ⟨h4, h⟩ := and2 h
      obtain ⟨h5, h6⟩ := and2 h
      split at h6
      · rename_i k0 k1 k2 k3 k4 k5 es
        obtain rfl := de h1
        obtain rfl := de h2
        obtain rfl := de h6
        obtain ⟨nm, bs, mro, ns, qn, hd, sn, sb, ab, col, del⟩ := cd
        dsimp only at em h4 h5
        subst em
        subst h4
        have h5' := nt h5
        subst h5'
        have esl : sl = #[k0, k1, k2, k3, some (.builtin "ValueError.__new__"), k5] := by
          cases sl with
          | mk l => rw [show l = _ from es]
        exact ⟨nm, qn, ns, bs, bm, sn, sb, ab, col, dd, k0, k1, k2, k3, k5, by rw [e, esl], h3⟩
      · cases h6
    · cases h
  · cases h
def oexB (K : PySem.W.Frag) (C : Addr) : Bool := exObj K C && (decide (PySem.W.findIn K (.ref C) "__setattr__" = some (some (.builtin "object.__setattr__"))) && (decide (PySem.W.subIn K (.ref C) (.type "BaseException") = some true) && (decide (PySem.W.typeIn K (.ref C) = some (.type "type")) && PySem.W.keepIn K (.ref C))))
theorem oexB_ok {C : Addr} (h : oexB K C = true) : OexC K C := by
  unfold oexB at h
  obtain ⟨h1, h⟩ := and2 h
  obtain ⟨h2, h⟩ := and2 h
  obtain ⟨h3, h⟩ := and2 h
  obtain ⟨h4, h5⟩ := and2 h
  exact ⟨exObj_ok h1, de h2, de h3, de h4, h5⟩
def rootB (K : PySem.W.Frag) (C : Addr) : Bool := decide (PySem.W.specialIn K (.ref C) "__getattribute__" = some (some (.builtin "type.__getattribute__"))) && (PySem.W.readsIn K C (.type "type") && (match PySem.W.findCls K (.ref C) (.type "type") "__init__" with
  | some (.val v) => decide (v = .builtin "ValueError.__init__")
  | _ => false))
theorem rootB_ok {C : Addr} (h : rootB K C = true) : RootX K C := by
  unfold rootB at h
  obtain ⟨h1, h⟩ := and2 h
  obtain ⟨h2, h⟩ := and2 h
  split at h
  · rename_i v e
    exact ⟨de h1, h2, by rw [e, de h]⟩
  · cases h
/-- an exception class of the text: its name, its fields, its __init__'s statement -/
structure XD where
  g : Nat
  x : Str
  flds : List Str
  init : He.DefD
/-- the text of such an __init__ -/
def initB (x0 : Str) (flds : List Str) : List Stmt → Bool
  | .Expr (.Call (.Attribute (.Name y p1) m p2) [.Name z p3, .Constant (.str t) j p4] [] p5) p6 :: ss => decide (y = x0) && (decide (m = ("__init__" : Str)) && (decide (z = sSelf) && (p2.endLine == p5.line && fldsB flds ss)))
  | _ => false
def initSc (x0 : Str) (flds : List Str) (sc : Scope) : Bool := scopeB (sSelf :: flds) (sSelf :: flds) sc && (((sSelf :: flds).all fun z => decide (sc.names.lookup z = some .local) && okN z) && (decide (sc.names.lookup x0 = some .globalImplicit) && okN x0))
def xdB (K : PySem.W.Frag) (x0 : Str) (d : XD) : Bool := oexB K (He.ga K d.x) && (decide (PySem.W.findIn K (.ref (He.ga K d.x)) "__init__" = some (some (.ref (He.fAd K d.init.at_)))) && (decide (PySem.W.typeIn K (.ref (He.fAd K d.init.at_)) = some (.type "function")) && ((d.flds.all fun f => decide (PySem.W.findIn K (.ref (He.ga K d.x)) f = some none)) && xfB K (He.ga K d.x))))
/-- how __init__ binds the names of the fields -/
def BindKX (d : XD) (ks : List Str) (perm : List Nat) : Prop := ∀ (kV doc pm : Value) (an : Option Addr) (cdv ct : Value) (u : Value) (us : List Value), us.length = ks.length → bindArgs (PySem.W.fnOf "__init__" d.init.qual d.init.params d.init.body d.init.scope .none kV doc pm an cdv ct) ⟨[u], ks.zip us⟩ = pure ((sSelf :: d.flds).zip (u :: pick perm us))
theorem bindsK_of {x qual : Str} {params : Arguments} {body : List Stmt} {scope : Scope} {f : Addr} {fd : FuncData} {ps ks : List Str} {perm : List Nat} (F : FunD K x qual params body scope [] [] f fd)
    (h : ∀ (kV doc pm : Value) (an : Option Addr) (cdv ct : Value) (u : Value) (us : List Value), us.length = ks.length → bindArgs (PySem.W.fnOf x qual params body scope .none kV doc pm an cdv ct) ⟨[u], ks.zip us⟩ = pure (ps.zip (u :: pick perm us))) : BindsK K fd ps ks perm := by
  obtain ⟨oc, od, dV, kV, doc, pm, an, cdv, ct, osl, rfl, lk, hcd, hD, hK⟩ := F.ex
  rcases hD with ⟨_, rfl⟩ | ⟨e, _⟩
  · exact fun s u us _ hl => .of_eq (h kV doc pm an cdv ct u us hl)
  · exact absurd rfl e
theorem xd_ok {P : Program} {w : World} {mg : Str → Option Value} {x0 : Str} {d : XD} {fd : FuncData} (h : xdB K x0 d = true) (T0 : RootX K (He.ga K x0)) (m0 : mg x0 = some (.ref (He.ga K x0))) (mg' : mg d.x = some (.ref (He.ga K d.x))) (F : FunD K "__init__" d.init.qual d.init.params d.init.body d.init.scope [] [] (He.fAd K d.init.at_) fd)
    (hb : initB x0 d.flds d.init.body = true) (hs : initSc x0 d.flds d.init.scope = true) (bind : ∀ (kV doc pm : Value) (an : Option Addr) (cdv ct : Value) (us : List Value), us.length = (sSelf :: d.flds).length → bindArgs (PySem.W.fnOf "__init__" d.init.qual d.init.params d.init.body d.init.scope .none kV doc pm an cdv ct) ⟨us, []⟩ = pure ((sSelf :: d.flds).zip us)) (hl : d.flds.length ≤ 100) :
    ExcC P w K mg 1 d.x d.flds ∧ XfC K (He.ga K d.x) ∧ (∀ f ∈ d.flds, PySem.W.findIn K (.ref (He.ga K d.x)) f = some none) ∧
      ∀ ks perm, BindKX d ks perm → ∃ fI fd, PySem.W.findIn K (.ref (He.ga K d.x)) "__init__" = some (some (.ref fI)) ∧ PySem.W.typeIn K (.ref fI) = some (.type "function") ∧ BindsK K fd (sSelf :: d.flds) ks perm ∧ ∀ base, FnOk P w K mg base (L2.CX P w) 1 fI fd (sSelf :: d.flds) (spInit (He.ga K d.x) d.flds) := by
  unfold xdB at h
  obtain ⟨h1, h⟩ := and2 h
  obtain ⟨h2, h⟩ := and2 h
  obtain ⟨h3, h⟩ := and2 h
  obtain ⟨h4, h5⟩ := and2 h
  have T := oexB_ok h1
  have hno : ∀ f ∈ d.flds, PySem.W.findIn K (.ref (He.ga K d.x)) f = some none := fun f hf => de (List.all_eq_true.mp h4 f hf)
  suffices fnok : ∀ base, FnOk P w K mg base (L2.CX P w) 1 (He.fAd K d.init.at_) fd (sSelf :: d.flds) (spInit (He.ga K d.x) d.flds) by
    exact ⟨⟨T, mg', _, fd, de h2, de h3, F.bindsN bind, fnok⟩, xfB_ok h5, hno, fun ks perm hb => ⟨_, fd, de h2, de h3, bindsK_of F hb, fnok⟩⟩
  intro base
  unfold initSc at hs
  obtain ⟨s1, s0⟩ := and2 hs
  obtain ⟨s2, s5⟩ := and2 s0
  obtain ⟨s3, s4⟩ := and2 s5
  have S := scope_by s1
  generalize eb : d.init.body = body at F hb
  unfold initB at hb
  split at hb
  · obtain ⟨b1, hb⟩ := and2 hb
    obtain ⟨b2, hb⟩ := and2 hb
    obtain ⟨b3, hb⟩ := and2 hb
    obtain ⟨b4, b5⟩ := and2 hb
    obtain rfl := de b1
    obtain rfl := de b2
    obtain rfl := de b3
    have nd : d.flds.Nodup := (List.nodup_cons.mp S.nd).2
    exact init_ok (y := Str.empty) T T0 m0 F S (fldS_by b5) nd hl hno (fun z hz => de (and2 (List.all_eq_true.mp s2 z hz)).1) (de s3) (fun z hz => by
      obtain ⟨d1, d2, _⟩ := okN_d (and2 (List.all_eq_true.mp s2 z hz)).2
      exact ⟨d1, d2⟩) (okN_d s4).1 b4
  · cases hb
end
end DL

set_option Elab.async false
set_option linter.all false
set_option maxRecDepth 100000
/-! DL33: all of it: what is to be looked at, what follows. -/
namespace DL
open PySem PySem.Spec PyProof.Rows L2
/-! ### the Hook -/
/-- what the names reach, and the interpreter's statics -/
def KY (g : Addr → Option Obj) (n : Nat) : PySem.W.Frag := He.frT g (He.asD g n ++ [cStatics, sysModules])
def obsY (n : Nat) (fa : List He.Fa) (fn : List He.DefD) (tf : List He.Defn) (ex : PySem.W.Frag → Bool) (g : Addr → Option Obj) : He.AlX := (He.obsT fa fn [] (KY g n), ex (KY g n) && He.tabsB g tf (KY g n))
theorem saysY_of {n : Nat} {fa : List He.Fa} {fn : List He.DefD} {tf : List He.Defn} {ex : PySem.W.Frag → Bool} {w : World} {h : Heap} (e : obsY n fa fn tf ex h.get? = He.valX fn [] w) : He.SaysX fa fn [] tf ex w h (KY h.get? n) := by
  have told : He.obsT fa fn [] (KY h.get? n) = He.valT fn [] w := congrArg (fun z : He.AlX => z.1) e
  obtain ⟨yes, tabs⟩ := and2 (show (ex (KY h.get? n) && He.tabsB h.get? tf (KY h.get? n)) = true from congrArg (fun z : He.AlX => z.2) e)
  have at_ : ∀ p ∈ tf, PySem.W.codeHdIn (KY h.get? n) (He.cT (KY h.get? n) p).1 (He.cT (KY h.get? n) p).2 = true ∧ ∃ o, h.get? (He.cT (KY h.get? n) p).2 = some o ∧ He.emptyTab o = true := fun p hp => by
    obtain ⟨a, b⟩ := and2 (List.all_eq_true.mp tabs p hp)
    cases q : h.get? (He.cT (KY h.get? n) p).2 with
    | some o => rw [q] at b; exact ⟨a, o, rfl, b⟩
    | none => rw [q] at b; cases b
  refine ⟨told, yes, fun p hp => (at_ p hp).1, fun p hp => ?_, fun p hp => ?_⟩
  · obtain ⟨_, o, q, z⟩ := at_ p hp
    exact He.frT_none q z
  · obtain ⟨_, o, q, z⟩ := at_ p hp
    rw [q, He.emptyTab_eq z]
def hookY (n : Nat) (fa : List He.Fa) (fn : List He.DefD) (tf : List He.Defn) (ex : PySem.W.Frag → Bool) : PySem.W.Hook where
  α := He.AlX
  obs := fun s => obsY n fa fn tf ex s.heap.get?
  val := fun w => He.valX fn [] w
  says := fun w h => ∃ K : PySem.W.Frag, K.In h ∧ He.SaysX fa fn [] tf ex w h K
  of := fun _ _ e => ⟨_, He.frT_in, saysY_of e⟩
  keeps := fun _ _ _ ⟨K, hK, c⟩ k => ⟨K, PySem.W.Frag.In.keeps hK k, c.t, c.more, c.hd, c.out, fun p hp => k _ _ (c.empty p hp)⟩
theorem obsY_eq {n : Nat} {fa : List He.Fa} {fn : List He.DefD} {tf : List He.Defn} {ex : PySem.W.Frag → Bool} {g : Addr → Option Obj} {s : Shared} (h : ∀ a, g a = s.heap.get? a) : obsY n fa fn tf ex g = (hookY n fa fn tf ex).obs s := by
  rw [show g = s.heap.get? from funext h]; rfl
/-! ### a law's data -/
structure LawD where
  C : Cc
  x0 : Str
  xds : List XD
  penSt : Stmt
  fs1 : List FD
  fs2 : List FD
  lds : List LD
  cN : List Str
  d : LawDef
  lawSt : Stmt
  ss : List S
namespace LawD
variable (D : LawD)
def fd (f : FD) : He.DefD := ⟨(D.C.g f.g, none), D.C.g f.g, D.C.g f.g, defArgs f.st, defBody f.st, defScope f.st, [], []⟩
def penD : He.DefD := ⟨("_law_pen", none), "_law_pen", "_law_pen", defArgs D.penSt, defBody D.penSt, defScope D.penSt, [], []⟩
def lawD : He.DefD := ⟨("law", none), "law", "law", D.d.params, D.d.text, D.d.scope, [], []⟩
def fn : List He.DefD := D.penD :: D.lawD :: ((D.fs1 ++ D.fs2).map D.fd ++ D.xds.map (·.init))
def fa : List He.Fa := He.Fa.glo "_law_pen" :: He.Fa.glo "law" :: (D.C.gls.map (fun g => He.Fa.glo (D.C.g g)) ++ (D.C.bis.map He.Fa.free ++ ((if D.xds.isEmpty then [] else [He.Fa.glo D.x0]) ++ D.C.kst.map fun p => He.Fa.int p.1 p.2)))
/-- the defs that make lambdas -/
def tf : List He.Defn := ("law", none) :: ((D.fs1 ++ D.fs2).filter (·.klam)).map fun f => (D.C.g f.g, none)
def qualOf (p : He.Defn) : Str := p.1 ++ ".<locals>." ++ "<lambda>"
def exT (K : PySem.W.Frag) : Bool := decide ((D.tf.map fun p => (He.cT K p).2).Nodup) && (D.fs1 ++ D.fs2).all fun f => !f.klam || (match K.lookup (He.ga K (D.C.g f.g)) with
  | some ⟨_, _, .func fd, _⟩ => decide (fd.code = .ref (He.codeOf K (D.C.g f.g, none)))
  | _ => false)
def ex (K : PySem.W.Frag) : Bool := D.exT K && (K.lookup sysModules).isSome && (D.xds.isEmpty || rootB K (He.ga K D.x0)) && ((D.xds.all fun d => xdB K D.x0 d) && (((!D.C.gcd || He.eqO (PySem.W.nsIn K mainGlobals "gcd") (some (some (.builtin "math.gcd")))) && (!D.C.cmb || He.eqO (PySem.W.nsIn K mainGlobals "combinations") (some (some (.type "itertools.combinations"))))) &&
  ((D.xds.all fun p => D.xds.all fun q => decide (PySem.W.exmOne K (.ref (He.ga K p.x)) (.ref (He.ga K q.x)) = some (p.g == q.g))) && match K.lookup (He.ga K "law") with
    | some ⟨_, _, .func fd, _⟩ => decide (fd.code = .ref (He.codeOf K ("law", none)))
    | _ => false))) && (!D.C.isx || ((D.xds.all fun d => isxB K (He.ga K d.x)) && ((D.xds.all fun p => D.xds.all fun q => decide (PySem.W.kitOne K (.ref (He.ga K p.x)) (.ref (He.ga K q.x)) = some (p.g == q.g))) && (D.C.root.isNone ||
      D.xds.all fun p => decide (PySem.W.kitOne K (.ref (He.ga K p.x)) (.ref (He.ga K D.x0)) = some true) && decide (PySem.W.exmOne K (.ref (He.ga K p.x)) (.ref (He.ga K D.x0)) = some true)))))
def qual : Str := "law" ++ ".<locals>." ++ "<lambda>"
def nm (K : PySem.W.Frag) : Nm := { f := D.C.g, T := D.tf.map fun p => ((He.cT K p).2, qualOf p), cs := D.tf.map (He.cT K), lam := lamN D.lds, cN := D.cN, xc := fun g => (D.C.exf.lookup g).isSome }
def T1 : List (Nat × Fn) := build (fun _ => none) D.C D.fs1 (excT D.C.exf)
def lam : Nat → Option Fn := lamT D.T1 D.C D.cN.length D.lds
def T2 : List (Nat × Fn) := build D.lam D.C D.fs2 D.T1
def gam : Gam := { mkG D.T2 D.lam D.C with own := some D.d.is }
def known0 : List Nat := D.C.exf.map (·.1)
def known1 : List Nat := (D.fs1.map (·.g)).reverse ++ D.known0
def known2 : List Nat := (D.fs2.map (·.g)).reverse ++ D.known1
def CL : Cc := { D.C with N := D.d.N, sc := D.d.scope, blk := none, fns := D.known2, kwx := [], lams := D.lds.map fun p => (p.1, p.2.1), maker := true, callc := false, klam := false }
def ckX : Bool := D.xds.all fun d => D.C.gls.contains d.g && (decide (d.x = D.C.g d.g) && (initB D.x0 d.flds d.init.body && (initSc D.x0 d.flds d.init.scope && ((decide (d.flds.length ≤ 100) && (decide (d.init.name = "__init__") && (decide (d.init.dfl.length = 0) && decide (d.init.kwd.length = 0))))))))
def ckL : Bool := scopeB D.d.N ["script"] D.d.scope && (decide (D.d.N[D.d.ip]? = some "pen") && (decide (D.d.ip ≠ 0) && ((decide (D.d.scope.names.lookup ("script" : Str) = some .local)) && (decide (D.d.scope.names.lookup ("pen" : Str) = some .local) && (decide (D.d.scope.names.lookup ("_law_pen" : Str) = some .globalImplicit) && decide (D.d.params.defaults.length = 0))))))
def ckLm : Bool := D.lds.all fun p => decide (p.2.1.qual = LawD.qual) && p.2.1.scope.names.all fun y => !decide (y.2 = .free) || decide (D.d.scope.names.lookup y.1 = some .cell)
def ck : Bool := penB (defBody D.penSt) && (penSc (defScope D.penSt) && (D.C.bis.contains "int" && (D.C.bis.contains "list" && (decide (D.C.exf = D.xds.map fun d => (d.g, d.flds)) && (decide (D.C.exf.map (·.1)).Nodup && (D.ckX && (D.ckL && (D.ckLm && (((D.C.kwx.all fun p => (D.C.kwp.any fun q => decide (q.1 = p)) && (D.C.exf.lookup p.1).isSome) && ((D.C.kwp.all fun q => decide (q.1.2.length ≤ 100)) && match D.C.root with | some r => decide (D.C.g r = D.x0) | none => true)) && (ckAll D.C false D.fs1 D.known0 && (ckLams D.C D.cN D.known1 D.lds && (ckAll D.C true D.fs2 D.known1 && (makesB D.d { f := D.C.g, T := [], cN := D.cN } && ckSs D.ss D.CL D.d.body)))))))))))))
end LawD
theorem law_at {l : PySem.W.OpenLaw} {D : LawD} {w : World} {h : Heap} {K : PySem.W.Frag} {mg : Str → Option Value} {fa : Addr} (KX : K.In h) (G : h.Ns mainGlobals mg) (c : He.SaysX D.fa D.fn [] D.tf D.ex w h K) (hfa : mg ("law" : Str) = some (.ref fa)) (ck : D.ck = true)
    (b1 : ∀ f ∈ D.fs1 ++ D.fs2, ∀ (kV doc pm : Value) (an : Option Addr) (cdv ct : Value) (us : List Value), us.length = f.ps.length → bindArgs (PySem.W.fnOf (D.C.g f.g) (D.C.g f.g) (defArgs f.st) (defBody f.st) (defScope f.st) .none kV doc pm an cdv ct) ⟨us, []⟩ = pure (f.ps.zip us))
    (b2 : ∀ d ∈ D.xds, ∀ (kV doc pm : Value) (an : Option Addr) (cdv ct : Value) (us : List Value), us.length = (sSelf :: d.flds).length → bindArgs (PySem.W.fnOf "__init__" d.init.qual d.init.params d.init.body d.init.scope .none kV doc pm an cdv ct) ⟨us, []⟩ = pure ((sSelf :: d.flds).zip us))
    (b3 : ∀ (kV doc pm : Value) (an : Option Addr) (cdv ct : Value) (us : List Value), us.length = 1 → bindArgs (PySem.W.fnOf "_law_pen" "_law_pen" (defArgs D.penSt) (defBody D.penSt) (defScope D.penSt) .none kV doc pm an cdv ct) ⟨us, []⟩ = pure ((["script"] : List Str).zip us))
    (b4 : ∀ (kV doc pm : Value) (an : Option Addr) (cdv ct : Value) (us : List Value), us.length = 1 → bindArgs (PySem.W.fnOf "law" "law" D.d.params D.d.text D.d.scope .none kV doc pm an cdv ct) ⟨us, []⟩ = pure ((["script"] : List Str).zip us))
    (b5 : ∀ p ∈ D.C.kwp, ∀ d ∈ D.xds, d.g = p.1.1 → BindKX d p.1.2 p.2)
    (room : costs D.fs1 + costs D.fs2 ≤ 200) (pure_ : ∀ ns : List Int, ns.length ≤ 63 → (∀ z ∈ ns, Builtin.Int.intBits z ≤ 1048576) → ∃ ρ', evSs D.gam D.ss (lawSt D.d ns) = .ok (.ret (.bl true)) ρ') : LawAt l w K 63 mg fa h := by
  have sd := c.t.d
  have facts : ∀ f ∈ D.fa, f.ok K = true := fun f hf => sd.facts hf
  have defs : ∀ d ∈ D.fn, ∃ fd, FunD K d.name d.qual d.params d.body d.scope (d.dvs K) (d.kws K) (He.fAd K d.at_) fd := fun d hd => sd.defs hd
  simp only [LawD.ck, Bool.and_eq_true, decide_eq_true_eq] at ck
  obtain ⟨k1, k2, k3, k4, k5, k6, k7, k8, k9, ⟨kx1, kx2, kx3⟩, k10, k11, k12, k13, k14⟩ := ck
  have hkx : KwOk D.C := fun p hp => by
    have z := List.all_eq_true.mp kx1 p hp
    exact and2 z
  have more := c.more
  simp only [LawD.ex, Bool.and_eq_true, List.all_eq_true] at more
  obtain ⟨⟨⟨⟨mT, m0⟩, m1⟩, m2, m3, m4, m5⟩, m6⟩ := more
  obtain ⟨nT, cT⟩ := and2 mT
  have nT := of_decide_eq_true nT
  have uniqT : ∀ p ∈ D.tf, ∀ q ∈ (D.nm K).T, q.1 = (He.cT K p).2 → q.2 = LawD.qualOf p := fun p hp q hq e => by
    obtain ⟨r, hr, rfl⟩ := List.mem_map.mp hq
    have key : ∀ l : List He.Defn, (l.map fun p => (He.cT K p).2).Nodup → p ∈ l → r ∈ l → (He.cT K r).2 = (He.cT K p).2 → r = p := by
      intro l
      induction l with
      | nil => intro _ h; cases h
      | cons a l ih =>
        intro nd h1 h2 e
        rw [List.map_cons, List.nodup_cons] at nd
        rcases List.mem_cons.mp h1 with y1 | y1
        · rcases List.mem_cons.mp h2 with y2 | y2
          · rw [y1, y2]
          · exact absurd (List.mem_map.mpr ⟨r, y2, by rw [e, y1]⟩) nd.1
        · rcases List.mem_cons.mp h2 with y2 | y2
          · exact absurd (List.mem_map.mpr ⟨p, y1, by rw [← e, y2]⟩) nd.1
          · exact ih nd.2 y1 y2 e
    rw [key D.tf nT hp hr e]
  have gl : ∀ g ∈ D.C.gls, mg (D.C.g g) = some (.ref (He.ga K (D.C.g g))) := fun g hg => He.glo_ok KX G (facts (.glo (D.C.g g)) (List.mem_cons_of_mem _ (List.mem_cons_of_mem _ (List.mem_append_left _ (List.mem_map.mpr ⟨g, hg, rfl⟩)))))
  have bi : ∀ x ∈ D.C.bis, mg x = none := fun x hx => He.free_ok KX G (facts (.free x) (List.mem_cons_of_mem _ (List.mem_cons_of_mem _ (List.mem_append_right _ (List.mem_append_left _ (List.mem_map.mpr ⟨x, hx, rfl⟩))))))
  have gPen : mg "_law_pen" = some (.ref (He.ga K "_law_pen")) := He.glo_ok KX G (facts (.glo "_law_pen") (by simp [LawD.fa]))
  have gLaw : mg "law" = some (.ref (He.ga K "law")) := He.glo_ok KX G (facts (.glo "law") (by simp [LawD.fa]))
  have efa : fa = He.ga K "law" := by
    rw [gLaw] at hfa; cases hfa; rfl
  subst efa
  obtain ⟨pfd, PF⟩ := defs D.penD (by simp [LawD.fn])
  obtain ⟨lfd, LF⟩ := defs D.lawD (by simp [LawD.fn])
  have mLaw : lfd.code = .ref (He.codeOf K ("law", none)) := by
    obtain ⟨oc, od, dV, kV, doc, pm, an, cdv, ct, osl, e1, lk, _⟩ := LF.ex
    have lk' : K.lookup (He.ga K "law") = some ⟨oc, od, .func lfd, osl⟩ := lk
    rw [lk'] at m5
    exact of_decide_eq_true m5
  let GG : Gx := ⟨l.prog, w, K, mg, h, D.nm K⟩
  have HX : ∀ d ∈ D.xds, d.flds.length ≤ 100 ∧ ExcC l.prog w K mg 1 (D.C.g d.g) d.flds ∧ XfC K (He.ga K (D.C.g d.g)) ∧ (∀ f ∈ d.flds, PySem.W.findIn K (.ref (He.ga K (D.C.g d.g))) f = some none) ∧
      ∀ ks perm, BindKX d ks perm → ∃ fI fd, PySem.W.findIn K (.ref (He.ga K (D.C.g d.g))) "__init__" = some (some (.ref fI)) ∧ PySem.W.typeIn K (.ref fI) = some (.type "function") ∧ BindsK K fd (sSelf :: d.flds) ks perm ∧ ∀ base, FnOk l.prog w K mg base (L2.CX l.prog w) 1 fI fd (sSelf :: d.flds) (spInit (He.ga K (D.C.g d.g)) d.flds) := fun d hd => by
    have q := List.all_eq_true.mp k7 d hd
    simp only [Bool.and_eq_true, decide_eq_true_eq, Bool.not_eq_true'] at q
    obtain ⟨q1, q2, q3, q4, q6, q7, q8, q9⟩ := q
    have ne : D.xds.isEmpty = false := by
      cases e : D.xds with
      | nil => rw [e] at hd; cases hd
      | cons _ _ => rfl
    have T0 : RootX K (He.ga K D.x0) := by
      rcases Bool.or_eq_true_iff.mp m1 with z | z
      · rw [ne] at z; cases z
      · exact rootB_ok z
    have g0 : mg D.x0 = some (.ref (He.ga K D.x0)) := He.glo_ok KX G (facts (.glo D.x0) (by simp [LawD.fa, ne]))
    obtain ⟨fd, F⟩ := defs d.init (by simp only [LawD.fn, List.mem_cons, List.mem_append, List.mem_map]; exact .inr (.inr (.inr ⟨d, hd, rfl⟩)))
    have e1 : d.init.dvs K = [] := by unfold He.DefD.dvs; rw [List.eq_nil_of_length_eq_zero q8]; rfl
    have e2 : d.init.kws K = [] := by unfold He.DefD.kws; rw [List.eq_nil_of_length_eq_zero q9]; rfl
    rw [e1, e2, q7] at F
    obtain ⟨r1, r2, r3, r4⟩ := xd_ok (P := l.prog) (w := w) (mg := mg) (m2 d hd) T0 g0 (by rw [q2]; exact gl d.g (List.contains_iff_mem.mp q1)) F q3 q4 (b2 d hd) q6
    rw [q2] at r1 r2 r3 r4
    exact ⟨q6, r1, r2, r3, r4⟩
  have exn : ∀ d ∈ D.xds, d.x = D.C.g d.g := fun d hd => by
    have q := List.all_eq_true.mp k7 d hd
    simp only [Bool.and_eq_true, decide_eq_true_eq, Bool.not_eq_true'] at q
    exact q.2.1
  have ofExf : ∀ p ∈ D.C.exf, ∃ d ∈ D.xds, p = (d.g, d.flds) := fun p hp => by
    rw [k5] at hp
    obtain ⟨d, h1, h2⟩ := List.mem_map.mp hp
    exact ⟨d, h1, h2.symm⟩
  have HXI : D.C.isx = true → (∀ d ∈ D.xds, isxB K (He.ga K d.x) = true) ∧ (∀ p ∈ D.xds, ∀ q ∈ D.xds, PySem.W.kitOne K (.ref (He.ga K p.x)) (.ref (He.ga K q.x)) = some (p.g == q.g)) ∧
      (D.C.root.isNone = false → ∀ p ∈ D.xds, PySem.W.kitOne K (.ref (He.ga K p.x)) (.ref (He.ga K D.x0)) = some true ∧ PySem.W.exmOne K (.ref (He.ga K p.x)) (.ref (He.ga K D.x0)) = some true) := fun ix => by
    rw [ix] at m6
    have m6' := (Bool.or_eq_true_iff.mp m6).resolve_left (by simp)
    obtain ⟨z1, z2⟩ := and2 m6'
    obtain ⟨z2, z3⟩ := and2 z2
    refine ⟨fun d hd => List.all_eq_true.mp z1 d hd, fun p hp q hq => of_decide_eq_true (List.all_eq_true.mp (List.all_eq_true.mp z2 p hp) q hq), fun rn p hp => ?_⟩
    rw [rn, Bool.false_or] at z3
    obtain ⟨y1, y2⟩ := and2 (List.all_eq_true.mp z3 p hp)
    exact ⟨of_decide_eq_true y1, of_decide_eq_true y2⟩
  have HD : Head GG D.C := {
    nm := fun _ => rfl
    gl := gl
    bi := bi
    cmb := fun hg => by
      have m3b := m3.2
      rw [hg] at m3b
      have m3' : He.eqO (PySem.W.nsIn K mainGlobals "combinations") (some (some (.type "itertools.combinations"))) = true := m3b
      exact PySem.W.mg_of KX G (He.eqO_ok m3')
    gcd := fun hg => by
      have m3 := m3.1
      rw [hg] at m3
      have m3' : He.eqO (PySem.W.nsIn K mainGlobals "gcd") (some (some (.builtin "math.gcd"))) = true := m3
      exact PySem.W.mg_of KX G (He.eqO_ok m3')
    exc := fun p hp => by
      obtain ⟨d, hd, rfl⟩ := ofExf p hp
      exact ⟨(HX d hd).1, (HX d hd).2.1⟩
    exm := fun p hp q hq => by
      obtain ⟨d, hd, rfl⟩ := ofExf p hp
      obtain ⟨d', hd', rfl⟩ := ofExf q hq
      have z := of_decide_eq_true (m4 d hd d' hd')
      rw [exn d hd, exn d' hd'] at z
      exact z
    xfc := fun p hp => by
      obtain ⟨d, hd, rfl⟩ := ofExf p hp
      exact ⟨(HX d hd).2.2.1, (HX d hd).2.2.2.1⟩
    nd := k6
    sys := m0
    xc := fun p hp => by
      show (D.C.exf.lookup p.1).isSome = true
      rw [exf_mem k6 hp]; rfl
    isx := fun ix p hp => by
      obtain ⟨d, hd, rfl⟩ := ofExf p hp
      have z := HXI ix
      have := isxB_ok (z.1 d hd)
      rw [exn d hd] at this
      exact this
    kit := fun ix p hp q hq => by
      obtain ⟨d, hd, rfl⟩ := ofExf p hp
      obtain ⟨d', hd', rfl⟩ := ofExf q hq
      have z := (HXI ix).2.1 d hd d' hd'
      rw [exn d hd, exn d' hd'] at z
      exact z
    rt := fun ix r hr p hp => by
      obtain ⟨d, hd, rfl⟩ := ofExf p hp
      have z := (HXI ix).2.2 (by rw [hr]; simp) d hd
      rw [hr] at kx3
      have e0 : D.C.g r = D.x0 := of_decide_eq_true kx3
      rw [exn d hd, ← e0] at z
      exact z
    kw := fun p hp flds hf => by
      obtain ⟨d, hd, e⟩ := ofExf _ (mem_look hf)
      injection e with e1 e2
      subst e2
      obtain ⟨x1, x2, x3, x4, x5⟩ := HX d hd
      obtain ⟨fI, fd, i1, i2, i3, i4⟩ := x5 p.1.2 p.2 (b5 p hp d hd e1.symm)
      have eg : D.C.g p.1.1 = D.C.g d.g := by rw [e1]
      refine fnK_exc (G := GG) (k := 1) ?_ ?_ ?_ x1 (of_decide_eq_true (List.all_eq_true.mp kx2 p hp)) ⟨fI, fd, ?_, i2, i3, ?_⟩
      · show OexC K (He.ga K (D.C.g p.1.1))
        rw [eg]; exact x2.T
      · show mg (D.C.g p.1.1) = some (.ref (He.ga K (D.C.g p.1.1)))
        rw [eg]; exact x2.gl
      · show (D.C.exf.lookup p.1.1).isSome = true
        rw [hf]; rfl
      · show PySem.W.findIn K (.ref (He.ga K (D.C.g p.1.1))) "__init__" = _
        rw [eg]; exact i1
      · show ∀ base, FnOk l.prog w K mg base (L2.CX l.prog w) 1 fI fd _ (spInit (He.ga K (D.C.g p.1.1)) d.flds)
        rw [eg]; exact i4
    kst := fun n p hp => He.int_ok KX G (facts (.int p.1 p.2) (List.mem_cons_of_mem _ (List.mem_cons_of_mem _ (List.mem_append_right _ (List.mem_append_right _ (List.mem_append_right _ (List.mem_map.mpr ⟨p, List.mem_of_getElem? hp, rfl⟩))))))) }
  have FDs : ∀ f ∈ D.fs1 ++ D.fs2, FDok GG D.C f := fun f hf => ⟨defs (D.fd f) (by simp only [LawD.fn, List.mem_cons, List.mem_append, List.mem_map]; exact .inr (.inr (.inl ⟨f, by simpa using hf, rfl⟩))), b1 f hf, fun hk => by
    have mem : ((D.C.g f.g, none) : He.Defn) ∈ D.tf := List.mem_cons_of_mem _ (List.mem_map.mpr ⟨f, List.mem_filter.mpr ⟨hf, hk⟩, rfl⟩)
    refine ⟨(He.cT K (D.C.g f.g, none)).1, (He.cT K (D.C.g f.g, none)).2, fun oc od osl fd lk => ?_, List.mem_map.mpr ⟨_, mem, rfl⟩, List.mem_map.mpr ⟨_, mem, rfl⟩, fun q hq e => uniqT _ mem q hq e⟩
    have z := List.all_eq_true.mp cT f hf
    rw [hk, Bool.not_true, Bool.false_or] at z
    have lk' : K.lookup (He.ga K (D.C.g f.g)) = some ⟨oc, od, .func fd, osl⟩ := lk
    rw [lk'] at z
    exact of_decide_eq_true z⟩
  have hT0 : ∀ g fn, (excT D.C.exf).lookup g = some fn → FnF GG 2 g fn := fun g fn h => by
    have key : ∀ l : List (Nat × List Str), (excT l).lookup g = some fn → ∃ flds, (g, flds) ∈ l ∧ fn = excFn g flds := by
      intro l
      induction l with
      | nil => intro z; cases z
      | cons p l ih =>
        intro z
        have z' : ((p.1, excFn p.1 p.2) :: excT l).lookup g = some fn := z
        rw [List.lookup_cons] at z'
        cases e : g == p.1 with
        | true =>
          rw [e] at z'
          cases z'
          have e' := beq_iff_eq.mp e
          subst e'
          exact ⟨p.2, List.mem_cons_self .., rfl⟩
        | false =>
          rw [e] at z'
          obtain ⟨fl, a, b⟩ := ih z'
          exact ⟨fl, List.mem_cons_of_mem _ a, b⟩
    obtain ⟨flds, m, rfl⟩ := key _ h
    obtain ⟨d, hd, e⟩ := ofExf _ m
    injection e with e1 e2
    subst e2
    subst e1
    exact fnF_exc (G := GG) (k := 1) (HX d hd).2.1 (HD.xc _ m) (HX d hd).1
  have hD0 : ∀ g ∈ D.known0, ∃ fn, (excT D.C.exf).lookup g = some fn := fun g hg => by
    have key : ∀ l : List (Nat × List Str), g ∈ l.map (·.1) → ∃ fn, (excT l).lookup g = some fn := by
      intro l
      induction l with
      | nil => intro z; cases z
      | cons p l ih =>
        intro z
        show ∃ fn, ((p.1, excFn p.1 p.2) :: excT l).lookup g = some fn
        rw [List.lookup_cons]
        cases e : g == p.1 with
        | true => exact ⟨_, rfl⟩
        | false =>
          rw [List.map_cons] at z
          rcases List.mem_cons.mp z with y | y
          · rw [y] at e; simp at e
          · exact ih y
    exact key _ hg
  obtain ⟨t1, d1⟩ := build_ok (G := GG) (C := D.C) (lam := fun _ => none) (callc := false) (kl := 0) hkx HD (fun z => by cases z) D.fs1 (excT D.C.exf) 2 D.known0 hT0 (Nat.le_refl 2) (Nat.zero_le 2) hD0 (fun f hf => FDs f (List.mem_append_left _ hf)) k10
  have lamOk := lam_ok (G := GG) (T := D.T1) (ls := D.lds) hkx HD t1 (by omega) d1 rfl k11
  obtain ⟨t2, d2⟩ := build_ok (G := GG) (C := D.C) (lam := D.lam) (callc := true) (kl := 2 + costs D.fs1 + 1) hkx HD (fun _ => lamOk) D.fs2 D.T1 (2 + costs D.fs1 + 1) D.known1 (fun g fn z => (t1 g fn z).mono (Nat.le_succ _)) (by omega) (Nat.le_refl _) d1 (fun f hf => FDs f (List.mem_append_right _ hf)) k12
  refine ⟨D.tf.map (He.cT K), fun p hp => ?_, fun p hp => ?_, fun p hp => ?_, ?_⟩
  · obtain ⟨q, hq, rfl⟩ := List.mem_map.mp hp; exact c.empty _ hq
  · obtain ⟨q, hq, rfl⟩ := List.mem_map.mp hp; exact c.out _ hq
  · obtain ⟨q, hq, rfl⟩ := List.mem_map.mp hp; exact PySem.W.codeHd_of_K KX (c.hd _ hq)
  · simp only [LawD.ckL, Bool.and_eq_true, decide_eq_true_eq] at k8
    obtain ⟨l1, l2, l3, l4, l5, l6, l7⟩ := k8
    have lm : ∀ p ∈ D.lds, p.2.1.qual = LawD.qual ∧ ∀ y ∈ p.2.1.scope.names, y.2 = .free → D.d.scope.names.lookup y.1 = some .cell := fun p hp => by
      obtain ⟨q1, q2⟩ := and2 (List.all_eq_true.mp k9 p hp)
      refine ⟨de q1, fun y hy e => ?_⟩
      rcases Bool.or_eq_true_iff.mp (List.all_eq_true.mp q2 y hy) with z | z
      · exact absurd e (by simpa using z)
      · exact de z
    have lamAt : ∀ k l, lamN D.lds k = some l → ∃ p ∈ D.lds, p.2.1 = l := fun k l e => by
      unfold lamN at e
      obtain ⟨p, e1, e2⟩ := Option.map_eq_some_iff.mp e
      exact ⟨_, mem_look e1, e2⟩
    refine law_run (L := 2 + costs D.fs1 + 1 + costs D.fs2) (d := D.d) (nm := D.nm K) (Γ := D.gam) (C := D.CL) (ss := D.ss) LF (fun s u => FunD.bindsA (ps := ["script"]) LF b4 s [u] rfl) ⟨scope_by l1, l2, l3, .inl l4, .inl l5, l6⟩ ⟨rfl, by show 1 + claimMargin + 3 * _ + 5 < recursionLimit; have : claimMargin = 300 := rfl; have : recursionLimit = 1000 := rfl; omega, by show 4 + 16 * _ + 200 < cLine; have : cLine = 9900 := rfl; omega⟩
      (fun base => pen_fn PF k1 k2 (bi _ (List.contains_iff_mem.mp k3)) (bi _ (List.contains_iff_mem.mp k4))) (FunD.bindsN PF b3) PF.kp gPen rfl rfl rfl rfl rfl (by omega) rfl rfl (fun base s mo => facts_of (G := GG) (T := D.T2) (C' := D.CL) (base := base) (cells := cellsFrom (s.heap.objs.size + 1) D.d.scope.names []) (cv := []) (own := some D.d.is) HD t2 (by omega) rfl (fun p hp => by cases hp) d2) rfl rfl ?_ (fun k l' e => ?_) (fun k l' e y hy z => ?_) (fun q hq => ?_) k14 pure_
    · exact k13
    · have e' : (D.lds.map fun p => (p.1, p.2.1)).lookup k = some l' := e
      have e2 : lamN D.lds k = some l' := by
        unfold lamN
        rw [← e']
        have : ∀ ls : List LD, (ls.lookup k).map (·.1) = (ls.map fun p => (p.1, p.2.1)).lookup k := by
          intro ls
          induction ls with
          | nil => rfl
          | cons a ls ih =>
            obtain ⟨a1, a2, a3⟩ := a
            rw [List.map_cons, List.lookup_cons, List.lookup_cons]
            cases k == a1 with
            | true => rfl
            | false => exact ih
        exact this D.lds
      obtain ⟨p, hp, rfl⟩ := lamAt k l' e2
      refine ⟨e2, (lm p hp).1.symm, ⟨(He.cT K ("law", none)).1, (He.cT K ("law", none)).2, List.mem_map.mpr ⟨_, List.mem_cons_self .., rfl⟩, mLaw, ?_, fun q hq e => ?_⟩, fun y hy z => (lm p hp).2 y hy z⟩
      · rw [(lm p hp).1]; exact List.mem_map.mpr ⟨("law", none), List.mem_cons_self .., rfl⟩
      · rw [uniqT ("law", none) (List.mem_cons_self ..) q hq e]; exact (lm p hp).1.symm
    · obtain ⟨p, hp, rfl⟩ := lamAt k l' e
      exact (lm p hp).2 y hy z
    · obtain ⟨r, hr, rfl⟩ := List.mem_map.mp hq
      exact ⟨(He.cT K r).1, List.mem_map.mpr ⟨r, hr, rfl⟩⟩
end DL

set_option Elab.async false
set_option linter.all false
set_option maxRecDepth 100000
/-! DL34: short words for a law's data. -/
namespace DL
open PySem PySem.Spec PyProof.Rows L2
def clsSt (st : Stmt) (j : Nat) : Stmt := match st with
  | .ClassDef _ _ _ body _ _ _ _ _ _ _ => body.getD j (.Pass ⟨0, 0, 0, 0⟩)
  | _ => .Pass ⟨0, 0, 0, 0⟩
/-- the lambdas of a text, in their order -/
def lamsE : Nat → Expr → List (Expr × Scope)
  | 0, _ => []
  | _ + 1, .Lambda _ b s _ => [(b, s)]
  | n + 1, .Tuple es _ _ => es.flatMap (lamsE n)
  | n + 1, .List es _ => es.flatMap (lamsE n)
  | n + 1, .Call f es _ _ => lamsE n f ++ es.flatMap (lamsE n)
  | n + 1, .UnaryOp _ e _ => lamsE n e
  | n + 1, .BoolOp _ es _ => es.flatMap (lamsE n)
  | n + 1, .Compare e _ es _ => lamsE n e ++ es.flatMap (lamsE n)
  | _ + 1, _ => []
def lamsS : Nat → Stmt → List (Expr × Scope)
  | 0, _ => []
  | n + 1, .Assign _ v _ => lamsE n v
  | n + 1, .Expr v _ => lamsE n v
  | n + 1, .Return (some v) _ => lamsE n v
  | n + 1, .If t a b _ => lamsE n t ++ (a.flatMap (lamsS n) ++ b.flatMap (lamsS n))
  | n + 1, .For _ _ b _ _ => b.flatMap (lamsS n)
  | _ + 1, _ => []
def lamData (body : List Stmt) (es : List E) : List LD := ((body.flatMap (lamsS 30)).zip es).zipIdx.map fun p => (p.2, ⟨LawD.qual, noArgs, p.1.1.1, p.1.1.2⟩, p.1.2)
def lawDef (st : Stmt) (N : List Str) (ip : Nat) (is : List Nat) : LawDef := match defBody st with
  | .Assign [.Name _ p1] (.Call (.Name _ p2) [.Name _ p3] [] p4) p5 :: r => ⟨defArgs st, p1, p2, p3, p4, p5, r, defScope st, N, ip, is⟩
  | _ => ⟨defArgs st, ⟨0, 0, 0, 0⟩, ⟨0, 0, 0, 0⟩, ⟨0, 0, 0, 0⟩, ⟨0, 0, 0, 0⟩, ⟨0, 0, 0, 0⟩, [], defScope st, N, ip, is⟩
def BindOk (C : Cc) (f : FD) : Prop := ∀ (kV doc pm : Value) (an : Option Addr) (cdv ct : Value) (us : List Value), us.length = f.ps.length → bindArgs (PySem.W.fnOf (C.g f.g) (C.g f.g) (defArgs f.st) (defBody f.st) (defScope f.st) .none kV doc pm an cdv ct) ⟨us, []⟩ = pure (f.ps.zip us)
def BindX (d : XD) : Prop := ∀ (kV doc pm : Value) (an : Option Addr) (cdv ct : Value) (us : List Value), us.length = (sSelf :: d.flds).length → bindArgs (PySem.W.fnOf "__init__" d.init.qual d.init.params d.init.body d.init.scope .none kV doc pm an cdv ct) ⟨us, []⟩ = pure ((sSelf :: d.flds).zip us)
def Bind1 (x : Str) (params : Arguments) (body : List Stmt) (scope : Scope) : Prop := ∀ (kV doc pm : Value) (an : Option Addr) (cdv ct : Value) (us : List Value), us.length = 1 → bindArgs (PySem.W.fnOf x x params body scope .none kV doc pm an cdv ct) ⟨us, []⟩ = pure ((["script"] : List Str).zip us)
theorem all_nil {α : Type} {P : α → Prop} : ∀ x ∈ ([] : List α), P x := fun _ h => nomatch h
theorem all_cons {α : Type} {P : α → Prop} {a : α} {l : List α} (h : P a) (t : ∀ x ∈ l, P x) : ∀ x ∈ a :: l, P x := fun x hx => by
  rcases List.mem_cons.mp hx with e | e
  · rw [e]; exact h
  · exact t x e
theorem all_app {α : Type} {P : α → Prop} {l m : List α} (h : ∀ x ∈ l, P x) (t : ∀ x ∈ m, P x) : ∀ x ∈ l ++ m, P x := fun x hx => by
  rcases List.mem_append.mp hx with e | e
  · exact h x e
  · exact t x e
end DL

set_option Elab.async false
set_option linter.all false
set_option maxRecDepth 100000
set_option maxHeartbeats 0
/-! PL1: plain rules for the pure interpreter, for every law (grown out of wip/k02/P1 .. P5). -/
namespace DL
open PySem PySem.Spec PyProof.Rows L2
/-- the way is ok, and Q holds of its end -/
def Ok {α : Type} (m : M α) (ρ : Env) (Q : α → Env → Prop) : Prop := ∃ a ρ', m ρ = .ok a ρ' ∧ Q a ρ'
section
variable {α β : Type} {m : M α} {f : α → M β} {ρ : Env} {Q : β → Env → Prop}
theorem ok_bnd (h : Ok m ρ (fun a ρ' => Ok (f a) ρ' Q)) : Ok (bnd m f) ρ Q := by
  obtain ⟨a, ρ', e, b, ρ'', e2, q⟩ := h
  exact ⟨b, ρ'', by unfold bnd; rw [e]; exact e2, q⟩
theorem ok_at {m : M α} {a : α} {ρ' : Env} {Q : α → Env → Prop} (e : m ρ = .ok a ρ') (q : Q a ρ') : Ok m ρ Q := ⟨a, ρ', e, q⟩
theorem ok_seq {m n : M Fl} {Q : Fl → Env → Prop} (h : Ok m ρ (fun a ρ' => a = .nx ∧ Ok n ρ' Q)) : Ok (seqF m n) ρ Q := by
  obtain ⟨a, ρ', e, rfl, h⟩ := h
  exact ok_bnd ⟨_, _, e, h⟩
theorem ok_mono {m : M α} {Q Q' : α → Env → Prop} (h : Ok m ρ Q) (k : ∀ a ρ', Q a ρ' → Q' a ρ') : Ok m ρ Q' := by
  obtain ⟨a, ρ', e, q⟩ := h
  exact ⟨a, ρ', e, k _ _ q⟩
end
/-- a loop by its invariant -/
theorem ok_for {tg : Tg} {body : M Fl} {P : Nat → Env → Prop} (step : ∀ n d ρ, P n ρ → Ok (bnd (asgT tg d) fun _ => body) ρ (fun f ρ' => f = .nx ∧ P (n + 1) ρ')) : ∀ (ds : List D) (n : Nat) (ρ : Env), P n ρ → Ok (forF tg body ds) ρ (fun f ρ' => f = .nx ∧ P (n + ds.length) ρ')
  | [], n, ρ, h => ⟨_, _, rfl, rfl, h⟩
  | d :: ds, n, ρ, h => by
    obtain ⟨a, ρ', e, rfl, h'⟩ := step n d ρ h
    obtain ⟨b, ρ'', e2, rfl, h2⟩ := ok_for step ds (n + 1) ρ' h'
    refine ⟨_, ρ'', ?_, rfl, by rw [List.length_cons, Nat.add_comm ds.length 1, ← Nat.add_assoc]; exact h2⟩
    show bnd (asgT tg d) _ ρ = _
    unfold bnd at e ⊢
    revert e
    cases asgT tg d ρ with
    | ok u σ =>
      intro e
      have e' : body σ = .ok .nx ρ' := e
      show bnd body _ σ = _
      unfold bnd
      rw [e']
      exact e2
    | err _ _ _ _ => intro e; cases e
    | bad => intro e; cases e
/-- a call of a def -/
theorem callFn_ok {own : Option (List Nat)} {fn : Fn} {ds : List D} {ρ : Env} {d : D} {p : Pen} (h : fn ds (envOf own ρ) = .ok d p) : callFn own (some fn) ds ρ = .ok ⟨none, .frz d⟩ { ρ with pen := backP own ρ p } := by
  unfold callFn
  simp only [h]
theorem fdiv_ok {i j : Int} (h : j ≠ 0) (h2 : j.natAbs < 2 ^ 30) : binD .FloorDiv (.int i) (.int j) = some (.frz (.int (i.fdiv j))) := by
  show (if j ≠ 0 ∧ j.natAbs < 2 ^ 30 then _ else _) = _
  rw [if_pos ⟨h, h2⟩]
theorem mod_ok {i j : Int} (h : j ≠ 0) : binD .Mod (.int i) (.int j) = some (.frz (.int (i.fmod j))) := by
  show (if j ≠ 0 then _ else _) = _
  rw [if_pos h]
end DL
namespace DL
open PySem
variable {Γ : Gam} {ρ : Env}
/-- the expression is worth d, and changes nothing -/
def EvD (Γ : Gam) (e : E) (ρ : Env) (d : D) : Prop := ∃ s, ev Γ e ρ = .ok ⟨s, .frz d⟩ ρ
def EvB (Γ : Gam) (e : E) (ρ : Env) (b : Bool) : Prop := evT Γ e ρ = .ok b ρ
def EvDs (Γ : Gam) (es : List E) (ρ : Env) (ds : List D) : Prop := evs Γ es ρ = .ok ds ρ
def EvVs (Γ : Gam) (es : List E) (ρ : Env) (ds : List D) : Prop := evv Γ es ρ = .ok ds ρ
/-- the def is worth r, and leaves the pen -/
def Fp (fn : Fn) (ds : List D) (r : D) : Prop := ∀ p, fn ds p = .ok r p
theorem esc_frz {s : Option Nat} {d : D} : esc ⟨s, .frz d⟩ ρ = .ok d ρ := rfl
theorem vw_frz {s : Option Nat} {d : D} : vw ⟨s, .frz d⟩ ρ = .ok d ρ := rfl
theorem keep_frz {s : Option Nat} {d : D} : keep ⟨s, .frz d⟩ ρ = .ok (.frz d) ρ := by cases s <;> rfl
theorem vInt_frz {s : Option Nat} {i : Int} : DL.vInt ⟨s, .frz (.int i)⟩ ρ = .ok i ρ := rfl

theorem ret_ap {α : Type} {a : α} : DL.ret a ρ = .ok a ρ := rfl
theorem frz_ap {d : D} : frz d ρ = .ok ⟨none, .frz d⟩ ρ := rfl
theorem bndE {α β : Type} {m : M α} {f : α → M β} {a : α} {ρ' : Env} (h : m ρ = .ok a ρ') : bnd m f ρ = f a ρ' := by unfold bnd; rw [h]
theorem rd_ok {i : Nat} {o : O} (h : ρ.sl[i]? = some (some o)) : rd i ρ = .ok ⟨some i, o⟩ ρ := by unfold rd; rw [h]
theorem ed_v {i : Nat} {d : D} (h : ρ.sl[i]? = some (some (.frz d))) : EvD Γ (.v i) ρ d := ⟨_, by rw [ev]; exact rd_ok h⟩
theorem ed_c {k : Cn} : EvD Γ (.c k) ρ k.d := ⟨none, by rw [ev]; rfl⟩
theorem ed_ci {i : Int} : EvD Γ (.c (.int i)) ρ (.int i) := ed_c
theorem ed_v1 {i : Nat} {a : E} {k : Int} {x d : D} (h : ρ.sl[i]? = some (some (.frz x))) (ha : EvD Γ a ρ (.int k)) (hx : ixD x k = some d) : EvD Γ (.v1 i a) ρ d := by
  obtain ⟨s, ea⟩ := ha
  refine ⟨some i, ?_⟩
  rw [ev, bndE (rd_ok h), bndE ea, bndE vInt_frz, bndE (rd_ok h)]
  show lft (((ixD x k).map O.frz).map fun o => (⟨some i, o⟩ : Val)) ρ = _
  rw [hx]; rfl

theorem ed_v0 {i : Nat} {d : D} {ds : List D} (h : ρ.sl[i]? = some (some (.frz (.tup (d :: ds))))) : EvD Γ (.v1 i (.c (.int 0))) ρ d := ed_v1 h ed_ci (by
  show (if (0 : Int) ≤ 0 then (if (0 : Int) < ((d :: ds).length : Int) then some (0 : Int).toNat else none) else _).bind (fun j => (d :: ds)[j]?) = some d
  rw [if_pos (by decide), if_pos (by rw [List.length_cons]; omega)]; rfl)
theorem ed_v01 {i : Nat} {d e : D} {ds : List D} (h : ρ.sl[i]? = some (some (.frz (.tup (d :: e :: ds))))) : EvD Γ (.v1 i (.c (.int 1))) ρ e := ed_v1 h ed_ci (by
  show (if (0 : Int) ≤ 1 then (if (1 : Int) < ((d :: e :: ds).length : Int) then some (1 : Int).toNat else none) else _).bind (fun j => (d :: e :: ds)[j]?) = some e
  rw [if_pos (by decide), if_pos (by rw [List.length_cons, List.length_cons]; omega)]; rfl)
theorem ed_bin {op : Operator} {a b : E} {x y r : D} (ha : EvD Γ a ρ x) (hb : EvD Γ b ρ y) (h : binD op x y = some (.frz r)) : EvD Γ (.bin op a b) ρ r := by
  obtain ⟨s, ea⟩ := ha
  obtain ⟨t, eb⟩ := hb
  refine ⟨none, ?_⟩
  rw [ev, bndE ea, bndE esc_frz, bndE eb, bndE esc_frz, h]; rfl
theorem ed_add {a b : E} {i j : Int} (ha : EvD Γ a ρ (.int i)) (hb : EvD Γ b ρ (.int j)) : EvD Γ (.bin .Add a b) ρ (.int (i + j)) := ed_bin ha hb rfl
theorem ed_sub {a b : E} {i j : Int} (ha : EvD Γ a ρ (.int i)) (hb : EvD Γ b ρ (.int j)) : EvD Γ (.bin .Sub a b) ρ (.int (i - j)) := ed_bin ha hb rfl
theorem ed_mul {a b : E} {i j : Int} (ha : EvD Γ a ρ (.int i)) (hb : EvD Γ b ρ (.int j)) (h : small64 i = true) : EvD Γ (.bin .Mult a b) ρ (.int (i * j)) := ed_bin ha hb (by
  show (if small64 i || small64 j || (intOk i && intOk j) then _ else _) = _
  rw [h]; rfl)
theorem ed_fdiv {a b : E} {i j : Int} (ha : EvD Γ a ρ (.int i)) (hb : EvD Γ b ρ (.int j)) (h : j ≠ 0) (h2 : j.natAbs < 2 ^ 30) : EvD Γ (.bin .FloorDiv a b) ρ (.int (i.fdiv j)) := ed_bin ha hb (fdiv_ok h h2)
theorem ed_mod {a b : E} {i j : Int} (ha : EvD Γ a ρ (.int i)) (hb : EvD Γ b ρ (.int j)) (h : j ≠ 0) : EvD Γ (.bin .Mod a b) ρ (.int (i.fmod j)) := ed_bin ha hb (mod_ok h)
theorem ed_neg {a : E} {i : Int} (ha : EvD Γ a ρ (.int i)) : EvD Γ (.neg a) ρ (.int (-i)) := by
  obtain ⟨s, ea⟩ := ha
  refine ⟨none, ?_⟩
  rw [ev, bndE ea, bndE vInt_frz]; rfl
theorem ed_cmp {op : CmpOp} {a b : E} {x y : D} {t : Bool} (ha : EvD Γ a ρ x) (hb : EvD Γ b ρ y) (h : cmpO op x (.frz y) = some t) : EvD Γ (.cmp op a b) ρ (.bl t) := by
  obtain ⟨s, ea⟩ := ha
  obtain ⟨t', eb⟩ := hb
  refine ⟨none, ?_⟩
  rw [ev, bndE ea, bndE vw_frz, bndE eb]
  show bnd (lft (cmpO op x (.frz y))) _ ρ = _
  rw [h]; rfl
theorem ed_ife {t a b : E} {c : Bool} {d : D} (ht : EvB Γ t ρ c) (h : EvD Γ (if c = true then a else b) ρ d) : EvD Γ (.ife t a b) ρ d := by
  obtain ⟨s, e⟩ := h
  refine ⟨s, ?_⟩
  rw [ev, bndE ht]
  cases c <;> exact e
theorem ed_not {t : E} {c : Bool} (ht : EvB Γ t ρ c) : EvD Γ (.not t) ρ (.bl (!c)) := ⟨none, by rw [ev, bndE ht]; rfl⟩
theorem truth_ok {s : Option Nat} {d : D} {t : Bool} (h : truthD d = some t) : truth ⟨s, .frz d⟩ ρ = .ok t ρ := by
  show lft (truthD d) ρ = _
  rw [h]; rfl
theorem ed_and {a b : E} {t : Bool} {d x : D} (ha : EvD Γ a ρ x) (hx : truthD x = some t) (hb : t = true → EvD Γ b ρ d) (hd : t = false → d = x) : EvD Γ (.and a b) ρ d := by
  obtain ⟨s, ea⟩ := ha
  cases t with
  | true =>
    obtain ⟨s', eb⟩ := hb rfl
    refine ⟨s', ?_⟩
    rw [ev, bndE ea, bndE (truth_ok hx)]; exact eb
  | false =>
    cases hd rfl
    refine ⟨none, ?_⟩
    rw [ev, bndE ea, bndE (truth_ok hx)]; rfl
theorem ed_or {a b : E} {t : Bool} {d x : D} (ha : EvD Γ a ρ x) (hx : truthD x = some t) (hb : t = false → EvD Γ b ρ d) (hd : t = true → d = x) : EvD Γ (.or a b) ρ d := by
  obtain ⟨s, ea⟩ := ha
  cases t with
  | false =>
    obtain ⟨s', eb⟩ := hb rfl
    refine ⟨s', ?_⟩
    rw [ev, bndE ea, bndE (truth_ok hx)]; exact eb
  | true =>
    cases hd rfl
    refine ⟨none, ?_⟩
    rw [ev, bndE ea, bndE (truth_ok hx)]; rfl
theorem ed_isa {a : E} {ts : List T} {d : D} {t : Bool} (ha : EvD Γ a ρ d) (h : isaD Γ.cls d ts = some t) : EvD Γ (.isa a ts) ρ (.bl t) := by
  obtain ⟨s, ea⟩ := ha
  refine ⟨none, ?_⟩
  rw [ev, bndE ea, bndE vw_frz, h]; rfl
theorem es_nil : EvDs Γ [] ρ [] := by unfold EvDs; rw [evs]; rfl
theorem es_cons {e : E} {es : List E} {d : D} {ds : List D} (h : EvD Γ e ρ d) (t : EvDs Γ es ρ ds) : EvDs Γ (e :: es) ρ (d :: ds) := by
  obtain ⟨s, e1⟩ := h
  unfold EvDs at t ⊢
  rw [evs, bndE e1, bndE esc_frz, bndE t]; rfl
theorem vs_nil : EvVs Γ [] ρ [] := by unfold EvVs; rw [evv]; rfl
theorem vs_cons {e : E} {es : List E} {d : D} {ds : List D} (h : EvD Γ e ρ d) (t : EvVs Γ es ρ ds) : EvVs Γ (e :: es) ρ (d :: ds) := by
  obtain ⟨s, e1⟩ := h
  unfold EvVs at t ⊢
  rw [evv, bndE e1, bndE vw_frz, bndE t]; rfl
theorem ed_tup {es : List E} {ds : List D} (h : EvDs Γ es ρ ds) (hl : ds.length ≤ lineN) : EvD Γ (.tup es) ρ (.tup ds) := ⟨none, by
  rw [ev, bndE h, if_pos hl]; rfl⟩
theorem ed_bi {b : B} {es : List E} {ds : List D} {r : D} (hb : b.esc = false) (h : EvVs Γ es ρ ds) (hr : biD b ds = some (.frz r)) : EvD Γ (.bi b es) ρ r := ⟨none, by
  rw [ev, if_neg (by rw [hb]; decide), bndE h, hr]; rfl⟩
theorem ed_me {m : Mt} {a : E} {es : List E} {x r : D} {ds : List D} (ha : EvD Γ a ρ x) (h : EvVs Γ es ρ ds) (hr : meD m x ds = some (.frz r)) : EvD Γ (.me m a es) ρ r := by
  obtain ⟨s, ea⟩ := ha
  refine ⟨none, ?_⟩
  rw [ev, bndE ea, bndE vw_frz, bndE h, hr]; rfl
theorem backP_envOf {own : Option (List Nat)} : ({ ρ with pen := backP own ρ (envOf own ρ) } : Env) = ρ := by cases own <;> rfl
theorem ed_call {g : Nat} {es : List E} {ds : List D} {fn : Fn} {r : D} (hf : Γ.fn g = some fn) (h : EvDs Γ es ρ ds) (F : Fp fn ds r) : EvD Γ (.call g es) ρ r := by
  refine ⟨none, ?_⟩
  rw [ev, bndE h, hf, callFn_ok (F _), backP_envOf]
theorem eb_tv {a : E} {d : D} {t : Bool} (ha : EvD Γ a ρ d) (h : truthD d = some t) : EvB Γ (.tv a) ρ t := by
  obtain ⟨s, ea⟩ := ha
  unfold EvB
  rw [evT, bndE ea, truth_ok h]
theorem eb_cmp {op : CmpOp} {a b : E} {x y : D} {t : Bool} (ha : EvD Γ a ρ x) (hb : EvD Γ b ρ y) (h : cmpO op x (.frz y) = some t) : EvB Γ (.tv (.cmp op a b)) ρ t := eb_tv (ed_cmp ha hb h) rfl
theorem eb_not {t : E} {c : Bool} (h : EvB Γ t ρ c) : EvB Γ (.tnot t) ρ (!c) := by
  unfold EvB at h ⊢
  rw [evT, bndE h]; rfl
theorem eb_and {s t : E} {c d r : Bool} (h : EvB Γ s ρ c) (k : c = true → EvB Γ t ρ d) (e : (c && d) = r) : EvB Γ (.tand s t) ρ r := by
  unfold EvB at h ⊢
  rw [evT, bndE h]
  cases c with
  | true => rw [← e]; exact k rfl
  | false => rw [← e]; rfl
theorem eb_or {s t : E} {c d r : Bool} (h : EvB Γ s ρ c) (k : c = false → EvB Γ t ρ d) (e : (c || d) = r) : EvB Γ (.tor s t) ρ r := by
  unfold EvB at h ⊢
  rw [evT, bndE h]
  cases c with
  | false => rw [← e]; exact k rfl
  | true => rw [← e]; rfl
/-! ### texts -/
theorem ss_ret {e : E} {ss : List S} {d : D} (h : EvD Γ e ρ d) : evSs Γ (.ret e :: ss) ρ = .ok (.ret d) ρ := by
  obtain ⟨s, e1⟩ := h
  rw [evSs, evS]
  unfold seqF
  rw [bndE (show bnd (ev Γ e) (fun x => bnd (esc x) fun d => DL.ret (Fl.ret d)) ρ = .ok (.ret d) ρ by rw [bndE e1, bndE esc_frz]; rfl)]
  rfl
theorem ss_set {i : Nat} {e : E} {ss : List S} {d : D} (h : EvD Γ e ρ d) : evSs Γ (.set i e :: ss) ρ = evSs Γ ss (ρ.set i (some (.frz d))) := by
  obtain ⟨s, e1⟩ := h
  rw [evSs, evS]
  unfold seqF
  rw [bndE (show bnd (ev Γ e) (fun x => bnd (keep x) fun o => setO i o) ρ = .ok .nx (ρ.set i (some (.frz d))) by rw [bndE e1, bndE keep_frz]; rfl)]
theorem getLast_app {sl : List (Option O)} {o : Option O} : (sl ++ [o]).getLast? = some o := by simp
theorem ss_par {i j : Nat} {a b : E} {ss : List S} {x y : D} (h : EvD Γ a ρ x) (k : EvD Γ b ⟨ρ.sl ++ [some (.frz x)], ρ.pen⟩ y) : evSs Γ (.par i j a b :: ss) ρ = evSs Γ ss ((ρ.set i (some (.frz x))).set j (some (.frz y))) := by
  obtain ⟨s, e1⟩ := h
  obtain ⟨t, e2⟩ := k
  rw [evSs, evS]
  unfold seqF
  rw [bndE (a := .nx) (ρ' := (ρ.set i (some (.frz x))).set j (some (.frz y)))]
  rw [bndE e1, bndE keep_frz, bndE (show push (.frz x) ρ = .ok () ⟨ρ.sl ++ [some (.frz x)], ρ.pen⟩ from rfl), bndE e2, bndE keep_frz, bndE (show popL ⟨ρ.sl ++ [some (.frz x)], ρ.pen⟩ = .ok (.frz x) ρ by
    unfold popL
    simp only [getLast_app, List.dropLast_concat])]
  rfl
theorem ss_if_ret {t : E} {a b ss : List S} {d : D} (h : EvB Γ t ρ true) (k : evSs Γ a ρ = .ok (.ret d) ρ) : evSs Γ (.iff t a b :: ss) ρ = .ok (.ret d) ρ := by
  rw [evSs, evS]
  unfold seqF
  rw [bndE (a := .ret d) (ρ' := ρ)]
  · rfl
  · rw [bndE h, if_pos rfl, k]
theorem ss_if_no {t : E} {a ss : List S} (h : EvB Γ t ρ false) : evSs Γ (.iff t a [] :: ss) ρ = evSs Γ ss ρ := by
  rw [evSs, evS]
  unfold seqF
  rw [bndE (a := .nx) (ρ' := ρ)]
  rw [bndE h, if_neg (by decide), evSs]; rfl
/-- a def's worth -/
theorem fp_of {np n : Nat} {body : List S} {ds : List D} {r : D} (hl : ds.length = np) (h : ∀ p, ∃ sl, evSs Γ body ⟨ds.map (fun d => some (.frz d)) ++ List.replicate (n - ds.length) none, p⟩ = .ok (.ret r) ⟨sl, p⟩) : Fp (defFn Γ np n body) ds r := fun p => by
  obtain ⟨sl, e⟩ := h p
  unfold defFn runDef
  rw [if_pos hl, e]
end DL
namespace DL
open PySem
structure Inv (k : Nat) (p : Pen) : Prop where
  a0 : 0 ≤ p.at_
  d0 : 0 ≤ p.digits
  f0 : 0 ≤ p.fold
  f1 : p.fold < 2147483549
  c0 : 0 ≤ p.count
  c1 : p.count ≤ k
theorem Inv.mono {j k : Nat} {p : Pen} (I : Inv j p) (h : j ≤ k) : Inv k p := ⟨I.a0, I.d0, I.f0, I.f1, I.c0, by have := I.c1; omega⟩
theorem Inv.env {k : Nat} {ρ : Env} {own : Option (List Nat)} (I : Inv k ρ.pen) : Inv k (envOf own ρ) := by cases own <;> exact ⟨I.a0, I.d0, I.f0, I.f1, I.c0, I.c1⟩
theorem Inv.back {k : Nat} {ρ : Env} {p : Pen} {own : Option (List Nat)} (I : Inv k p) : Inv k (backP own ρ p) := by cases own <;> exact ⟨I.a0, I.d0, I.f0, I.f1, I.c0, I.c1⟩
/-- within a thousand draws and c more: what comes back -/
def Spec (fn : Fn) (ds : List D) (c : Nat) (R : D → Prop) : Prop := ∀ k p, k + c ≤ 1000000 → Inv k p → ∃ d p', fn ds p = .ok d p' ∧ Inv (k + c) p' ∧ R d
theorem Spec.mono {fn : Fn} {ds : List D} {c c' : Nat} {R R' : D → Prop} (S : Spec fn ds c R) (h : c ≤ c') (r : ∀ d, R d → R' d) : Spec fn ds c' R' := fun k p hk I => by
  obtain ⟨d, p', e, I', q⟩ := S k p (by omega) I
  exact ⟨d, p', e, I'.mono (by omega), r _ q⟩
theorem spec_of {Γ : Gam} {np n : Nat} {body : List S} {ds : List D} {c : Nat} {R : D → Prop} (hl : ds.length = np)
    (h : ∀ k p, k + c ≤ 1000000 → Inv k p → Ok (evSs Γ body) ⟨ds.map (fun d => some (.frz d)) ++ List.replicate (n - ds.length) none, p⟩ (fun f ρ' => ∃ d, f = .ret d ∧ Inv (k + c) ρ'.pen ∧ R d)) : Spec (defFn Γ np n body) ds c R := fun k p hk I => by
  obtain ⟨f, ρ', e, d, rfl, I', r⟩ := h k p hk I
  refine ⟨d, ρ'.pen, ?_, I', r⟩
  unfold defFn runDef
  rw [if_pos hl, e]
section
variable {Γ : Gam} {ρ : Env}
/-- an expression that draws -/
def EvR (Γ : Gam) (k c : Nat) (e : E) (ρ : Env) (R : D → Prop) : Prop := ∃ s d p', ev Γ e ρ = .ok ⟨s, .frz d⟩ ⟨ρ.sl, p'⟩ ∧ Inv (k + c) p' ∧ R d
theorem er_d {k : Nat} {e : E} {d : D} (h : EvD Γ e ρ d) (I : Inv k ρ.pen) : EvR Γ k 0 e ρ (· = d) := by
  obtain ⟨s, e1⟩ := h
  exact ⟨s, d, ρ.pen, e1, I, rfl⟩
theorem er_call {g : Nat} {es : List E} {ds : List D} {fn : Fn} {k c : Nat} {R : D → Prop} (hf : Γ.fn g = some fn) (h : EvDs Γ es ρ ds) (F : Spec fn ds c R) (hk : k + c ≤ 1000000) (I : Inv k ρ.pen) : EvR Γ k c (.call g es) ρ R := by
  obtain ⟨d, p', e, I', r⟩ := F k (envOf Γ.own ρ) hk I.env
  refine ⟨none, d, backP Γ.own ρ p', ?_, I'.back, r⟩
  rw [ev, bndE h, hf, callFn_ok e]
theorem ok_ret {k c : Nat} {e : E} {ss : List S} {R : D → Prop} (h : EvR Γ k c e ρ R) : Ok (evSs Γ (.ret e :: ss)) ρ (fun f ρ' => ∃ d, f = .ret d ∧ Inv (k + c) ρ'.pen ∧ R d) := by
  obtain ⟨s, d, p', e1, I, r⟩ := h
  refine ⟨.ret d, ⟨ρ.sl, p'⟩, ?_, d, rfl, I, r⟩
  rw [evSs, evS]
  unfold seqF
  rw [bndE (show bnd (ev Γ e) (fun x => bnd (esc x) fun d => DL.ret (Fl.ret d)) ρ = .ok (.ret d) ⟨ρ.sl, p'⟩ by rw [bndE e1, bndE esc_frz]; rfl)]
  rfl
theorem ok_set {i k c : Nat} {e : E} {ss : List S} {R : D → Prop} {Q : Fl → Env → Prop} (h : EvR Γ k c e ρ R) (q : ∀ d p', R d → Inv (k + c) p' → Ok (evSs Γ ss) (⟨ρ.sl.set i (some (.frz d)), p'⟩) Q) : Ok (evSs Γ (.set i e :: ss)) ρ Q := by
  obtain ⟨s, d, p', e1, I, r⟩ := h
  obtain ⟨a, ρ'', e2, z⟩ := q d p' r I
  refine ⟨a, ρ'', ?_, z⟩
  rw [evSs, evS]
  unfold seqF
  rw [bndE (show bnd (ev Γ e) (fun x => bnd (keep x) fun o => setO i o) ρ = .ok .nx ⟨ρ.sl.set i (some (.frz d)), p'⟩ by rw [bndE e1, bndE keep_frz]; rfl)]
  exact e2
theorem ok_par {i j k c c' : Nat} {a b : E} {ss : List S} {R : D → Prop} {R' : D → D → Prop} {Q : Fl → Env → Prop} (h : EvR Γ k c a ρ R) (h' : ∀ x p', R x → Inv (k + c) p' → EvR Γ (k + c) c' b ⟨ρ.sl ++ [some (.frz x)], p'⟩ (R' x))
    (q : ∀ x y p', R x → R' x y → Inv (k + c + c') p' → Ok (evSs Γ ss) ⟨(ρ.sl.set i (some (.frz x))).set j (some (.frz y)), p'⟩ Q) : Ok (evSs Γ (.par i j a b :: ss)) ρ Q := by
  obtain ⟨s, x, p', e1, I, r⟩ := h
  obtain ⟨t, y, p'', e2, I2, r2⟩ := h' x p' r I
  obtain ⟨u, ρ3, e3, z⟩ := q x y p'' r r2 I2
  refine ⟨u, ρ3, ?_, z⟩
  rw [evSs, evS]
  unfold seqF
  rw [bndE (a := .nx) (ρ' := ⟨(ρ.sl.set i (some (.frz x))).set j (some (.frz y)), p''⟩)]
  · exact e3
  · rw [bndE e1, bndE keep_frz, bndE (show push (.frz x) ⟨ρ.sl, p'⟩ = .ok () ⟨ρ.sl ++ [some (.frz x)], p'⟩ from rfl), bndE e2, bndE keep_frz, bndE (show popL ⟨ρ.sl ++ [some (.frz x)], p''⟩ = .ok (.frz x) ⟨ρ.sl, p''⟩ by
      unfold popL
      simp only [getLast_app, List.dropLast_concat])]
    rfl
theorem ok_pure {m : M Fl} {Q : Fl → Env → Prop} {m' : M Fl} {ρ' : Env} (e : m ρ = m' ρ') (h : Ok m' ρ' Q) : Ok m ρ Q := by
  obtain ⟨a, σ, e1, q⟩ := h
  exact ⟨a, σ, e.trans e1, q⟩
/-- a branch, then the rest -/
theorem ok_iff {t : E} {a b ss : List S} {c : Bool} {Q : Fl → Env → Prop} (h : EvB Γ t ρ c) (k : Ok (seqF (evSs Γ (if c = true then a else b)) (evSs Γ ss)) ρ Q) : Ok (evSs Γ (.iff t a b :: ss)) ρ Q := by
  obtain ⟨u, σ, e, q⟩ := k
  refine ⟨u, σ, ?_, q⟩
  rw [evSs, evS]
  unfold seqF at e ⊢
  rw [← e]
  unfold bnd
  rw [show evT Γ t ρ = .ok c ρ from h]
  cases c <;> rfl
theorem ok_ifR {t : E} {a b ss : List S} {c : Bool} {k c' : Nat} {Q : Fl → Env → Prop} (h : ∃ p', evT Γ t ρ = .ok c ⟨ρ.sl, p'⟩ ∧ Inv (k + c') p') (q : ∀ p', Inv (k + c') p' → Ok (seqF (evSs Γ (if c = true then a else b)) (evSs Γ ss)) ⟨ρ.sl, p'⟩ Q) : Ok (evSs Γ (.iff t a b :: ss)) ρ Q := by
  obtain ⟨p', e1, I⟩ := h
  obtain ⟨u, σ, e, z⟩ := q p' I
  refine ⟨u, σ, ?_, z⟩
  rw [evSs, evS]
  unfold seqF at e ⊢
  rw [← e]
  unfold bnd
  rw [e1]
  cases c <;> rfl
theorem ok_nil {Q : Fl → Env → Prop} (h : Q .nx ρ) : Ok (evSs Γ []) ρ Q := ⟨_, _, by rw [evSs]; rfl, h⟩
/-- a return within a branch -/
theorem ok_seq_ret {m n : M Fl} {Q : Fl → Env → Prop} (h : Ok m ρ (fun f ρ' => (∃ d, f = .ret d) ∧ Q f ρ')) : Ok (seqF m n) ρ Q := by
  obtain ⟨a, ρ', e, ⟨d, rfl⟩, q⟩ := h
  exact ⟨.ret d, ρ', by unfold seqF; rw [bndE e]; rfl, q⟩
end
end DL
namespace DL
open PySem
variable {Γ : Gam} {ρ : Env}
theorem isPenE {i : Nat} (h : ρ.sl[i]? = some (some (.frz .pen))) : isPen i ρ = .ok ρ.pen ρ := by unfold isPen; rw [h]
theorem ed_pget {i : Nat} {f : PF} (h : ρ.sl[i]? = some (some (.frz .pen))) : EvD Γ (.pget i f) ρ (.int (penGet ρ.pen f)) := ⟨none, by rw [ev, bndE (isPenE h)]; rfl⟩
theorem ed_plen {i : Nat} (h : ρ.sl[i]? = some (some (.frz .pen))) : EvD Γ (.plen i) ρ (.int ρ.pen.cells.length) := ⟨none, by rw [ev, bndE (isPenE h)]; rfl⟩
theorem ed_pcell {i : Nat} {a : E} {k c : Int} (h : ρ.sl[i]? = some (some (.frz .pen))) (ha : EvD Γ a ρ (.int k)) (hc : L2.atI ρ.pen.cells k = some c) : EvD Γ (.pcell i a) ρ (.int c) := by
  obtain ⟨s, ea⟩ := ha
  exact ⟨none, by rw [ev, bndE (isPenE h), bndE ea, bndE vInt_frz, hc]; rfl⟩
theorem ss_pst {i : Nat} {f : PF} {e : E} {k : Int} {ss : List S} (h : ρ.sl[i]? = some (some (.frz .pen))) (he : EvD Γ e ρ (.int k)) : evSs Γ (.pst i f e :: ss) ρ = evSs Γ ss ⟨ρ.sl, penSet ρ.pen f k⟩ := by
  obtain ⟨s, e1⟩ := he
  rw [evSs, evS]
  unfold seqF
  rw [bndE (a := .nx) (ρ' := ⟨ρ.sl, penSet ρ.pen f k⟩)]
  rw [bndE e1, bndE vInt_frz, bndE (isPenE h)]
theorem c_eq {i j : Int} : cmpO .Eq (.int i) (.frz (.int j)) = some (decide (i = j)) := by
  show (if okEq (.int i) && okEq (.int j) then some (PyData.eqv (PyData.int i) (PyData.int j)) else none) = _
  have h : ∀ i : Int, okEq (.int i) = true := fun i => rfl
  rw [h, h]
  simp [PyData.eqv]
  rfl
theorem c_ne {i j : Int} : cmpO .NotEq (.int i) (.frz (.int j)) = some (!decide (i = j)) := by
  show (if okEq (.int i) && okEq (.int j) then some (!PyData.eqv (PyData.int i) (PyData.int j)) else none) = _
  have h : ∀ i : Int, okEq (.int i) = true := fun i => rfl
  rw [h, h]
  simp [PyData.eqv]
  rfl
theorem c_lt {i j : Int} : cmpO .Lt (.int i) (.frz (.int j)) = some (decide (i < j)) := rfl
theorem c_gt {i j : Int} : cmpO .Gt (.int i) (.frz (.int j)) = some (decide (j < i)) := rfl
theorem c_ge {i j : Int} : cmpO .GtE (.int i) (.frz (.int j)) = some (decide (j ≤ i)) := rfl
theorem pow_ok {i : Int} {n : Nat} (h : small64 i = true) (hn : n ≤ 1000000) : binD .Pow (.int i) (.int n) = some (.frz (.int (i ^ n))) := by
  show (if (0 : Int) ≤ (n : Int) ∧ (n : Int) ≤ 1000000 ∧ small64 i = true then some (O.frz (.int (i ^ (n : Int).toNat))) else none) = _
  rw [if_pos ⟨by omega, by omega, h⟩]
  rfl
theorem ed_pow {a : E} {i : Int} {n : Nat} (ha : EvD Γ a ρ (.int i)) (h : small64 i = true) (hn : n ≤ 1000000) : EvD Γ (.bin .Pow a (.c (.int n))) ρ (.int (i ^ n)) := ed_bin ha ed_ci (pow_ok h hn)
theorem ed_int {a : E} {i : Int} (ha : EvD Γ a ρ (.int i)) : EvD Γ (.bi .int [a]) ρ (.int i) := ed_bi rfl (vs_cons ha vs_nil) rfl
theorem ed_mulc {a : E} {i : Int} {j : Int} (ha : EvD Γ a ρ (.int i)) (h : small64 j = true) : EvD Γ (.bin .Mult a (.c (.int j))) ρ (.int (i * j)) := ed_bin ha ed_ci (by
  show (if small64 i || small64 j || (intOk i && intOk j) then _ else _) = _
  rw [h, Bool.or_true]; rfl)
theorem small_of {i : Int} (h : i.natAbs < 2 ^ 64) : small64 i = true := decide_eq_true h
theorem ed_fdivc {a : E} {i j : Int} (ha : EvD Γ a ρ (.int i)) (h : j ≠ 0) (h2 : j.natAbs < 2 ^ 30) : EvD Γ (.bin .FloorDiv a (.c (.int j))) ρ (.int (i.fdiv j)) := ed_fdiv ha ed_ci h h2
theorem fmod_lt {i j : Int} (h : 0 < j) : 0 ≤ i.fmod j ∧ i.fmod j < j := ⟨Int.fmod_nonneg_of_pos i h, Int.fmod_lt_of_pos i h⟩
theorem fdiv_nn {i j : Int} (h : 0 ≤ i) (hj : 0 ≤ j) : 0 ≤ i.fdiv j := Int.fdiv_nonneg h hj
end DL
namespace DL
open PySem
variable {Γ : Gam} {ρ : Env}
/-- an expression that changes nothing, handed on -/
def EvX (Γ : Gam) (e : E) (ρ : Env) (d : D) : Prop := bnd (ev Γ e) esc ρ = .ok d ρ
theorem ex_d {e : E} {d : D} (h : EvD Γ e ρ d) : EvX Γ e ρ d := by
  obtain ⟨s, e1⟩ := h
  unfold EvX
  rw [bndE e1, esc_frz]
theorem frzs_t : ∀ ds : List D, O.hasTs (ds.map O.frz) = false
  | [] => rfl
  | d :: ds => by rw [List.map_cons, O.hasTs, frzs_t ds]; rfl
theorem frzs_d : ∀ ds : List D, O.ds (ds.map O.frz) = ds
  | [] => rfl
  | d :: ds => by rw [List.map_cons, O.ds, frzs_d ds]; rfl
theorem esc_own {ds : List D} : esc ⟨none, .own (ds.map O.frz)⟩ ρ = .ok (.lst ds) ρ := by
  show (if O.hasTs (ds.map O.frz) = true then _ else Res.ok (D.lst (O.ds (ds.map O.frz))) ρ) = _
  rw [frzs_t, if_neg (by decide), frzs_d]
theorem ex_lst {es : List E} {ds : List D} (h : EvDs Γ es ρ ds) (hl : ds.length ≤ lineN) : EvX Γ (.lst es) ρ (.lst ds) := by
  unfold EvX
  rw [bndE (a := ⟨none, .own (ds.map O.frz)⟩) (ρ' := ρ), esc_own]
  rw [ev, bndE h, if_pos hl]; rfl
theorem bndL {α β γ : Type} {m : M α} {f : α → M β} {g : β → M γ} : bnd m (fun x => bnd (f x) g) ρ = bnd (bnd m f) g ρ := by
  unfold bnd
  cases m ρ <;> rfl
theorem es_consX {e : E} {es : List E} {d : D} {ds : List D} (h : EvX Γ e ρ d) (t : EvDs Γ es ρ ds) : EvDs Γ (e :: es) ρ (d :: ds) := by
  unfold EvX at h
  unfold EvDs at t ⊢
  rw [evs, bndL, bndE h, bndE t]; rfl
/-- expressions, the last of which draws -/
def EvRs (Γ : Gam) (k c : Nat) (es : List E) (ρ : Env) (R : List D → Prop) : Prop := ∃ ds p', evs Γ es ρ = .ok ds ⟨ρ.sl, p'⟩ ∧ Inv (k + c) p' ∧ R ds
theorem rs_one {k c : Nat} {e : E} {R : D → Prop} (h : EvR Γ k c e ρ R) : EvRs Γ k c [e] ρ (fun ds => ∃ d, ds = [d] ∧ R d) := by
  obtain ⟨s, d, p', e1, I, r⟩ := h
  refine ⟨[d], p', ?_, I, d, rfl, r⟩
  rw [evs, bndE e1, bndE esc_frz, bndE (show evs Γ [] ⟨ρ.sl, p'⟩ = .ok [] ⟨ρ.sl, p'⟩ from es_nil)]; rfl
theorem rs_cons {k c : Nat} {e : E} {es : List E} {d : D} {R : List D → Prop} (h : EvX Γ e ρ d) (t : EvRs Γ k c es ρ R) : EvRs Γ k c (e :: es) ρ (fun ds => ∃ ds', ds = d :: ds' ∧ R ds') := by
  obtain ⟨ds, p', e1, I, r⟩ := t
  refine ⟨d :: ds, p', ?_, I, ds, rfl, r⟩
  unfold EvX at h
  rw [evs, bndL, bndE h, bndE e1]; rfl
/-- a call whose arguments draw -/
theorem er_callR {g : Nat} {es : List E} {fn : Fn} {k c c' : Nat} {R : List D → Prop} {R' : D → Prop} (hf : Γ.fn g = some fn) (h : EvRs Γ k c es ρ R) (F : ∀ ds, R ds → Spec fn ds c' R') (hk : k + c + c' ≤ 1000000) : EvR Γ k (c + c') (.call g es) ρ R' := by
  obtain ⟨ds, p1, e1, I, r⟩ := h
  obtain ⟨d, p', e, I', r'⟩ := F ds r (k + c) (envOf Γ.own ⟨ρ.sl, p1⟩) hk I.env
  refine ⟨none, d, backP Γ.own ⟨ρ.sl, p1⟩ p', ?_, by rw [← Nat.add_assoc]; exact I'.back, r'⟩
  rw [ev, bndE e1, hf, callFn_ok e]
theorem er_mono {k c c' : Nat} {e : E} {R R' : D → Prop} (h : EvR Γ k c e ρ R) (hc : c ≤ c') (r : ∀ d, R d → R' d) : EvR Γ k c' e ρ R' := by
  obtain ⟨s, d, p', e1, I, q⟩ := h
  exact ⟨s, d, p', e1, I.mono (by omega), r _ q⟩
theorem fp_spec {fn : Fn} {ds : List D} {r : D} (h : Fp fn ds r) : Spec fn ds 0 (· = r) := fun k p _ I => ⟨r, p, h p, I, rfl⟩
theorem er_v1 {i k c : Nat} {a : E} {x : D} {R : D → Prop} (h : ρ.sl[i]? = some (some (.frz x))) (ha : EvR Γ k c a ρ (fun d => ∃ j e, d = .int j ∧ ixD x j = some e ∧ R e)) : EvR Γ k c (.v1 i a) ρ R := by
  obtain ⟨s, d, p', e1, I, j, e, rfl, hx, r⟩ := ha
  refine ⟨some i, e, p', ?_, I, r⟩
  rw [ev, bndE (rd_ok h), bndE e1, bndE vInt_frz, bndE (rd_ok (ρ := ⟨ρ.sl, p'⟩) h)]
  show lft (((ixD x j).map O.frz).map fun o => (⟨some i, o⟩ : Val)) _ = _
  rw [hx]; rfl
theorem er_sub {k c : Nat} {a b : E} {j : Int} {R : D → Prop} (ha : EvR Γ k c a ρ (fun d => ∃ i : Int, d = .int i ∧ R (.int (i - j)))) (hb : ∀ p, EvD Γ b ⟨ρ.sl, p⟩ (.int j)) : EvR Γ k c (.bin .Sub a b) ρ R := by
  obtain ⟨s, d, p', e1, I, i, rfl, r⟩ := ha
  obtain ⟨t, e2⟩ := hb p'
  refine ⟨none, _, p', ?_, I, r⟩
  rw [ev, bndE e1, bndE esc_frz, bndE e2, bndE esc_frz]; rfl
def DrawF (fn : Fn) : Prop := ∀ m : Int, 0 < m → m < 2 ^ 30 → Spec fn [.pen, .int m] 1 (fun d => ∃ i : Int, d = .int i ∧ 0 ≤ i ∧ i < m)
def PickF (fn : Fn) : Prop := ∀ xs : List D, xs ≠ [] → xs.length < 2 ^ 30 → Spec fn [.pen, .lst xs] 1 (· ∈ xs)
end DL
namespace DL
open PySem
/-- the drawing def, its numbers open -/
def drawBody (c1 c2 c3 c4 m2 : Int) (e : Nat) (m3 : Int) : List S := [
  .pst 0 .count (.bin .Add (.pget 0 .count) (.c (.int 1))),
  .iff (.tand (.tv (.cmp .Eq (.pget 0 .digits) (.c (.int 0)))) (.tv (.cmp .Lt (.pget 0 .at_) (.plen 0)))) [.set 3 (.pcell 0 (.pget 0 .at_)), .pst 0 .at_ (.bin .Add (.pget 0 .at_) (.c (.int 1))), .iff (.tv (.cmp .GtE (.v 3) (.bin .Pow (.c (.int 10)) (.c (.int 18))))) [.pst 0 .digits (.bin .Sub (.v 3) (.bin .Pow (.c (.int 10)) (.c (.int 18))))] [.pst 0 .fold (.bin .Mod (.bi .int [.bin .Add (.bin .Mult (.pget 0 .fold) (.c (.int c1))) (.v 3)]) (.c (.int c2)))]] [],
  .iff (.tv (.cmp .Gt (.pget 0 .digits) (.c (.int 0)))) [.set 4 (.bin .Mod (.bi .int [.pget 0 .digits]) (.v 1)), .pst 0 .digits (.bin .FloorDiv (.pget 0 .digits) (.v 1)), .ret (.v 4)] [],
  .set 2 (.bin .Add (.bin .Add (.pget 0 .fold) (.bin .Mult (.pget 0 .count) (.c (.int c3)))) (.c (.int c4))),
  .ret (.bin .Mod (.bin .FloorDiv (.bi .int [.bin .Mod (.bin .Pow (.v 2) (.c (.int e))) (.c (.int m2))]) (.c (.int m3))) (.v 1))]
structure DrawC (c1 c2 c3 c4 m2 : Int) (e : Nat) (m3 : Int) : Prop where
  h1 : small64 c1 = true
  h2 : 0 < c2 ∧ c2 ≤ 2147483549
  h3 : 0 ≤ c3 ∧ c3 < 2 ^ 20
  h4 : 0 ≤ c4 ∧ c4 < 2 ^ 20
  h5 : e ≤ 1000000
  h6 : m2 ≠ 0
  h7 : m3 ≠ 0 ∧ m3.natAbs < 2 ^ 30
section
variable {c1 c2 c3 c4 m2 m3 : Int} {e : Nat}
theorem draw_tail (C : DrawC c1 c2 c3 c4 m2 e m3) {Γ : Gam} {m : Int} (h0 : 0 < m) (h1 : m < 2 ^ 30) {s2 s3 s4 : Option O} {k : Nat} {p : Pen} (hk : k ≤ 1000000) (I : Inv k p) : Ok (evSs Γ ((drawBody c1 c2 c3 c4 m2 e m3).drop 2)) ⟨[some (.frz .pen), some (.frz (.int m)), s2, s3, s4], p⟩ (fun f ρ' => ∃ d, f = .ret d ∧ Inv k ρ'.pen ∧ ∃ i : Int, d = .int i ∧ 0 ≤ i ∧ i < m) := by
  have hm : m ≠ 0 := by omega
  have hm2 : m.natAbs < 2 ^ 30 := by omega
  refine ok_iff (c := decide (0 < p.digits)) (eb_cmp (ed_pget rfl) ed_ci c_gt) ?_
  by_cases hd : 0 < p.digits
  · rw [decide_eq_true hd]
    refine ok_seq_ret ?_
    refine ok_pure (ss_set (ed_mod (ed_int (ed_pget rfl)) (ed_v rfl) hm)) ?_
    refine ok_pure (ss_pst rfl (ed_fdiv (ed_pget rfl) (ed_v rfl) hm hm2)) ?_
    refine ⟨_, _, ss_ret (ed_v rfl), ⟨_, rfl⟩, _, rfl, ⟨I.a0, ?_, I.f0, I.f1, I.c0, I.c1⟩, _, rfl, fmod_lt h0⟩
    exact fdiv_nn I.d0 (by omega)
  · rw [decide_eq_false hd]
    refine ok_seq (ok_nil ⟨rfl, ?_⟩)
    refine ok_pure (ss_set (ed_add (ed_add (ed_pget rfl) (ed_mulc (ed_pget rfl) (small_of (by have := C.h3; omega)))) ed_ci)) ?_
    have hs : small64 (p.fold + p.count * c3 + c4) = true := small_of (by
      have := I.f0; have := I.f1; have := I.c0; have := I.c1; have := C.h3; have := C.h4
      have m1 : 0 ≤ p.count * c3 := Int.mul_nonneg I.c0 C.h3.1
      have m2 : p.count * c3 ≤ 1000000 * 2 ^ 20 := Int.mul_le_mul (by omega) (by omega) C.h3.1 (by decide)
      omega)
    refine ⟨_, _, ss_ret (ed_mod (ed_fdivc (ed_int (ed_mod (ed_pow (n := e) (ed_v rfl) hs C.h5) ed_ci C.h6)) C.h7.1 C.h7.2) (ed_v rfl) hm), _, rfl, I, _, rfl, fmod_lt h0⟩
theorem draw_spec (C : DrawC c1 c2 c3 c4 m2 e m3) {Γ : Gam} {m : Int} (h0 : 0 < m) (h1 : m < 2 ^ 30) : Spec (defFn Γ 2 5 (drawBody c1 c2 c3 c4 m2 e m3)) [.pen, .int m] 1 (fun d => ∃ i : Int, d = .int i ∧ 0 ≤ i ∧ i < m) := by
  refine spec_of rfl fun k p hk I => ?_
  refine ok_pure (ss_pst rfl (ed_add (ed_pget rfl) ed_ci)) ?_
  have I1 : Inv (k + 1) (penSet p .count (p.count + 1)) := ⟨I.a0, I.d0, I.f0, I.f1, by have := I.c0; show 0 ≤ p.count + 1; omega, by have := I.c1; show p.count + 1 ≤ ((k + 1 : Nat) : Int); omega⟩
  refine ok_iff (c := decide (p.digits = 0) && decide (p.at_ < p.cells.length)) (eb_and (eb_cmp (ed_pget rfl) ed_ci c_eq) (fun _ => eb_cmp (ed_pget rfl) (ed_plen rfl) c_lt) rfl) ?_
  by_cases hc : p.digits = 0 ∧ p.at_ < p.cells.length
  · rw [decide_eq_true hc.1, decide_eq_true hc.2]
    have ha := I.a0
    obtain ⟨c, ec⟩ : ∃ c, L2.atI p.cells p.at_ = some c := by
      refine ⟨p.cells[p.at_.toNat]'(by omega), ?_⟩
      unfold L2.atI L2.ixN
      rw [if_pos ha, if_pos hc.2]
      show p.cells[p.at_.toNat]? = _
      exact List.getElem?_eq_getElem _
    refine ok_seq ?_
    refine ok_pure (ss_set (ed_pcell rfl (ed_pget rfl) ec)) ?_
    refine ok_pure (ss_pst rfl (ed_add (ed_pget rfl) ed_ci)) ?_
    refine ok_iff (c := decide (10 ^ 18 ≤ c)) (eb_cmp (ed_v rfl) (ed_pow (n := 18) ed_ci rfl (by decide)) c_ge) ?_
    by_cases hq : (10 : Int) ^ 18 ≤ c
    · rw [decide_eq_true hq]
      refine ok_seq (ok_pure (ss_pst rfl (ed_sub (ed_v rfl) (ed_pow (n := 18) ed_ci rfl (by decide)))) (ok_nil ⟨rfl, ok_nil ⟨rfl, ?_⟩⟩))
      exact draw_tail C h0 h1 hk ⟨by show 0 ≤ p.at_ + 1; omega, by show (0 : Int) ≤ c - 10 ^ 18; omega, I.f0, I.f1, I1.c0, I1.c1⟩
    · rw [decide_eq_false hq]
      refine ok_seq (ok_pure (ss_pst rfl (ed_mod (ed_int (ed_add (ed_mulc (ed_pget rfl) C.h1) (ed_v rfl))) ed_ci (by have := C.h2; omega))) (ok_nil ⟨rfl, ok_nil ⟨rfl, ?_⟩⟩))
      refine draw_tail C h0 h1 hk ⟨by show 0 ≤ p.at_ + 1; omega, I.d0, ?_, ?_, I1.c0, I1.c1⟩
      · exact (fmod_lt C.h2.1).1
      · exact Int.lt_of_lt_of_le (fmod_lt C.h2.1).2 C.h2.2
  · have : (decide (p.digits = 0) && decide (p.at_ < (p.cells.length : Int))) = false := by
      rw [Bool.and_eq_false_iff]
      by_cases h : p.digits = 0
      · exact .inr (decide_eq_false fun z => hc ⟨h, z⟩)
      · exact .inl (decide_eq_false h)
    rw [this]
    exact ok_seq (ok_nil ⟨rfl, draw_tail C h0 h1 hk I1⟩)
theorem drawF_of (C : DrawC c1 c2 c3 c4 m2 e m3) {Γ : Gam} : DrawF (defFn Γ 2 5 (drawBody c1 c2 c3 c4 m2 e m3)) := fun _ h0 h1 => draw_spec C h0 h1
end
def pickBody (g : Nat) : List S := [.ret (.v1 1 (.call g [.v 0, .bi .len [.v 1]]))]
theorem pickF_of {Γ : Gam} {g : Nat} {dr : Fn} (hf : Γ.fn g = some dr) (F : DrawF dr) : PickF (defFn Γ 2 2 (pickBody g)) := fun xs ne hl => by
  have hp : 0 < xs.length := List.length_pos_iff.mpr ne
  refine spec_of rfl fun k p hk I => ok_ret (er_v1 (i := 1) (x := .lst xs) rfl ?_)
  refine er_mono (er_call hf (es_cons (ed_v rfl) (es_cons (ed_bi rfl (vs_cons (ed_v rfl) vs_nil) rfl) es_nil)) (F (xs.length : Int) (by omega) (by omega)) hk I) (Nat.le_refl _) ?_
  rintro d ⟨i, rfl, h0, h1⟩
  have hi : i.toNat < xs.length := by omega
  refine ⟨i, xs[i.toNat], rfl, ?_, List.getElem_mem hi⟩
  show L2.atI xs i = _
  unfold L2.atI L2.ixN
  rw [if_pos h0, if_pos h1]
  show xs[i.toNat]? = _
  exact List.getElem?_eq_getElem _
end DL

set_option Elab.async false
set_option linter.all false
set_option maxRecDepth 100000
set_option maxHeartbeats 0
/-! PL2: plain rules: new things, comprehensions, what is walked. -/
namespace DL
open PySem
variable {Γ : Gam} {ρ : Env} {e : E} {es : List E} {d : D} {ds : List D} {o : O}
/-- the expression is worth the new thing o, and changes nothing -/
def EvN (Γ : Gam) (e : E) (ρ : Env) (o : O) : Prop := ev Γ e ρ = .ok ⟨none, o⟩ ρ
/-- what of it is kept, read -/
def EvO (Γ : Gam) (e : E) (ρ : Env) (o : O) : Prop := bnd (ev Γ e) keep ρ = .ok o ρ
def EvW (Γ : Gam) (e : E) (ρ : Env) (d : D) : Prop := bnd (ev Γ e) vw ρ = .ok d ρ
def EvL (Γ : Gam) (z : Bool) (e : E) (ρ : Env) (ds : List D) : Prop := bnd (ev Γ e) (elems z) ρ = .ok ds ρ
theorem eo_n (h : EvN Γ e ρ o) : EvO Γ e ρ o := by unfold EvO; rw [bndE h]; rfl
theorem eo_d (h : EvD Γ e ρ d) : EvO Γ e ρ (.frz d) := by
  obtain ⟨s, h⟩ := h
  unfold EvO; rw [bndE h, keep_frz]
theorem ew_n (h : EvN Γ e ρ o) (ht : o.hasT = false) : EvW Γ e ρ o.d := by
  unfold EvW; rw [bndE h]
  show (if o.hasT = true then _ else _ : M D) ρ = _
  rw [ht]; rfl
theorem ew_d (h : EvD Γ e ρ d) : EvW Γ e ρ d := by
  obtain ⟨s, h⟩ := h
  unfold EvW; rw [bndE h, vw_frz]
theorem ex_n (h : EvN Γ e ρ o) (ht : o.hasT = false) : EvX Γ e ρ o.d := by
  unfold EvX; rw [bndE h]
  cases o with
  | frz d => rfl
  | own os =>
    show (if O.hasT (.own os) = true then _ else _ : Res Env D) = _
    rw [ht]; rfl
  | ins g ns xs =>
    rfl
  | odt ks xs => simp [O.hasT] at ht
theorem en_lst (h : EvDs Γ es ρ ds) (hl : ds.length ≤ lineN) : EvN Γ (.lst es) ρ (.own (ds.map O.frz)) := by
  unfold EvN; rw [ev, bndE h, if_pos hl]; rfl
theorem allFrz_frz : ∀ ds : List D, allFrz (ds.map O.frz) = some ds
  | [] => rfl
  | d :: ds => by rw [List.map_cons, allFrz, allFrz_frz ds]; rfl
theorem own_hasT (ds : List D) : (O.own (ds.map O.frz)).hasT = false := by rw [O.hasT]; exact frzs_t ds
theorem own_d (ds : List D) : (O.own (ds.map O.frz)).d = .lst ds := by rw [O.d, frzs_d]
theorem ex_own (h : EvN Γ e ρ (.own (ds.map O.frz))) : EvX Γ e ρ (.lst ds) := by
  have := ex_n h (own_hasT ds)
  rwa [own_d] at this
theorem ew_own (h : EvN Γ e ρ (.own (ds.map O.frz))) : EvW Γ e ρ (.lst ds) := by
  have := ew_n h (own_hasT ds)
  rwa [own_d] at this
theorem ew_v {i : Nat} {o : O} (h : ρ.sl[i]? = some (some o)) (ht : o.hasT = false) : EvW Γ (.v i) ρ o.d := by
  unfold EvW; rw [ev, bndE (rd_ok h)]
  show (if o.hasT = true then _ else _ : M D) ρ = _
  rw [ht]; rfl
theorem vs_consW {e : E} {es : List E} {d : D} {ds : List D} (h : EvW Γ e ρ d) (t : EvVs Γ es ρ ds) : EvVs Γ (e :: es) ρ (d :: ds) := by
  unfold EvW at h
  unfold EvVs at t ⊢
  rw [evv, bndL, bndE h, bndE t]; rfl
theorem el_lst {z : Bool} (h : EvD Γ e ρ (.lst ds)) : EvL Γ z e ρ ds := by
  obtain ⟨s, h⟩ := h
  unfold EvL; rw [bndE h]; rfl
theorem el_tup {z : Bool} (h : EvD Γ e ρ (.tup ds)) : EvL Γ z e ρ ds := by
  obtain ⟨s, h⟩ := h
  unfold EvL; rw [bndE h]; rfl
theorem el_n {z : Bool} (h : EvN Γ e ρ (.own (ds.map O.frz))) : EvL Γ z e ρ ds := by
  have q := ex_own h
  unfold EvX at q
  unfold EvN at h
  rw [bndE h] at q
  unfold EvL
  rw [bndE h]
  cases z with
  | false =>
    show (match false, allFrz (ds.map O.frz) with | false, some ds => Res.ok ds ρ | _, _ => _) = _
    rw [allFrz_frz]
  | true =>
    show (match true, allFrz (ds.map O.frz) with | false, some ds => Res.ok ds ρ | _, _ => (match esc _ ρ with | .ok (.lst xs) ρ' => .ok xs ρ' | _ => .bad)) = _
    rw [allFrz_frz, q]
theorem el_v {i : Nat} (h : ρ.sl[i]? = some (some (.own (ds.map O.frz)))) : EvL Γ false (.v i) ρ ds := by
  unfold EvL; rw [ev, bndE (rd_ok h)]
  show (match false, allFrz (ds.map O.frz) with | false, some ds => Res.ok ds ρ | _, _ => _) = _
  rw [allFrz_frz]
theorem it_seq {z : Bool} (h : EvL Γ z e ρ ds) : evIt Γ z .seq [e] ρ = .ok ds ρ := by
  unfold EvL at h
  show bnd (evEl Γ z [e]) _ ρ = _
  rw [bndE (show evEl Γ z [e] ρ = .ok [ds] ρ by rw [evEl, bndL, bndE h]; rfl)]
  rfl
theorem it_rng {z two : Bool} {xs : List D} (h : EvVs Γ es ρ ds) (hx : rngD two ds = some xs) : evIt Γ z (.rng two) es ρ = .ok xs ρ := by
  show bnd (evv Γ es) _ ρ = _
  rw [bndE h, hx]; rfl
/-! ### slots wiped and put back -/
theorem qw_len (sl : List (Option O)) : ∀ own : List Nat, (wipeO sl own).length = sl.length
  | [] => rfl
  | v :: vs => by rw [wipeO, List.length_set, qw_len sl vs]
theorem qw_ne (sl : List (Option O)) : ∀ (own : List Nat) (j : Nat), j ∉ own → (wipeO sl own)[j]? = sl[j]?
  | [], j, _ => rfl
  | v :: vs, j, h => by
    rw [List.mem_cons, not_or] at h
    rw [wipeO, List.getElem?_set_ne (Ne.symm h.1), qw_ne sl vs j h.2]
theorem qw_app (sl X : List (Option O)) : ∀ own : List Nat, (∀ i ∈ own, i < sl.length) → wipeO (sl ++ X) own = wipeO sl own ++ X
  | [], _ => rfl
  | v :: vs, h => by
    rw [wipeO, wipeO, qw_app sl X vs (fun i hi => h i (List.mem_cons_of_mem _ hi)), List.set_append_left _ _ (by rw [qw_len]; exact h v (List.mem_cons_self ..))]
theorem qb_at : ∀ (is : List Nat) (os : List (Option O)) (sl : List (Option O)), is.Nodup → (∀ i ∈ is, i < sl.length) → is.length = os.length →
    (putBack sl is os).length = sl.length ∧ (∀ j, j ∉ is → (putBack sl is os)[j]? = sl[j]?) ∧ ∀ (k : Nat) (i : Nat) (o : Option O), is[k]? = some i → os[k]? = some o → (putBack sl is os)[i]? = some o
  | [], os, sl, _, _, _ => by
    cases os <;> exact ⟨rfl, fun _ _ => rfl, fun k i o h => by simp at h⟩
  | i :: is, [], sl, _, _, h => by cases h
  | i :: is, o :: os, sl, nd, lt, hl => by
    rw [List.nodup_cons] at nd
    obtain ⟨h1, h2, h3⟩ := qb_at is os (sl.set i o) nd.2 (fun j hj => by rw [List.length_set]; exact lt j (List.mem_cons_of_mem _ hj)) (by simpa using hl)
    refine ⟨by rw [putBack, h1, List.length_set], fun j hj => ?_, fun k j u hk hu => ?_⟩
    · rw [List.mem_cons, not_or] at hj
      rw [putBack, h2 j hj.2, List.getElem?_set_ne (Ne.symm hj.1)]
    · cases k with
      | zero =>
        simp only [List.getElem?_cons_zero, Option.some.injEq] at hk hu
        subst hk hu
        rw [putBack, h2 _ nd.1, List.getElem?_set_self (lt _ (List.mem_cons_self ..))]
      | succ k => exact h3 k j u (by simpa using hk) (by simpa using hu)
theorem qb_saved (sl : List (Option O)) (own : List Nat) (nd : own.Nodup) (lt : ∀ i ∈ own, i < sl.length) : putBack (wipeO sl own) own (saved sl own) = sl := by
  obtain ⟨h1, h2, h3⟩ := qb_at own (saved sl own) (wipeO sl own) nd (fun i hi => by rw [qw_len]; exact lt i hi) (by simp [saved])
  apply List.ext_getElem?
  intro j
  by_cases hj : j ∈ own
  · obtain ⟨k, hk, e⟩ := List.mem_iff_getElem.mp hj
    have hk' : own[k]? = some j := by rw [List.getElem?_eq_getElem hk, e]
    have hs : sl[j]? = some (sl[j]'(lt j hj)) := List.getElem?_eq_getElem _
    rw [h3 k j (sl[j]'(lt j hj)) hk' (by unfold saved; rw [List.getElem?_map, hk']; show some ((sl[j]?).join) = _; rw [hs]; rfl), hs]
  · rw [h2 j hj, qw_ne sl own j hj]
/-- a comprehension that changes nothing but its own names -/
theorem en_lc {own : List Nat} {tg : Tg} {kd : ItK} {ifs : List E} {elt : E} {ds : List D} {P : D → Bool} {f : D → O} (hi : evIt Γ false kd es ρ = .ok ds ρ) (hn : ds.length ≤ lineN) (nd : own.Nodup) (lt : ∀ i ∈ own, i < ρ.sl.length)
    (step : ∀ d ∈ ds, ∀ X : List (Option O), ∃ sd, asgT tg d ⟨wipeO ρ.sl own ++ X, ρ.pen⟩ = .ok () ⟨sd ++ X, ρ.pen⟩ ∧ wipeO sd own = wipeO ρ.sl own ∧ evTs Γ ifs ⟨sd ++ X, ρ.pen⟩ = .ok (P d) ⟨sd ++ X, ρ.pen⟩ ∧ (P d = true → EvO Γ elt ⟨sd ++ X, ρ.pen⟩ (f d) ∧ (f d).hasT = false)) :
    EvN Γ (.lc own tg kd es ifs elt) ρ (.own ((ds.filter P).map f)) := by
  have loop : ∀ (ds' : List D) (acc : List O), (∀ d ∈ ds', d ∈ ds) → acc.length + ds'.length ≤ lineN → loopC own tg (evTs Γ ifs) (ev Γ elt) ds' ⟨wipeO ρ.sl own ++ (saved ρ.sl own ++ [some (.own acc)]), ρ.pen⟩ = .ok () ⟨wipeO ρ.sl own ++ (saved ρ.sl own ++ [some (.own (acc ++ (ds'.filter P).map f))]), ρ.pen⟩ := by
    intro ds'
    induction ds' with
    | nil => intro acc _ _; rw [List.filter_nil, List.map_nil, List.append_nil]; rfl
    | cons d ds' ih =>
      intro acc sub hl
      obtain ⟨sd, h1, h2, h3, h4⟩ := step d (sub d (List.mem_cons_self ..)) (saved ρ.sl own ++ [some (.own acc)])
      have ih' := fun acc => ih acc (fun x hx => sub x (List.mem_cons_of_mem _ hx))
      have sl : sd.length = ρ.sl.length := by rw [← qw_len sd own, h2, qw_len]
      have wm : ∀ X : List (Option O), wipeM own ⟨sd ++ X, ρ.pen⟩ = .ok () ⟨wipeO ρ.sl own ++ X, ρ.pen⟩ := fun X => by
        unfold wipeM
        rw [qw_app sd X own (fun i hi => by rw [sl]; exact lt i hi), h2]
      rw [loopC, bndE h1, bndE h3]
      rw [List.length_cons] at hl
      cases hp : P d with
      | false =>
        rw [List.filter_cons_of_neg (by rw [hp]; decide)]
        rw [bndE (show (if false = true then bnd (ev Γ elt) grow else DL.ret ()) ⟨sd ++ (saved ρ.sl own ++ [some (O.own acc)]), ρ.pen⟩ = .ok () ⟨sd ++ (saved ρ.sl own ++ [some (O.own acc)]), ρ.pen⟩ from rfl), bndE (wm _)]
        exact ih' acc (by omega)
      | true =>
        obtain ⟨q1, q2⟩ := h4 hp
        unfold EvO at q1
        rw [List.filter_cons_of_pos hp, List.map_cons]
        have g : bnd (ev Γ elt) grow ⟨sd ++ (saved ρ.sl own ++ [some (.own acc)]), ρ.pen⟩ = .ok () ⟨sd ++ (saved ρ.sl own ++ [some (.own (acc ++ [f d]))]), ρ.pen⟩ := by
          unfold grow
          rw [bndL, bndE q1]
          have l1 : (sd ++ (saved ρ.sl own ++ [some (O.own acc)])).getLast? = some (some (O.own acc)) := by
            rw [← List.append_assoc]; exact getLast_app
          have l2 : (sd ++ (saved ρ.sl own ++ [some (O.own acc)])).dropLast = sd ++ saved ρ.sl own := by
            rw [← List.append_assoc, List.dropLast_concat]
          show (match (sd ++ (saved ρ.sl own ++ [some (O.own acc)])).getLast? with
            | some (some (.own os)) => if (decide (os.length < lineN) && !(f d).hasT) = true then Res.ok () (⟨(sd ++ (saved ρ.sl own ++ [some (O.own acc)])).dropLast ++ [some (O.own (os ++ [f d]))], ρ.pen⟩ : Env) else Res.bad
            | _ => Res.bad) = _
          rw [l1, l2]
          show (if (decide (acc.length < lineN) && !(f d).hasT) = true then _ else Res.bad) = _
          rw [if_pos (by rw [q2]; simp; omega), List.append_assoc]
        rw [show (if true = true then bnd (ev Γ elt) grow else ret ()) = bnd (ev Γ elt) grow from rfl, bndE g, bndE (wm _)]
        rw [ih' (acc ++ [f d]) (by rw [List.length_append]; show acc.length + 1 + ds'.length ≤ lineN; omega), List.append_assoc]
        rfl
  unfold EvN
  rw [ev]
  have hi' : itM kd (evv Γ es) (evEl Γ false es) ρ = .ok ds ρ := hi
  rw [bndE hi']
  unfold inBlk
  rw [loop ds [] (fun _ h => h) (by simpa using hn), List.nil_append]
  have wl := qw_len ρ.sl own
  have sv : (saved ρ.sl own).length = own.length := by simp [saved]
  have at_ : (wipeO ρ.sl own ++ (saved ρ.sl own ++ [some (O.own ((ds.filter P).map f))]))[ρ.sl.length + own.length]? = some (some (.own ((ds.filter P).map f))) := by
    rw [← List.append_assoc, List.getElem?_append_right (by rw [List.length_append, wl, sv]; omega), List.length_append, wl, sv, Nat.sub_self]; rfl
  simp only [at_]
  have t1 : (wipeO ρ.sl own ++ (saved ρ.sl own ++ [some (O.own ((ds.filter P).map f))])).take ρ.sl.length = wipeO ρ.sl own := by rw [List.take_left' wl]
  have t2 : ((wipeO ρ.sl own ++ (saved ρ.sl own ++ [some (O.own ((ds.filter P).map f))])).drop ρ.sl.length).take own.length = saved ρ.sl own := by rw [List.drop_left' wl, List.take_left' sv]
  rw [t1, t2, qb_saved ρ.sl own nd lt]
theorem tq_nil : evTs Γ [] ρ = .ok true ρ := by rw [evTs]; rfl
theorem tq_one {t : E} {b : Bool} (h : EvB Γ t ρ b) : evTs Γ [t] ρ = .ok b ρ := by
  unfold EvB at h
  rw [evTs, bndE h]
  cases b with
  | true => rw [if_pos rfl, evTs]; rfl
  | false => rfl
/-! ### all, any of truth values -/
theorem truths_bl : ∀ bs : List Bool, truthsD (bs.map D.bl) = some bs
  | [] => rfl
  | b :: bs => by
    rw [List.map_cons, truthsD, truths_bl bs]
    show (if okEq (.bl b) = true then some (b :: bs) else none) = _
    rw [if_pos (by cases b <;> rfl)]
theorem filter_true {α : Type} (l : List α) : l.filter (fun _ => true) = l := List.filter_eq_self.mpr fun _ _ => rfl
theorem ed_all {e : E} {bs : List Bool} (h : EvN Γ e ρ (.own (bs.map fun b => O.frz (.bl b)))) : EvD Γ (.bi .all [e]) ρ (.bl (bs.all id)) := by
  have h' : EvN Γ e ρ (.own ((bs.map D.bl).map O.frz)) := by rw [List.map_map]; exact h
  refine ed_bi rfl (vs_consW (ew_own h') vs_nil) ?_
  show (truthsD (bs.map D.bl)).map _ = _
  rw [truths_bl]; rfl
theorem ed_any {e : E} {bs : List Bool} (h : EvN Γ e ρ (.own (bs.map fun b => O.frz (.bl b)))) : EvD Γ (.bi .any [e]) ρ (.bl (bs.any id)) := by
  have h' : EvN Γ e ρ (.own ((bs.map D.bl).map O.frz)) := by rw [List.map_map]; exact h
  refine ed_bi rfl (vs_consW (ew_own h') vs_nil) ?_
  show (truthsD (bs.map D.bl)).map _ = _
  rw [truths_bl]; rfl
theorem ss_setO {i : Nat} {ss : List S} (h : EvO Γ e ρ o) : evSs Γ (.set i e :: ss) ρ = evSs Γ ss (ρ.set i (some o)) := by
  unfold EvO at h
  rw [evSs, evS]
  unfold seqF
  rw [bndE (show bnd (ev Γ e) (fun x => bnd (keep x) fun o => setO i o) ρ = .ok .nx (ρ.set i (some o)) by rw [bndL, bndE h]; rfl)]
theorem ss_retX {ss : List S} (h : EvX Γ e ρ d) : evSs Γ (.ret e :: ss) ρ = .ok (.ret d) ρ := by
  unfold EvX at h
  rw [evSs, evS]
  unfold seqF
  rw [bndE (show bnd (ev Γ e) (fun x => bnd (esc x) fun d => DL.ret (Fl.ret d)) ρ = .ok (.ret d) ρ by rw [bndL, bndE h]; rfl)]
  rfl
theorem ed_tupX {es : List E} {ds : List D} (h : EvDs Γ es ρ ds) (hl : ds.length ≤ lineN) : EvD Γ (.tup es) ρ (.tup ds) := ed_tup h hl
theorem eqv_refl_str (x : Str) : PyData.eqv (.str x) (.str x) = true := by
  simp [PyData.eqv]
theorem c_eq_str {x : Str} : cmpO .Eq (.str x) (.frz (.str x)) = some true := by
  show (if okEq (.str x) && okEq (.str x) then some (PyData.eqv (.str x) (.str x)) else none) = _
  rw [eqv_refl_str]
  rfl
end DL

set_option Elab.async false
set_option linter.all false
set_option maxRecDepth 100000
set_option maxHeartbeats 0
/-! PL3: plain words for defs that many programs have: is_whole, in_tuples, is_within. -/
namespace DL
open PySem
variable {Γ : Gam} {ρ : Env}
theorem en_biE {b : B} {es : List E} {ds : List D} {o : O} (hb : b.esc = true) (h : EvDs Γ es ρ ds) (hr : biE b ds = some o) : EvN Γ (.bi b es) ρ o := by
  unfold EvN
  rw [ev, if_pos hb, bndE h, hr]; rfl
theorem ed_of_n {e : E} {d : D} (h : EvN Γ e ρ (.frz d)) : EvD Γ e ρ d := ⟨none, h⟩
/-- tuple(xs) of a new list -/
theorem ed_tupN {e : E} {ds : List D} (h : EvN Γ e ρ (.own (ds.map O.frz))) : EvD Γ (.bi .tuple [e]) ρ (.tup ds) := ed_of_n (en_biE rfl (es_consX (ex_own h) es_nil) rfl)
/-- is_whole -/
def isInt : D → Bool
  | .int _ => true
  | _ => false
def okT : D → Bool
  | .obj _ _ _ | .pen | .clo _ | .glo _ => false
  | _ => true
def wholeB : List S := [.ret (.and (.isa (.v 0) [.ty .int]) (.not (.tv (.isa (.v 0) [.ty .bool]))))]
theorem whole_ok {d : D} (h : okT d = true) : Fp (defFn Γ 1 1 wholeB) [d] (.bl (isInt d)) := by
  cases d <;> first
    | (exact fun p => rfl)
    | (cases h)
mutual
/-- lists all tuples, deep -/
def inT : D → D
  | .tup xs => .tup (inTs xs)
  | .lst xs => .tup (inTs xs)
  | d => d
def inTs : List D → List D
  | [] => []
  | d :: ds => inT d :: inTs ds
end
theorem inTs_eq : ∀ xs : List D, inTs xs = xs.map inT
  | [] => rfl
  | d :: ds => by rw [inTs, inTs_eq ds]; rfl
theorem inT_tup (xs : List D) : inT (.tup xs) = .tup (xs.map inT) := by rw [inT, inTs_eq]
theorem inT_lst (xs : List D) : inT (.lst xs) = .tup (xs.map inT) := by rw [inT, inTs_eq]
def kids : D → List D
  | .tup xs => xs
  | .lst xs => xs
  | _ => []
def inTB (g : Nat) : List S := [.iff (.tnot (.tv (.isa (.v 0) [.ty .tuple, .ty .list]))) [.ret (.v 0)] [], .ret (.bi .tuple [.lc [1] (.nm 1) .seq [.v 0] [] (.call g [.v 1])])]
theorem inT_step {g : Nat} {fn : Fn} (hf : Γ.fn g = some fn) {d : D} (h : okT d = true) (hk : ∀ y ∈ kids d, Fp fn [y] (inT y)) (hl : (kids d).length ≤ lineN) : Fp (defFn Γ 1 2 (inTB g)) [d] (inT d) := by
  have seq : ∀ {xs : List D}, isaD Γ.cls d [.ty .tuple, .ty .list] = some true → inT d = .tup (xs.map inT) → (∀ {e : E} {ρ : Env}, EvD Γ e ρ d → EvL Γ false e ρ xs) → (∀ y ∈ xs, Fp fn [y] (inT y)) → xs.length ≤ lineN → Fp (defFn Γ 1 2 (inTB g)) [d] (inT d) := by
    intro xs hi hr he hk hl
    refine fp_of rfl fun p => ?_
    apply Exists.intro
    refine (ss_if_no (eb_not (c := true) (eb_tv (ed_isa (ed_v rfl) hi) rfl))).trans ?_
    refine ss_ret ?_
    rw [hr]
    have h1 := en_lc (Γ := Γ) (ρ := ⟨[some (.frz d), none], p⟩) (own := [1]) (tg := .nm 1) (kd := .seq) (es := [.v 0]) (ifs := []) (elt := .call g [.v 1]) (ds := xs) (P := fun _ => true) (f := fun y => O.frz (inT y)) (it_seq (he (ed_v rfl))) hl (by decide) (by simp) fun y hy X =>
      ⟨[some (.frz d), some (.frz y)], rfl, rfl, tq_nil, fun _ => ⟨eo_d (ed_call hf (es_cons (ed_v rfl) es_nil) (hk y hy)), rfl⟩⟩
    rw [filter_true] at h1
    have h2 : EvN Γ (.lc [1] (.nm 1) .seq [.v 0] [] (.call g [.v 1])) ⟨[some (.frz d), none], p⟩ (.own ((xs.map inT).map O.frz)) := by rw [List.map_map]; exact h1
    exact ed_tupN h2
  cases d with
  | tup xs => exact seq (xs := xs) rfl (inT_tup xs) el_tup hk hl
  | lst xs => exact seq (xs := xs) rfl (inT_lst xs) el_lst hk hl
  | obj => cases h
  | pen => cases h
  | clo => cases h
  | glo => cases h
  | _ => exact fun p => rfl
/-- what in_tuples can take, n deep -/
def okIn : Nat → D → Bool
  | 0, _ => false
  | n + 1, d => okT d && (decide ((kids d).length ≤ lineN) && (kids d).all (okIn n))
theorem inT_rec {lam : Nat → Option Fn} {C : Cc} {f : FD} {T : List (Nat × Fn)} (h1 : f.ps.length = 1) (h2 : f.N.length = 2) (h3 : f.ss = inTB f.g) : ∀ (n : Nat) (d : D), okIn n d = true → Fp (rfn lam C f T n) [d] (inT d)
  | 0, _, h => by cases h
  | n + 1, d, h => by
    simp only [okIn, Bool.and_eq_true, decide_eq_true_eq, List.all_eq_true] at h
    rw [rfn]
    unfold dfn
    rw [h1, h2, h3]
    exact inT_step (fn := rfn lam C f T n) (by show List.lookup f.g ((f.g, _) :: T) = _; rw [List.lookup_cons]; simp) h.1 (fun y hy => inT_rec h1 h2 h3 n y (h.2.2 y hy)) h.2.1
/-! ### rows of ints -/
def rowL (n : List Int) : D := .lst (n.map D.int)
theorem inT_ints : ∀ n : List Int, (n.map D.int).map inT = n.map D.int
  | [] => rfl
  | i :: n => by rw [List.map_cons, List.map_cons, inT_ints n]; rfl
theorem inT_row (n : List Int) : inT (rowD n) = rowD n := by unfold rowD; rw [inT_tup, inT_ints]
theorem inT_rowL (n : List Int) : inT (rowL n) = rowD n := by unfold rowL rowD; rw [inT_lst, inT_ints]
theorem inT_rows (ns : List (List Int)) : (ns.map rowD).map inT = ns.map rowD := by
  rw [List.map_map]
  exact List.map_congr_left fun n _ => inT_row n
theorem inT_rowsL (ns : List (List Int)) : (ns.map rowL).map inT = ns.map rowD := by
  rw [List.map_map]
  exact List.map_congr_left fun n _ => inT_rowL n
theorem okIn_row {n : List Int} {k : Nat} (h : n.length ≤ lineN) : okIn (k + 2) (rowD n) = true ∧ okIn (k + 2) (rowL n) = true := by
  have hI : ∀ d ∈ n.map D.int, okIn (k + 1) d = true := fun d hd => by
    obtain ⟨i, _, rfl⟩ := List.mem_map.mp hd
    rfl
  have l : (n.map D.int).length ≤ lineN := by rw [List.length_map]; exact h
  constructor
  · show (true && (decide ((n.map D.int).length ≤ lineN) && (n.map D.int).all (okIn (k + 1)))) = true
    rw [decide_eq_true l, List.all_eq_true.mpr hI]; rfl
  · show (true && (decide ((n.map D.int).length ≤ lineN) && (n.map D.int).all (okIn (k + 1)))) = true
    rw [decide_eq_true l, List.all_eq_true.mpr hI]; rfl
theorem okIn_rows {ns : List (List Int)} {k : Nat} (h : ns.length ≤ lineN) (hn : ∀ n ∈ ns, n.length ≤ lineN) : okIn (k + 3) (.tup (ns.map rowD)) = true ∧ okIn (k + 3) (.lst (ns.map rowD)) = true ∧ okIn (k + 3) (.lst (ns.map rowL)) = true := by
  have r1 : ∀ d ∈ ns.map rowD, okIn (k + 2) d = true := fun d hd => by
    obtain ⟨n, hn', rfl⟩ := List.mem_map.mp hd
    exact (okIn_row (hn n hn')).1
  have r2 : ∀ d ∈ ns.map rowL, okIn (k + 2) d = true := fun d hd => by
    obtain ⟨n, hn', rfl⟩ := List.mem_map.mp hd
    exact (okIn_row (hn n hn')).2
  have l1 : (ns.map rowD).length ≤ lineN := by rw [List.length_map]; exact h
  have l2 : (ns.map rowL).length ≤ lineN := by rw [List.length_map]; exact h
  refine ⟨?_, ?_, ?_⟩
  · show (true && (decide ((ns.map rowD).length ≤ lineN) && (ns.map rowD).all (okIn (k + 2)))) = true
    rw [decide_eq_true l1, List.all_eq_true.mpr r1]; rfl
  · show (true && (decide ((ns.map rowD).length ≤ lineN) && (ns.map rowD).all (okIn (k + 2)))) = true
    rw [decide_eq_true l1, List.all_eq_true.mpr r1]; rfl
  · show (true && (decide ((ns.map rowL).length ≤ lineN) && (ns.map rowL).all (okIn (k + 2)))) = true
    rw [decide_eq_true l2, List.all_eq_true.mpr r2]; rfl
theorem plains_ints : ∀ n : List Int, D.plains (n.map D.int) = true
  | [] => rfl
  | i :: n => by rw [List.map_cons, D.plains, plains_ints n]; rfl
theorem depth_ints : ∀ n : List Int, PyData.depthAll (D.pys (n.map D.int)) ≤ 1
  | [] => by simp [D.pys, PyData.depthAll]
  | i :: n => by
    have := depth_ints n
    simp only [List.map_cons, D.pys, D.py, PyData.depthAll, PyData.depth]
    omega
theorem okEq_row (n : List Int) : okEq (rowD n) = true := by
  have h1 : (rowD n).plain = true := by unfold rowD; rw [D.plain]; exact plains_ints n
  have h2 : (rowD n).py.depth ≤ deepN := by
    have := depth_ints n
    unfold rowD
    simp only [D.py, PyData.depth]
    have : (8 : Nat) ≤ deepN := by decide
    omega
  unfold okEq
  rw [h1, decide_eq_true h2]; rfl
theorem eqv_ints : ∀ a b : List Int, PyData.eqvAll (D.pys (a.map D.int)) (D.pys (b.map D.int)) = decide (a = b)
  | [], [] => rfl
  | [], b :: bs => rfl
  | a :: as, [] => rfl
  | a :: as, b :: bs => by
    simp only [List.map_cons, D.pys, D.py, PyData.eqvAll, eqv_ints as bs, PyData.eqv]
    by_cases h : a = b
    · subst h; simp
    · simp [h]
end DL

set_option Elab.async false
set_option linter.all false
set_option maxRecDepth 100000
set_option maxHeartbeats 0
/-! PL4: rows of ints in their order; the greatest of some rows. -/
namespace DL
open PySem
abbrev Rows := List (List Int)
def leR (x y : List Int) : Bool := decide (x ≤ y)
def srt (ns : Rows) : Rows := ns.mergeSort leR
theorem leR_trans (a b c : List Int) (h1 : leR a b = true) (h2 : leR b c = true) : leR a c = true := decide_eq_true (List.le_trans (of_decide_eq_true h1) (of_decide_eq_true h2))
theorem leR_total (a b : List Int) : (leR a b || leR b a) = true := by
  unfold leR
  rcases List.le_total a b with h | h
  · rw [decide_eq_true h]; rfl
  · rw [decide_eq_true h, Bool.or_true]
theorem leR_anti {a b : List Int} (h1 : leR a b = true) (h2 : leR b a = true) : a = b := List.le_antisymm (of_decide_eq_true h1) (of_decide_eq_true h2)
def Asc (ns : Rows) : Prop := ns.Pairwise fun a b => leR a b = true
theorem srt_asc (ns : Rows) : Asc (srt ns) := List.pairwise_mergeSort leR_trans leR_total ns
theorem srt_p (ns : Rows) : (srt ns).Perm ns := List.mergeSort_perm ns leR
theorem asc_eq {ns ms : Rows} (h1 : Asc ns) (h2 : Asc ms) (p : ns.Perm ms) : ns = ms := List.Perm.eq_of_pairwise (le := fun a b => leR a b = true) (fun a b _ _ x y => leR_anti x y) h1 h2 p
theorem srt_perm {ns ms : Rows} (h : ns.Perm ms) : srt ns = srt ms := asc_eq (srt_asc ns) (srt_asc ms) ((srt_p ns).trans (h.trans (srt_p ms).symm))
theorem srt_of_asc {ns : Rows} (h : Asc ns) : srt ns = ns := asc_eq (srt_asc ns) h (srt_p ns)
theorem sortD_rows (ns : Rows) : sortD (ns.map rowD) = (srt ns).map rowD := sort_rows ns
/-- each once, ascending -/
def rowsS (ns : Rows) : Rows := srt (onceL ns)
theorem mem_rowsS (ns : Rows) (x : List Int) : x ∈ rowsS ns ↔ x ∈ ns := ((srt_p _).mem_iff).trans (mem_onceL ns x)
theorem nodup_rowsS (ns : Rows) : (rowsS ns).Nodup := (srt_p _).nodup_iff.mpr (nodup_onceL ns)
theorem asc_rowsS (ns : Rows) : Asc (rowsS ns) := srt_asc _
theorem rowsS_of {ns ms : Rows} (h1 : Asc ns) (h2 : ns.Nodup) (h3 : ∀ x, x ∈ ns ↔ x ∈ ms) : ns = rowsS ms :=
  asc_eq h1 (asc_rowsS ms) ((List.perm_ext_iff_of_nodup h2 (nodup_rowsS ms)).mpr fun x => by rw [mem_rowsS]; exact h3 x)
theorem rowsS_congr {ns ms : Rows} (h : ∀ x, x ∈ ns ↔ x ∈ ms) : rowsS ns = rowsS ms := rowsS_of (asc_rowsS ns) (nodup_rowsS ns) fun x => by rw [mem_rowsS]; exact h x
theorem rowsS_perm {ns ms : Rows} (hn : ms.Nodup) (h : ∀ x, x ∈ ms ↔ x ∈ ns) : srt ms = rowsS ns := rowsS_of (srt_asc ms) ((srt_p ms).nodup_iff.mpr hn) fun x => ((srt_p ms).mem_iff).trans (h x)
/-- one lies in the other -/
def inR (a b : List Int) : Bool := a.all fun x => decide (x ∈ b)
/-- the greatest of some -/
def keepG (S : Rows) : Rows := S.filter fun one => !(S.any fun far => !decide (one = far) && inR one far)
def grt (ns : Rows) : Rows := keepG (rowsS ns)
theorem grt_congr {ns ms : Rows} (h : ∀ x, x ∈ ns ↔ x ∈ ms) : grt ns = grt ms := by unfold grt; rw [rowsS_congr h]
theorem mem_grt (ns : Rows) (x : List Int) : x ∈ grt ns ↔ x ∈ ns ∧ ∀ y ∈ ns, x ≠ y → inR x y = false := by
  unfold grt keepG
  rw [List.mem_filter, mem_rowsS, Bool.not_eq_true', List.any_eq_false]
  refine and_congr_right fun _ => ?_
  constructor
  · intro h y hy ne
    have := h y ((mem_rowsS ns y).mpr hy)
    rw [decide_eq_false ne] at this
    cases e : inR x y with
    | false => rfl
    | true => rw [e] at this; exact absurd rfl this
  · intro h y hy q
    rw [Bool.and_eq_true, Bool.not_eq_true', decide_eq_false_iff_not] at q
    rw [h y ((mem_rowsS ns y).mp hy) q.1] at q
    cases q.2
theorem asc_grt (ns : Rows) : Asc (grt ns) := (asc_rowsS ns).sublist List.filter_sublist
theorem nodup_grt (ns : Rows) : (grt ns).Nodup := (nodup_rowsS ns).sublist List.filter_sublist
theorem rowsS_grt (ns : Rows) : rowsS (grt ns) = grt ns := (rowsS_of (asc_grt ns) (nodup_grt ns) fun x => Iff.rfl).symm
theorem grt_grt (ns : Rows) : grt (grt ns) = grt ns := by
  have e : grt (grt ns) = keepG (grt ns) := by
    show keepG (rowsS (grt ns)) = _
    rw [rowsS_grt]
  rw [e]
  unfold keepG
  rw [List.filter_eq_self]
  intro x hx
  rw [Bool.not_eq_true', List.any_eq_false]
  intro y hy q
  rw [Bool.and_eq_true, Bool.not_eq_true', decide_eq_false_iff_not] at q
  have := ((mem_grt ns x).mp hx).2 y ((mem_grt ns y).mp hy).1 q.1
  rw [this] at q
  cases q.2
/-- doubles left out, by hand -/
def foldK : Rows → Rows → Rows
  | acc, [] => acc
  | acc, x :: xs => foldK (if x ∈ acc then acc else acc ++ [x]) xs
theorem foldK_ok : ∀ (xs acc : Rows), Asc (acc ++ xs) → acc.Nodup → Asc (foldK acc xs) ∧ (foldK acc xs).Nodup ∧ ∀ x, x ∈ foldK acc xs ↔ x ∈ acc ∨ x ∈ xs
  | [], acc, h, nd => ⟨by rw [List.append_nil] at h; exact h, nd, fun x => by simp [foldK]⟩
  | y :: xs, acc, h, nd => by
    rw [foldK]
    by_cases hy : y ∈ acc
    · rw [if_pos hy]
      have s : (acc ++ xs).Sublist (acc ++ y :: xs) := List.Sublist.append_left (List.sublist_cons_self y xs) acc
      obtain ⟨a, b, c⟩ := foldK_ok xs acc (List.Pairwise.sublist s h) nd
      refine ⟨a, b, fun x => (c x).trans ?_⟩
      rw [List.mem_cons]
      constructor
      · rintro (q | q)
        · exact .inl q
        · exact .inr (.inr q)
      · rintro (q | q | q)
        · exact .inl q
        · rw [q]; exact .inl hy
        · exact .inr q
    · rw [if_neg hy]
      obtain ⟨a, b, c⟩ := foldK_ok xs (acc ++ [y]) (by rw [List.append_assoc]; exact h) (by
        rw [List.nodup_append]
        refine ⟨nd, by simp, fun a ha b hb e => ?_⟩
        rw [List.mem_singleton] at hb
        rw [e, hb] at ha
        exact hy ha)
      refine ⟨a, b, fun x => (c x).trans ?_⟩
      rw [List.mem_append, List.mem_singleton, List.mem_cons, or_assoc]
theorem foldK_srt (ns : Rows) : foldK [] (srt ns) = rowsS ns := by
  obtain ⟨a, b, c⟩ := foldK_ok (srt ns) [] (srt_asc ns) List.nodup_nil
  exact rowsS_of a b fun x => (c x).trans (by rw [(srt_p ns).mem_iff]; simp)
end DL

set_option Elab.async false
set_option linter.all false
set_option maxRecDepth 100000
set_option maxHeartbeats 0
/-! PL5: some of a row's items: combinations, parts by doubling. -/
namespace DL
open PySem
theorem mem_combL {α : Type} : ∀ (xs : List α) (r : Nat) (x : List α), x ∈ combL r xs ↔ x.Sublist xs ∧ x.length = r
  | xs, 0, x => by
    cases xs <;> (rw [combL, List.mem_singleton]; constructor)
    · rintro rfl; exact ⟨List.Sublist.refl _, rfl⟩
    · rintro ⟨_, h⟩; exact List.length_eq_zero_iff.mp h
    · rintro rfl; exact ⟨List.nil_sublist _, rfl⟩
    · rintro ⟨_, h⟩; exact List.length_eq_zero_iff.mp h
  | [], r + 1, x => by
    rw [combL]
    constructor
    · intro h; cases h
    · rintro ⟨h1, h2⟩
      rw [List.sublist_nil.mp h1] at h2
      cases h2
  | y :: xs, r + 1, x => by
    rw [combL, List.mem_append, List.mem_map, mem_combL xs (r + 1) x]
    constructor
    · rintro (⟨z, hz, rfl⟩ | ⟨h1, h2⟩)
      · obtain ⟨z1, z2⟩ := (mem_combL xs r z).mp hz
        exact ⟨z1.cons_cons y, by rw [List.length_cons, z2]⟩
      · exact ⟨h1.cons y, h2⟩
    · rintro ⟨h1, h2⟩
      cases h1 with
      | cons _ h => exact .inr ⟨h, h2⟩
      | cons_cons _ h =>
        rename_i l
        exact .inl ⟨l, (mem_combL xs r l).mpr ⟨h, by simpa using h2⟩, rfl⟩
/-- all parts, by doubling -/
def dbl (ps : Rows) (c : Int) : Rows := ps ++ ps.map (· ++ [c])
def partsL (face : List Int) : Rows := face.foldl dbl [[]]
theorem mem_dbls : ∀ (face : List Int) (ps : Rows) (x : List Int), x ∈ face.foldl dbl ps ↔ ∃ p ∈ ps, ∃ y, y.Sublist face ∧ x = p ++ y
  | [], ps, x => by
    rw [List.foldl_nil]
    constructor
    · intro h; exact ⟨x, h, [], List.nil_sublist _, by simp⟩
    · rintro ⟨p, hp, y, hy, rfl⟩
      rw [List.sublist_nil.mp hy, List.append_nil]; exact hp
  | c :: cs, ps, x => by
    rw [List.foldl_cons, mem_dbls cs (dbl ps c) x]
    constructor
    · rintro ⟨p, hp, y, hy, rfl⟩
      unfold dbl at hp
      rcases List.mem_append.mp hp with h | h
      · exact ⟨p, h, y, hy.cons c, rfl⟩
      · obtain ⟨q, hq, rfl⟩ := List.mem_map.mp h
        exact ⟨q, hq, c :: y, hy.cons_cons c, by simp⟩
    · rintro ⟨p, hp, y, hy, rfl⟩
      unfold dbl
      cases hy with
      | cons _ h => exact ⟨p, List.mem_append_left _ hp, y, h, rfl⟩
      | cons_cons _ h =>
        rename_i l
        exact ⟨p ++ [c], List.mem_append_right _ (List.mem_map.mpr ⟨p, hp, rfl⟩), l, h, by simp⟩
theorem mem_partsL (face x : List Int) : x ∈ partsL face ↔ x.Sublist face := by
  unfold partsL
  rw [mem_dbls]
  constructor
  · rintro ⟨p, hp, y, hy, rfl⟩
    rw [List.mem_singleton] at hp
    subst hp
    exact hy
  · intro h
    exact ⟨[], by simp, x, h, rfl⟩
theorem nodup_dbls : ∀ (face : List Int) (ps : Rows), face.Nodup → ps.Nodup → (∀ p ∈ ps, ∀ c ∈ face, c ∉ p) → (face.foldl dbl ps).Nodup
  | [], ps, _, h, _ => h
  | c :: cs, ps, hf, h, hn => by
    rw [List.foldl_cons]
    rw [List.nodup_cons] at hf
    refine nodup_dbls cs _ hf.2 ?_ fun p hp d hd => ?_
    · unfold dbl
      rw [List.nodup_append]
      refine ⟨h, ?_, fun a ha b hb e => ?_⟩
      · exact List.Pairwise.map (R := fun a b => a ≠ b) _ (fun a b ne e => ne (List.append_cancel_right e)) h
      · obtain ⟨q, hq, rfl⟩ := List.mem_map.mp hb
        exact hn a ha c (List.mem_cons_self ..) (by rw [e]; simp)
    · unfold dbl at hp
      rcases List.mem_append.mp hp with q | q
      · exact hn p q d (List.mem_cons_of_mem _ hd)
      · obtain ⟨r, hr, rfl⟩ := List.mem_map.mp q
        rw [List.mem_append, not_or, List.mem_singleton]
        exact ⟨hn r hr d (List.mem_cons_of_mem _ hd), fun e => hf.1 (by rw [← e]; exact hd)⟩
theorem nodup_partsL {face : List Int} (h : face.Nodup) : (partsL face).Nodup := nodup_dbls face [[]] h (by simp) (by simp)
/-- the parts of a size of some faces -/
def lvl (ns : Rows) (k : Nat) : Rows := rowsS (ns.flatMap (combL k))
theorem mem_lvl (ns : Rows) (k : Nat) (x : List Int) : x ∈ lvl ns k ↔ ∃ n ∈ ns, x.Sublist n ∧ x.length = k := by
  unfold lvl
  rw [mem_rowsS, List.mem_flatMap]
  exact exists_congr fun n => and_congr_right fun _ => mem_combL n k x
/-- a level, by hand -/
def addLv (k : Nat) (lv : Rows) (face : List Int) : Rows := lv ++ (partsL face).filter fun p => decide (p.length = k) && !decide (p ∈ lv)
theorem addLvs : ∀ (ns lv : Rows) (k : Nat), (∀ n ∈ ns, n.Nodup) → lv.Nodup → (ns.foldl (addLv k) lv).Nodup ∧ ∀ x, x ∈ ns.foldl (addLv k) lv ↔ x ∈ lv ∨ ∃ n ∈ ns, x.Sublist n ∧ x.length = k
  | [], lv, k, _, h => ⟨h, fun x => by simp⟩
  | n :: ns, lv, k, hn, h => by
    rw [List.foldl_cons]
    have nd : (addLv k lv n).Nodup := by
      unfold addLv
      rw [List.nodup_append]
      refine ⟨h, (nodup_partsL (hn n (List.mem_cons_self ..))).sublist List.filter_sublist, fun a ha b hb e => ?_⟩
      have := (List.mem_filter.mp hb).2
      rw [Bool.and_eq_true, Bool.not_eq_true', decide_eq_false_iff_not] at this
      exact this.2 (e ▸ ha)
    obtain ⟨a, b⟩ := addLvs ns (addLv k lv n) k (fun m hm => hn m (List.mem_cons_of_mem _ hm)) nd
    refine ⟨a, fun x => (b x).trans ?_⟩
    have e : x ∈ addLv k lv n ↔ x ∈ lv ∨ (x.Sublist n ∧ x.length = k) := by
      unfold addLv
      rw [List.mem_append, List.mem_filter, mem_partsL, Bool.and_eq_true, Bool.not_eq_true', decide_eq_true_eq, decide_eq_false_iff_not]
      by_cases hx : x ∈ lv
      · simp [hx]
      · simp [hx]
    rw [e, or_assoc]
    refine or_congr_right ?_
    constructor
    · rintro (q | ⟨m, hm, q⟩)
      · exact ⟨n, List.mem_cons_self .., q⟩
      · exact ⟨m, List.mem_cons_of_mem _ hm, q⟩
    · rintro ⟨m, hm, q⟩
      rcases List.mem_cons.mp hm with rfl | hm
      · exact .inl q
      · exact .inr ⟨m, hm, q⟩
theorem level_eq (ns : Rows) (k : Nat) (h : ∀ n ∈ ns, n.Nodup) : srt (ns.foldl (addLv k) []) = lvl ns k := by
  obtain ⟨a, b⟩ := addLvs ns [] k h List.nodup_nil
  refine rowsS_perm a fun x => (b x).trans ?_
  rw [List.mem_flatMap]
  constructor
  · rintro (q | ⟨n, hn, q⟩)
    · cases q
    · exact ⟨n, hn, (mem_combL n k x).mpr q⟩
  · rintro ⟨n, hn, q⟩
    exact .inr ⟨n, hn, (mem_combL n k x).mp q⟩
end DL

set_option Elab.async false
set_option linter.all false
set_option maxRecDepth 100000
set_option maxHeartbeats 0
namespace Law
open PySem PySem.Spec PyProof.Rows L2 DL
def top (i : Nat) : Stmt := PySem.Challenge.pw_shelltrees_k80_books_of_faces.main.body.getD i (.Pass ⟨0, 0, 0, 0⟩)
def bis_whole : List S := [
  .ret (.and (.isa (.v 0) [.ty .int]) (.not (.tv (.isa (.v 0) [.ty .bool]))))]
def bin_tuples : List S := [
  .iff (.tnot (.tv (.isa (.v 0) [.ty .tuple, .ty .list]))) [.ret (.v 0)] [],
  .ret (.bi .tuple [.lc [1] (.nm 1) .seq [.v 0] [] (.call 9 [.v 1])])]
def bis_face : List S := [
  .iff (.tor (.tnot (.tv (.isa (.v 0) [.ty .tuple]))) (.tnot (.tv (.cmp2 .LtE .LtE (.c (.int 1)) (.bi .len [.v 0]) (.kst 1))))) [.ret (.c (.bl false))] [],
  .iff (.tnot (.tv (.bi .all [.lc [2] (.nm 2) .seq [.v 0] [] (.and (.call 8 [.v 2]) (.cmp2 .LtE .LtE (.c (.int 0)) (.v 2) (.c (.int 99))))]))) [.ret (.c (.bl false))] [],
  .ret (.bi .all [.lc [1] (.nm 1) (.rng false) [.bin .Sub (.bi .len [.v 0]) (.c (.int 1))] [] (.cmp .Lt (.v1 0 (.v 1)) (.v1 0 (.bin .Add (.v 1) (.c (.int 1)))))])]
def bfaces_from : List S := [
  .set 1 (.call 9 [.v 0]),
  .iff (.tor (.tnot (.tv (.isa (.v 1) [.ty .tuple]))) (.tor (.tv (.cmp .Eq (.bi .len [.v 1]) (.c (.int 0)))) (.tnot (.tv (.bi .all [.lc [7] (.nm 7) .seq [.v 1] [] (.call 10 [.v 7])]))))) [.rse 4 [.v 0]] [],
  .set 2 (.bi .max1 [.lc [7] (.nm 7) .seq [.v 1] [] (.bi .len [.v 7])]),
  .set 3 (.lst []),
  .fr (.nm 4) (.rng true) [.c (.int 1), .bin .Add (.v 2) (.c (.int 1))] [.set 6 .newt, .fr (.nm 7) .seq [.v 1] [.fr (.nm 8) .cmb [.v 7, .v 4] [.tput 6 (.v 8) (.c (.bl true))]], .app 3 (.tsort 6)],
  .set 5 (.bi .max1 [.lc [9] (.nm 9) .seq [.v 3] [] (.bi .len [.v 9])]),
  .iff (.tv (.cmp .Gt (.v 5) (.kst 0))) [.rse 7 [.c (.str "cells"), .v 5, .kst 0]] [],
  .ret (.v 3)]
def bis_within : List S := [
  .ret (.bi .all [.lc [2] (.nm 2) .seq [.v 0] [] (.cmp .In (.v 2) (.v 1))])]
def bgreatest_of : List S := [
  .set 1 (.sets [.v 0]),
  .ret (.bi .tuple [.lc [2] (.nm 2) .seq [.v 1] [.tnot (.tv (.bi .any [.lc [3] (.nm 3) .seq [.v 1] [] (.and (.cmp .NotEq (.v 2) (.v 3)) (.call 12 [.v 2, .v 3]))]))] (.v 2)])]
def bbook_of : List S := [
  .ex (.call 11 [.v 0]),
  .ret (.call 13 [.call 9 [.v 0]])]
def bare_few : List S := [
  .try_ [.ex (.call 11 [.bi .tuple [.v 0]])] [(7, .c (.bl false))],
  .ret (.c (.bl true))]
def bis_book : List S := [
  .iff (.tor (.tnot (.tv (.isa (.v 0) [.ty .tuple]))) (.tor (.tv (.cmp .Eq (.bi .len [.v 0]) (.c (.int 0)))) (.tnot (.tv (.bi .all [.lc [1] (.nm 1) .seq [.v 0] [] (.call 10 [.v 1])]))))) [.ret (.c (.bl false))] [],
  .ret (.and (.cmp .Eq (.call 13 [.v 0]) (.v 0)) (.call 15 [.v 0]))]
def bbook_from : List S := [
  .set 1 (.call 9 [.v 0]),
  .iff (.tnot (.tv (.call 16 [.v 1]))) [.rse 4 [.v 0]] [],
  .ret (.v 1)]
def bwith_face : List S := [
  .par 2 3 (.call 17 [.v 0]) (.call 9 [.v 1]),
  .iff (.tnot (.tv (.call 10 [.v 3]))) [.rse 4 [.v 1]] [],
  .ex (.call 11 [.bin .Add (.v 2) (.tup [.v 3])]),
  .ret (.call 13 [.bin .Add (.v 2) (.tup [.v 3])])]
def bwithout_face : List S := [
  .sett [4, 5] (.tup [.call 17 [.v 0], .call 9 [.v 1]]),
  .iff (.tor (.tnot (.tv (.call 10 [.v 5]))) (.tnot (.tv (.bi .any [.lc [6] (.nm 6) .seq [.v 4] [] (.call 12 [.v 5, .v 6])])))) [.rse 4 [.v 1]] [],
  .set 2 (.lst []),
  .fr (.nm 3) .seq [.call 11 [.v 4]] [.set 2 (.bin .Add (.v 2) (.lc [6] (.nm 6) .seq [.v 3] [.tnot (.tv (.call 12 [.v 5, .v 6]))] (.v 6)))],
  .ret (.ife (.tv (.cmp .Gt (.bi .len [.v 2]) (.c (.int 0)))) (.call 13 [.v 2]) (.c (.non)))]
def b_law_draw : List S := [
  .pst 0 .count (.bin .Add (.pget 0 .count) (.c (.int 1))),
  .iff (.tand (.tv (.cmp .Eq (.pget 0 .digits) (.c (.int 0)))) (.tv (.cmp .Lt (.pget 0 .at_) (.plen 0)))) [.set 3 (.pcell 0 (.pget 0 .at_)), .pst 0 .at_ (.bin .Add (.pget 0 .at_) (.c (.int 1))), .iff (.tv (.cmp .GtE (.v 3) (.bin .Pow (.c (.int 10)) (.c (.int 18))))) [.pst 0 .digits (.bin .Sub (.v 3) (.bin .Pow (.c (.int 10)) (.c (.int 18))))] [.pst 0 .fold (.bin .Mod (.bi .int [.bin .Add (.bin .Mult (.pget 0 .fold) (.c (.int 43669))) (.v 3)]) (.c (.int 2147483549)))]] [],
  .iff (.tv (.cmp .Gt (.pget 0 .digits) (.c (.int 0)))) [.set 4 (.bin .Mod (.bi .int [.pget 0 .digits]) (.v 1)), .pst 0 .digits (.bin .FloorDiv (.pget 0 .digits) (.v 1)), .ret (.v 4)] [],
  .set 2 (.bin .Add (.bin .Add (.pget 0 .fold) (.bin .Mult (.pget 0 .count) (.c (.int 8123)))) (.c (.int 53))),
  .ret (.bin .Mod (.bin .FloorDiv (.bi .int [.bin .Mod (.bin .Pow (.v 2) (.c (.int 19))) (.c (.int 2305843009213693951))]) (.c (.int 1024))) (.v 1))]
def b_law_pick : List S := [
  .ret (.v1 1 (.call 21 [.v 0, .bi .len [.v 1]]))]
def b_law_shuffled : List S := [
  .par 3 4 (.bi .list [.v 1]) (.lst []),
  .fr (.nm 2) (.rng false) [.bi .len [.v 1]] [.apop 4 3 (.call 21 [.v 0, .bi .len [.v 3]])],
  .ret (.v 4)]
def b_law_faces : List S := [
  .set 4 (.lst []),
  .fr (.nm 5) (.rng false) [.v 2] [.set 6 (.bin .Add (.c (.int 1)) (.call 21 [.v 0, .v 3])), .app 4 (.bi .tuple [.bi .sorted [.slc (.call 23 [.v 0, .bi (.listR false) [.v 1]]) (.no) (.v 6)]])],
  .ret (.v 4)]
def b_law_all_faces : List S := [
  .par 2 3 (.bi .max1 [.lc [5] (.nm 5) .seq [.v 0] [] (.bi .len [.v 5])]) (.lst []),
  .fr (.nm 1) (.rng true) [.c (.int 1), .bin .Add (.v 2) (.c (.int 1))] [.set 4 (.lst []), .fr (.nm 5) .seq [.v 0] [.set 6 (.lst [.tup []]), .fr (.nm 7) .seq [.v 5] [.set 6 (.bin .Add (.v 6) (.lc [8] (.nm 8) .seq [.v 6] [] (.bin .Add (.v 8) (.tup [.v 7]))))], .set 4 (.bin .Add (.v 4) (.lc [8] (.nm 8) .seq [.v 6] [.tand (.tv (.cmp .Eq (.bi .len [.v 8]) (.v 1))) (.tv (.cmp .NotIn (.v 8) (.v 4)))] (.v 8)))], .app 3 (.bi .sorted [.v 4])],
  .ret (.v 3)]
def b_law_greatest : List S := [
  .set 1 (.lst []),
  .fr (.nm 2) .seq [.bi .sorted [.v 0]] [.iff (.tv (.cmp .NotIn (.v 2) (.v 1))) [.app 1 (.v 2)] []],
  .ret (.bi .tuple [.lc [3] (.nm 3) .seq [.v 1] [.tnot (.tv (.bi .any [.lc [4] (.nm 4) .seq [.v 1] [] (.and (.cmp .NotEq (.v 3) (.v 4)) (.bi .all [.lc [5] (.nm 5) .seq [.v 3] [] (.cmp .In (.v 5) (.v 4))]))]))] (.v 3)])]
def b_law_fault : List S := [
  .try_ [.ex (.callc 0)] [(4, .t [.c (.str "faces"), .f "faces"]), (5, .t [.c (.str "lot"), .f "lot"]), (1, .t [.c (.str "number"), .f "what", .f "number"]), (3, .t [.c (.str "row"), .f "row"]), (2, .t [.c (.str "table"), .f "table"]), (7, .t [.c (.str "many"), .f "what", .f "many", .f "limit"]), (6, .t [.c (.str "unlike"), .f "what"])],
  .ret (.c (.non))]
def b_law_are_due : List S := [
  .ret (.bi .all [.lc [1, 2] (.tp [1, 2]) .seq [.v 0] [] (.cmp .Eq (.bi .repr [.call 26 [.v 1]]) (.bi .repr [.v 2]))])]
def blaw : List S := [
  .set 2 (.call 24 [.v 1, .bin .Add (.c (.int 3)) (.call 21 [.v 1, .c (.int 4)]), .bin .Add (.c (.int 1)) (.call 21 [.v 1, .c (.int 5)]), .c (.int 3)]),
  .set 2 (.bin .Add (.v 2) (.lst [.call 22 [.v 1, .v 2]])),
  .set 3 (.call 28 [.v 2]),
  .iff (.tv (.cmp .NotEq (.bi .repr [.call 14 [.call 22 [.v 1, .lst [.v 2, .bi .tuple [.v 2], .lc [18] (.nm 18) .seq [.v 2] [] (.bi .list [.v 18])]]]]) (.bi .repr [.v 3]))) [.ret (.c (.bl false))] [],
  .iff (.tor (.tv (.cmp .IsNot (.call 16 [.v 3]) (.c (.bl true)))) (.tv (.cmp .IsNot (.call 16 [.bi .list [.v 3]]) (.c (.bl false))))) [.ret (.c (.bl false))] [],
  .fr (.nm 4) .seq [.lst [.bi .tuple [.v 2], .bin .Add (.v 3) (.slc (.v 3) (.no) (.c (.int 1))), .rev (.v 3), .tup [], .c (.non), .tup [.tup [.c (.int 1), .c (.int 0)]], .tup [.v 3]]] [.iff (.tv (.cmp .NotEq (.bi .repr [.call 16 [.v 4]]) (.bi .repr [.cmp .Eq (.v 4) (.v 3)]))) [.ret (.c (.bl false))] []],
  .set 5 (.ix (.call 24 [.v 1, .c (.int 8), .c (.int 1), .c (.int 3)]) (.c (.int 0))),
  .iff (.tv (.cmp .NotEq (.bi .repr [.call 18 [.call 22 [.v 1, .lst [.v 3, .bi .list [.v 3]]], .bi .list [.v 5]]]) (.bi .repr [.call 28 [.bin .Add (.bi .list [.v 3]) (.lst [.v 5])]]))) [.ret (.c (.bl false))] [],
  .set 6 (.lst []),
  .fr (.nm 7) .seq [.call 25 [.bi .list [.v 3]]] [.set 6 (.bin .Add (.v 6) (.v 7))],
  .set 8 (.call 22 [.v 1, .v 6]),
  .set 9 (.lc [15] (.nm 15) .seq [.v 6] [.tnot (.tv (.bi .all [.lc [17] (.nm 17) .seq [.v 8] [] (.cmp .In (.v 17) (.v 15))]))] (.v 15)),
  .iff (.tv (.cmp .NotEq (.bi .repr [.call 19 [.v 3, .v 8]]) (.bi .repr [.ife (.tv (.cmp .NotEq (.v 9) (.lst []))) (.call 28 [.v 9]) (.c (.non))]))) [.ret (.c (.bl false))] [],
  .set 10 (.call 22 [.v 1, .lst [.c (.non), .tup [], .tup [.tup [.c (.int 1), .c (.int 0)]], .tup [.tup [.c (.int 0), .c (.int 1)], .tup [.c (.int 0)]], .c (.int 5), .tup [.tup [.c (.int 100)]]]]),
  .set 11 (.call 22 [.v 1, .lst [.c (.non), .tup [], .tup [.c (.int 1), .c (.int 0)], .tup [.c (.int 0), .c (.int 0)], .tup [.c (.int 100)], .c (.int 5), .tup [.c (.bl true)]]]),
  .set 12 (.tup [.c (.int 98), .c (.int 99)]),
  .set 13 (.lst [.tup [.lam 0 [10, 11], .tup [.c (.str "faces"), .v 10]]]),
  .app 13 (.tup [.lam 1 [3, 11], .tup [.c (.str "faces"), .v 11]]),
  .app 13 (.tup [.lam 2 [10, 11], .tup [.c (.str "faces"), .v 10]]),
  .app 13 (.tup [.lam 3 [3, 11], .tup [.c (.str "faces"), .v 11]]),
  .app 13 (.tup [.lam 4 [3, 12], .tup [.c (.str "faces"), .v 12]]),
  .app 13 (.tup [.lam 5 [], .tup [.c (.str "faces"), .tup []]]),
  .set 14 (.lc [16] (.nm 16) .rng3 [.c (.int 0), .c (.int 52), .c (.int 2)] [] (.tup [.v 16, .bin .Add (.v 16) (.c (.int 1))])),
  .app 13 (.tup [.lam 6 [14], .tup [.c (.str "many"), .c (.str "cells"), .c (.int 52), .c (.int 24)]]),
  .ret (.call 27 [.v 13])]
def names0 : List Str := ["ShellError", "BadNumber", "BadTable", "BadRow", "BadFaces", "BadLot", "Unlike", "TooMany", "is_whole", "in_tuples", "is_face", "faces_from", "is_within", "greatest_of", "book_of", "are_few", "is_book", "book_from", "with_face", "without_face", "_law_pen", "_law_draw", "_law_pick", "_law_shuffled", "_law_faces", "_law_all_faces", "_law_fault", "_law_are_due", "_law_greatest", "law"]
def names : List Str := names0
def exfs : List (Nat × List Str) := [(1, ["what", "number"]), (2, ["table"]), (3, ["row"]), (4, ["faces"]), (5, ["lot"]), (6, ["what"]), (7, ["what", "many", "limit"])]
def kwp : List ((Nat × List Str) × List Nat) := []
def C : Cc := { N := [], sc := ⟨.function, [], false, false, []⟩, blk := none, G := names, fns := [], gls := [1, 2, 3, 4, 5, 6, 7, 8, 9, 10, 11, 12, 13, 14, 15, 16, 17, 18, 19, 21, 22, 23, 24, 25, 26, 27, 28], bis := ["all", "any", "bool", "int", "isinstance", "len", "list", "max", "range", "repr", "set", "sorted", "tuple"], gcd := false, lams := [], exf := exfs, callc := false, maker := false, kst := [("MOST", 24), ("MOST_SIZE", 5)], root := none, isx := false, kwp := kwp, kwx := kwp.map (·.1), cmb := true }
def dis_whole : FD := ⟨8, top 11, ["value"], ["value"], bis_whole, 0, false⟩
def din_tuples : FD := ⟨9, top 12, ["value", "item"], ["value"], bin_tuples, 12, false⟩
def dis_face : FD := ⟨10, top 16, ["value", "k", "corner"], ["value"], bis_face, 0, false⟩
def dfaces_from : FD := ⟨11, top 17, ["faces", "made", "top", "out", "corners", "most", "found", "face", "part", "row"], ["faces"], bfaces_from, 0, false⟩
def dis_within : FD := ⟨12, top 19, ["one", "other", "corner"], ["one", "other"], bis_within, 0, false⟩
def dgreatest_of : FD := ⟨13, top 20, ["faces", "some", "one", "other"], ["faces"], bgreatest_of, 0, false⟩
def dbook_of : FD := ⟨14, top 21, ["faces"], ["faces"], bbook_of, 0, false⟩
def dare_few : FD := ⟨15, top 22, ["faces", "fault"], ["faces"], bare_few, 0, false⟩
def dis_book : FD := ⟨16, top 23, ["value", "face"], ["value"], bis_book, 0, false⟩
def dbook_from : FD := ⟨17, top 24, ["book", "made"], ["book"], bbook_from, 0, false⟩
def dwith_face : FD := ⟨18, top 25, ["book", "face", "made", "one"], ["book", "face"], bwith_face, 0, false⟩
def dwithout_face : FD := ⟨19, top 26, ["book", "face", "left", "level", "made", "one", "other"], ["book", "face"], bwithout_face, 0, false⟩
def d_law_draw : FD := ⟨21, top 29, ["pen", "many", "blend", "cell", "digit"], ["pen", "many"], b_law_draw, 0, false⟩
def d_law_pick : FD := ⟨22, top 30, ["pen", "some"], ["pen", "some"], b_law_pick, 0, false⟩
def d_law_shuffled : FD := ⟨23, top 31, ["pen", "some", "lap", "left", "found"], ["pen", "some"], b_law_shuffled, 0, false⟩
def d_law_faces : FD := ⟨24, top 32, ["pen", "corners", "many", "most", "found", "lap", "size"], ["pen", "corners", "many", "most"], b_law_faces, 0, false⟩
def d_law_all_faces : FD := ⟨25, top 33, ["faces", "size", "top", "found", "level", "face", "parts", "corner", "part"], ["faces"], b_law_all_faces, 0, false⟩
def d_law_greatest : FD := ⟨28, top 36, ["faces", "some", "face", "one", "far", "c"], ["faces"], b_law_greatest, 0, false⟩
def d_law_fault : FD := ⟨26, top 34, ["work", "fault"], ["work"], b_law_fault, 0, false⟩
def d_law_are_due : FD := ⟨27, top 35, ["tries", "work", "due"], ["tries"], b_law_are_due, 0, false⟩
def iBadNumber : Stmt := clsSt (top 3) 0
def xBadNumber : XD := ⟨1, "BadNumber", ["what", "number"], ⟨("BadNumber", some "__init__"), "__init__", "BadNumber.__init__", defArgs iBadNumber, defBody iBadNumber, defScope iBadNumber, [], []⟩⟩
def iBadTable : Stmt := clsSt (top 4) 0
def xBadTable : XD := ⟨2, "BadTable", ["table"], ⟨("BadTable", some "__init__"), "__init__", "BadTable.__init__", defArgs iBadTable, defBody iBadTable, defScope iBadTable, [], []⟩⟩
def iBadRow : Stmt := clsSt (top 5) 0
def xBadRow : XD := ⟨3, "BadRow", ["row"], ⟨("BadRow", some "__init__"), "__init__", "BadRow.__init__", defArgs iBadRow, defBody iBadRow, defScope iBadRow, [], []⟩⟩
def iBadFaces : Stmt := clsSt (top 6) 0
def xBadFaces : XD := ⟨4, "BadFaces", ["faces"], ⟨("BadFaces", some "__init__"), "__init__", "BadFaces.__init__", defArgs iBadFaces, defBody iBadFaces, defScope iBadFaces, [], []⟩⟩
def iBadLot : Stmt := clsSt (top 7) 0
def xBadLot : XD := ⟨5, "BadLot", ["lot"], ⟨("BadLot", some "__init__"), "__init__", "BadLot.__init__", defArgs iBadLot, defBody iBadLot, defScope iBadLot, [], []⟩⟩
def iUnlike : Stmt := clsSt (top 8) 0
def xUnlike : XD := ⟨6, "Unlike", ["what"], ⟨("Unlike", some "__init__"), "__init__", "Unlike.__init__", defArgs iUnlike, defBody iUnlike, defScope iUnlike, [], []⟩⟩
def iTooMany : Stmt := clsSt (top 9) 0
def xTooMany : XD := ⟨7, "TooMany", ["what", "many", "limit"], ⟨("TooMany", some "__init__"), "__init__", "TooMany.__init__", defArgs iTooMany, defBody iTooMany, defScope iTooMany, [], []⟩⟩
def lamEs : List E := [.call 18 [.v 0, .v 1], .call 18 [.v 2, .v 1], .call 19 [.v 0, .v 1], .call 19 [.v 2, .v 1], .call 19 [.v 2, .v 3], .call 14 [.tup []], .call 14 [.v 4]]
def lds : List LD := lamData (defBody (top 37)) lamEs
def dlaw : LawDef := lawDef (top 37) ["script", "pen", "faces", "book", "value", "more", "parts", "level", "gone", "left", "bad", "odd", "far", "tries", "great", "part", "k", "corner", "face"] 1 [10, 11, 3, 12, 14]
def fs1 : List FD := [dis_whole, din_tuples, dis_face, dfaces_from, dis_within, dgreatest_of, dbook_of, dare_few, dis_book, dbook_from, dwith_face, dwithout_face, d_law_draw, d_law_pick, d_law_shuffled, d_law_faces, d_law_all_faces, d_law_greatest]
def fs2 : List FD := [d_law_fault, d_law_are_due]
def D : LawD := { C := C, x0 := "ShellError", xds := [xBadNumber, xBadTable, xBadRow, xBadFaces, xBadLot, xUnlike, xTooMany], penSt := top 28, fs1 := fs1, fs2 := fs2, lds := lds, cN := ["bad", "odd", "book", "far", "great"], d := dlaw, lawSt := top 37, ss := blaw }
theorem ck : D.ck = true := by decide +kernel
theorem bdis_whole : BindOk C dis_whole := fun _ _ _ _ _ _ us hl => match us, hl with | [_], _ => rfl
theorem bdin_tuples : BindOk C din_tuples := fun _ _ _ _ _ _ us hl => match us, hl with | [_], _ => rfl
theorem bdis_face : BindOk C dis_face := fun _ _ _ _ _ _ us hl => match us, hl with | [_], _ => rfl
theorem bdfaces_from : BindOk C dfaces_from := fun _ _ _ _ _ _ us hl => match us, hl with | [_], _ => rfl
theorem bdis_within : BindOk C dis_within := fun _ _ _ _ _ _ us hl => match us, hl with | [_, _], _ => rfl
theorem bdgreatest_of : BindOk C dgreatest_of := fun _ _ _ _ _ _ us hl => match us, hl with | [_], _ => rfl
theorem bdbook_of : BindOk C dbook_of := fun _ _ _ _ _ _ us hl => match us, hl with | [_], _ => rfl
theorem bdare_few : BindOk C dare_few := fun _ _ _ _ _ _ us hl => match us, hl with | [_], _ => rfl
theorem bdis_book : BindOk C dis_book := fun _ _ _ _ _ _ us hl => match us, hl with | [_], _ => rfl
theorem bdbook_from : BindOk C dbook_from := fun _ _ _ _ _ _ us hl => match us, hl with | [_], _ => rfl
theorem bdwith_face : BindOk C dwith_face := fun _ _ _ _ _ _ us hl => match us, hl with | [_, _], _ => rfl
theorem bdwithout_face : BindOk C dwithout_face := fun _ _ _ _ _ _ us hl => match us, hl with | [_, _], _ => rfl
theorem bd_law_draw : BindOk C d_law_draw := fun _ _ _ _ _ _ us hl => match us, hl with | [_, _], _ => rfl
theorem bd_law_pick : BindOk C d_law_pick := fun _ _ _ _ _ _ us hl => match us, hl with | [_, _], _ => rfl
theorem bd_law_shuffled : BindOk C d_law_shuffled := fun _ _ _ _ _ _ us hl => match us, hl with | [_, _], _ => rfl
theorem bd_law_faces : BindOk C d_law_faces := fun _ _ _ _ _ _ us hl => match us, hl with | [_, _, _, _], _ => rfl
theorem bd_law_all_faces : BindOk C d_law_all_faces := fun _ _ _ _ _ _ us hl => match us, hl with | [_], _ => rfl
theorem bd_law_greatest : BindOk C d_law_greatest := fun _ _ _ _ _ _ us hl => match us, hl with | [_], _ => rfl
theorem bd_law_fault : BindOk C d_law_fault := fun _ _ _ _ _ _ us hl => match us, hl with | [_], _ => rfl
theorem bd_law_are_due : BindOk C d_law_are_due := fun _ _ _ _ _ _ us hl => match us, hl with | [_], _ => rfl
theorem biBadNumber : BindX xBadNumber := fun _ _ _ _ _ _ us hl => match us, hl with | [_, _, _], _ => rfl
theorem biBadTable : BindX xBadTable := fun _ _ _ _ _ _ us hl => match us, hl with | [_, _], _ => rfl
theorem biBadRow : BindX xBadRow := fun _ _ _ _ _ _ us hl => match us, hl with | [_, _], _ => rfl
theorem biBadFaces : BindX xBadFaces := fun _ _ _ _ _ _ us hl => match us, hl with | [_, _], _ => rfl
theorem biBadLot : BindX xBadLot := fun _ _ _ _ _ _ us hl => match us, hl with | [_, _], _ => rfl
theorem biUnlike : BindX xUnlike := fun _ _ _ _ _ _ us hl => match us, hl with | [_, _], _ => rfl
theorem biTooMany : BindX xTooMany := fun _ _ _ _ _ _ us hl => match us, hl with | [_, _, _, _], _ => rfl
theorem binds1 : ∀ f ∈ fs1 ++ fs2, BindOk C f := all_app (all_cons bdis_whole (all_cons bdin_tuples (all_cons bdis_face (all_cons bdfaces_from (all_cons bdis_within (all_cons bdgreatest_of (all_cons bdbook_of (all_cons bdare_few (all_cons bdis_book (all_cons bdbook_from (all_cons bdwith_face (all_cons bdwithout_face (all_cons bd_law_draw (all_cons bd_law_pick (all_cons bd_law_shuffled (all_cons bd_law_faces (all_cons bd_law_all_faces (all_cons bd_law_greatest all_nil)))))))))))))))))) (all_cons bd_law_fault (all_cons bd_law_are_due all_nil))
theorem binds2 : ∀ d ∈ D.xds, BindX d := all_cons biBadNumber (all_cons biBadTable (all_cons biBadRow (all_cons biBadFaces (all_cons biBadLot (all_cons biUnlike (all_cons biTooMany all_nil))))))
theorem binds5 : ∀ p ∈ D.C.kwp, ∀ d ∈ D.xds, d.g = p.1.1 → BindKX d p.1.2 p.2 := all_nil
def loose0 : List Str := ["combinations", "ShellError", "BadNumber", "BadTable", "BadRow", "BadFaces", "BadLot", "Unlike", "TooMany", "is_whole", "in_tuples", "MOST", "MOST_SIZE", "is_face", "faces_from", "is_within", "greatest_of", "book_of", "are_few", "is_book", "book_from", "with_face", "without_face", "_law_pen", "_law_draw", "_law_pick", "_law_shuffled", "_law_faces", "_law_all_faces", "_law_fault"]
def loose1 : List Str := ["_law_are_due", "_law_greatest"]
def loose : List Str := loose0 ++ loose1
abbrev R : PySem.W.OpenRow := PySem.W.OpenLaw.row PySem.Challenge.rw_shelltrees_k80_books_of_faces
abbrev hk : PySem.W.Hook := hookY 5 D.fa D.fn D.tf D.ex
def ob (s : PySem.W.SharedT) : He.AlX := obsY 5 D.fa D.fn D.tf D.ex (HandSHeadRun.getT s)
theorem ob_eq (s : PySem.W.SharedT) : ob s = hk.obs s.abs := obsY_eq (HandSHeadRun.getT_eq s)
abbrev ilaw : Nat := 37
end Law

set_option Elab.async false
set_option linter.all false
set_option maxRecDepth 100000
set_option maxHeartbeats 0
/-! KP1: law_k80: faces, in plain words. -/
namespace DL
open PySem
variable {Γ : Gam} {ρ : Env}
theorem ed_kst {n : Nat} {d : D} (h : Γ.cst n = some d) : EvD Γ (.kst n) ρ d := ⟨none, by rw [ev, h]; rfl⟩
theorem ed_cmp2 {o1 o2 : CmpOp} {a b c : E} {x y z : D} {t u : Bool} (ha : EvD Γ a ρ x) (hb : EvD Γ b ρ y) (h1 : cmpD o1 x y = some t) (hc : t = true → EvD Γ c ρ z) (h2 : t = true → cmpD o2 y z = some u) (hu : t = false → u = false) : EvD Γ (.cmp2 o1 o2 a b c) ρ (.bl u) := by
  obtain ⟨s, ea⟩ := ha
  obtain ⟨s', eb⟩ := hb
  refine ⟨none, ?_⟩
  rw [ev, bndE ea, bndE vw_frz, bndE eb, bndE vw_frz, h1]
  cases t with
  | false => rw [hu rfl]; rfl
  | true =>
    obtain ⟨s2, ec⟩ := hc rfl
    show bnd (ev Γ c) _ ρ = _
    rw [bndE ec, bndE vw_frz, h2 rfl]; rfl
theorem eb_bl {a : E} {t : Bool} (h : EvD Γ a ρ (.bl t)) : EvB Γ (.tv a) ρ t := eb_tv h rfl
theorem ed_len {e : E} {xs : List D} (h : EvD Γ e ρ (.tup xs)) : EvD Γ (.bi .len [e]) ρ (.int xs.length) := ed_bi rfl (vs_cons h vs_nil) rfl
theorem ed_lenL {e : E} {xs : List D} (h : EvD Γ e ρ (.lst xs)) : EvD Γ (.bi .len [e]) ρ (.int xs.length) := ed_bi rfl (vs_cons h vs_nil) rfl
/-- all of a comprehension that changes nothing, each True or False -/
theorem ed_allC {own : List Nat} {tg : Tg} {kd : ItK} {es : List E} {elt : E} {ds : List D} {q : D → Bool} (hi : evIt Γ false kd es ρ = .ok ds ρ) (hn : ds.length ≤ lineN) (nd : own.Nodup) (lt : ∀ i ∈ own, i < ρ.sl.length)
    (step : ∀ d ∈ ds, ∀ X : List (Option O), ∃ sd, asgT tg d ⟨wipeO ρ.sl own ++ X, ρ.pen⟩ = .ok () ⟨sd ++ X, ρ.pen⟩ ∧ wipeO sd own = wipeO ρ.sl own ∧ EvD Γ elt ⟨sd ++ X, ρ.pen⟩ (.bl (q d))) :
    EvD Γ (.bi .all [.lc own tg kd es [] elt]) ρ (.bl (ds.all q)) := by
  have h := en_lc (Γ := Γ) (elt := elt) (P := fun _ => true) (f := fun d => O.frz (.bl (q d))) (ifs := []) hi hn nd lt fun d hd X => by
    obtain ⟨sd, h1, h2, h3⟩ := step d hd X
    exact ⟨sd, h1, h2, tq_nil, fun _ => ⟨eo_d h3, rfl⟩⟩
  rw [filter_true] at h
  have h2 := ed_all (bs := ds.map q) (by rw [List.map_map]; exact h)
  rw [List.all_map] at h2
  exact h2
theorem ed_anyC {own : List Nat} {tg : Tg} {kd : ItK} {es : List E} {elt : E} {ds : List D} {q : D → Bool} (hi : evIt Γ false kd es ρ = .ok ds ρ) (hn : ds.length ≤ lineN) (nd : own.Nodup) (lt : ∀ i ∈ own, i < ρ.sl.length)
    (step : ∀ d ∈ ds, ∀ X : List (Option O), ∃ sd, asgT tg d ⟨wipeO ρ.sl own ++ X, ρ.pen⟩ = .ok () ⟨sd ++ X, ρ.pen⟩ ∧ wipeO sd own = wipeO ρ.sl own ∧ EvD Γ elt ⟨sd ++ X, ρ.pen⟩ (.bl (q d))) :
    EvD Γ (.bi .any [.lc own tg kd es [] elt]) ρ (.bl (ds.any q)) := by
  have h := en_lc (Γ := Γ) (elt := elt) (P := fun _ => true) (f := fun d => O.frz (.bl (q d))) (ifs := []) hi hn nd lt fun d hd X => by
    obtain ⟨sd, h1, h2, h3⟩ := step d hd X
    exact ⟨sd, h1, h2, tq_nil, fun _ => ⟨eo_d h3, rfl⟩⟩
  rw [filter_true] at h
  have h2 := ed_any (bs := ds.map q) (by rw [List.map_map]; exact h)
  rw [List.any_map] at h2
  exact h2
theorem rng1 {j : Int} (h0 : -(2 ^ 62) ≤ j) (h1 : j < 2 ^ 62) : rngD false [.int j] = some ((List.range j.toNat).map fun (k : Nat) => D.int (0 + k)) := by
  show (if -(2 ^ 62) ≤ j ∧ j < 2 ^ 62 then _ else none) = _
  rw [if_pos ⟨h0, h1⟩]
theorem rng2 {i j : Int} (h0 : -(2 ^ 62) ≤ i) (h1 : i < 2 ^ 62) (h2 : -(2 ^ 62) ≤ j) (h3 : j < 2 ^ 62) : rngD true [.int i, .int j] = some ((List.range (j - i).toNat).map fun (k : Nat) => D.int (i + k)) := by
  show (if -(2 ^ 62) ≤ i ∧ i < 2 ^ 62 ∧ -(2 ^ 62) ≤ j ∧ j < 2 ^ 62 then _ else none) = _
  rw [if_pos ⟨h0, h1, h2, h3⟩]
/-- a face: one to three corners, ascending -/
structure Face (n : List Int) : Prop where
  l1 : 1 ≤ n.length
  l3 : n.length ≤ 3
  asc : n.Pairwise (· < ·)
  lo : ∀ c ∈ n, 0 ≤ c
  hi : ∀ c ∈ n, c ≤ 99
theorem row_ix {n : List Int} {k : Nat} (h : k < n.length) : ixD (rowD n) ((k : Nat) : Int) = some (.int n[k]) := by
  show L2.atI (n.map D.int) (k : Int) = _
  unfold L2.atI L2.ixN
  rw [if_pos (Int.natCast_nonneg k), if_pos (by rw [List.length_map]; omega)]
  show (n.map D.int)[((k : Nat) : Int).toNat]? = _
  rw [Int.toNat_natCast, List.getElem?_map, List.getElem?_eq_getElem h]; rfl
end DL
namespace Law
open PySem DL
theorem face_ok {Γ Γ' : Gam} (hw : Γ.fn 8 = some (defFn Γ' 1 1 wholeB)) (hk : Γ.cst 1 = some (.int 5)) {n : List Int} (F : Face n) : Fp (defFn Γ 1 3 bis_face) [rowD n] (.bl true) := by
  have ll : (n.map D.int).length = n.length := List.length_map _
  have l1 := F.l1
  have l3 := F.l3
  have e5 : (n.map D.int).length ≤ lineN := by
    rw [ll]
    have : (8 : Nat) ≤ lineN := by decide
    omega
  refine fp_of rfl fun p => ?_
  apply Exists.intro
  -- a tuple of one to five
  refine (ss_if_no (eb_or (c := false) (d := false) (eb_not (c := true) (eb_bl (ed_isa (ed_v (i := 0) (d := rowD n) rfl) rfl))) (fun _ => eb_not (c := true) (eb_bl (ed_cmp2 (t := true) (u := true) ed_ci (ed_len (ed_v (i := 0) rfl)) ?_ (fun _ => ed_kst hk) (fun _ => ?_) (fun z => nomatch z)))) rfl)).trans ?_
  · show some (decide ((1 : Int) ≤ ((n.map D.int).length : Nat))) = _
    rw [ll, decide_eq_true (by omega)]
  · show some (decide (((n.map D.int).length : Int) ≤ 5)) = _
    rw [ll, decide_eq_true (by omega)]
  -- of whole numbers from 0 to 99
  refine (ss_if_no (eb_not (c := true) (eb_bl ?_))).trans ?_
  · have h := ed_allC (Γ := Γ) (ρ := ⟨[some (.frz (rowD n)), none, none], p⟩) (own := [2]) (tg := .nm 2) (kd := .seq) (es := [.v 0]) (elt := .and (.call 8 [.v 2]) (.cmp2 .LtE .LtE (.c (.int 0)) (.v 2) (.c (.int 99)))) (ds := n.map D.int) (q := fun _ => true) (it_seq (el_tup (ed_v rfl))) e5 (by decide) (by simp) fun d hd X => by
      obtain ⟨c, hc, rfl⟩ := List.mem_map.mp hd
      refine ⟨[some (.frz (rowD n)), none, some (.frz (.int c))], rfl, rfl, ?_⟩
      refine ed_and (t := true) (x := .bl true) (ed_call hw (es_cons (ed_v rfl) es_nil) (whole_ok rfl)) rfl (fun _ => ?_) (fun z => nomatch z)
      refine ed_cmp2 (t := true) (u := true) ed_ci (ed_v (i := 2) rfl) ?_ (fun _ => ed_ci) (fun _ => ?_) (fun z => nomatch z)
      · show some (decide ((0 : Int) ≤ c)) = _
        rw [decide_eq_true (F.lo c hc)]
      · show some (decide (c ≤ (99 : Int))) = _
        rw [decide_eq_true (F.hi c hc)]
    have e : (n.map D.int).all (fun _ => true) = true := by simp
    rw [e] at h
    exact h
  -- ascending
  refine ss_ret ?_
  have rg : rngD false [.int (((n.map D.int).length : Nat) - (1 : Int))] = some ((List.range (n.length - 1)).map fun (k : Nat) => D.int (0 + k)) := by
    rw [ll, rng1 (by omega) (by omega)]
    congr 3
    omega
  have e6 : ((List.range (n.length - 1)).map fun (k : Nat) => D.int (0 + k)).length ≤ lineN := by
    rw [List.length_map, List.length_range]
    have : (8 : Nat) ≤ lineN := by decide
    omega
  have h := ed_allC (Γ := Γ) (ρ := ⟨[some (.frz (rowD n)), none, none], p⟩) (own := [1]) (tg := .nm 1) (kd := .rng false) (es := [.bin .Sub (.bi .len [.v 0]) (.c (.int 1))]) (elt := .cmp .Lt (.v1 0 (.v 1)) (.v1 0 (.bin .Add (.v 1) (.c (.int 1))))) (q := fun _ => true)
    (it_rng (vs_cons (ed_sub (ed_len (ed_v rfl)) ed_ci) vs_nil) rg) e6 (by decide) (by simp) fun d hd X => by
      obtain ⟨k, hk', rfl⟩ := List.mem_map.mp hd
      have hlt := List.mem_range.mp hk'
      have k0 : k < n.length := by omega
      have k1 : k + 1 < n.length := by omega
      refine ⟨[some (.frz (rowD n)), some (.frz (.int (0 + k))), none], rfl, rfl, ?_⟩
      refine ed_cmp (x := .int n[k]) (y := .int n[k + 1]) (ed_v1 (x := rowD n) rfl (ed_v rfl) ?_) (ed_v1 (x := rowD n) rfl (ed_add (ed_v (i := 1) rfl) ed_ci) ?_) ?_
      · rw [Int.zero_add]; exact row_ix k0
      · rw [Int.zero_add, show ((k : Int) + 1) = ((k + 1 : Nat) : Int) by omega]; exact row_ix k1
      · show some (decide (n[k] < n[k + 1])) = _
        rw [decide_eq_true (List.pairwise_iff_getElem.mp F.asc k (k + 1) k0 k1 (by omega))]
  have e : ((List.range (n.length - 1)).map fun (k : Nat) => D.int (0 + k)).all (fun _ => true) = true := by simp
  rw [e] at h
  exact h
end Law

set_option Elab.async false
set_option linter.all false
set_option maxRecDepth 100000
set_option maxHeartbeats 0
/-! KP2: law_k80: the greatest of some faces, by the program and by the law. -/
namespace DL
open PySem
variable {Γ : Gam} {ρ : Env}
theorem ed_cmpV {op : CmpOp} {a : E} {i : Nat} {x : D} {o : O} {t : Bool} (ha : EvD Γ a ρ x) (hi : ρ.sl[i]? = some (some o)) (h : cmpO op x o = some t) : EvD Γ (.cmp op a (.v i)) ρ (.bl t) := by
  obtain ⟨s, ea⟩ := ha
  refine ⟨none, ?_⟩
  rw [ev, bndE ea, bndE vw_frz, ev, bndE (rd_ok hi)]
  show bnd (lft (cmpO op x o)) _ ρ = _
  rw [h]; rfl
theorem intsOf_map : ∀ n : List Int, intsOf (n.map D.int) = some n
  | [] => rfl
  | i :: n => by rw [List.map_cons, intsOf, intsOf_map n]; rfl
theorem rowsD_map : ∀ ns : Rows, rowsD (ns.map rowD) = some ns
  | [] => rfl
  | n :: ns => by
    rw [List.map_cons]
    show (intsOf (n.map D.int)).bind _ = _
    rw [intsOf_map, rowsD_map ns]; rfl
def rowOf : D → List Int
  | .tup xs => xs.map fun | .int i => i | _ => 0
  | _ => []
theorem rowOf_row (n : List Int) : rowOf (rowD n) = n := by
  show (n.map D.int).map (fun x => match x with | .int i => i | _ => 0) = n
  rw [List.map_map]
  exact List.map_id n
theorem eqv_row (a b : List Int) : PyData.eqv (rowD a).py (rowD b).py = decide (a = b) := by
  unfold rowD
  simp only [D.py, PyData.eqv]
  exact eqv_ints a b
theorem cmp_ne_row (a b : List Int) : cmpO .NotEq (rowD a) (.frz (rowD b)) = some (!decide (a = b)) := by
  show (if okEq (rowD a) && okEq (rowD b) then some (!PyData.eqv (rowD a).py (rowD b).py) else none) = _
  rw [okEq_row, okEq_row, eqv_row]; rfl
theorem any_int (c : Int) : ∀ b : List Int, ((b.map D.int).any fun y => PyData.eqv y.py (D.int c).py) = decide (c ∈ b)
  | [] => rfl
  | x :: b => by
    rw [List.map_cons, List.any_cons, any_int c b]
    simp only [D.py, PyData.eqv]
    by_cases h : c = x
    · subst h; simp
    · have h' : ¬ x = c := fun e => h e.symm
      simp [h, h']
theorem cmp_in_row (c : Int) (b : List Int) : cmpO .In (.int c) (.frz (rowD b)) = some (decide (c ∈ b)) := by
  show (if okEq (.int c) && okEq (rowD b) then some ((b.map D.int).any fun y => PyData.eqv y.py (D.int c).py) else none) = _
  rw [okEq_row, any_int]; rfl
theorem alike_ints : ∀ a b : List Int, PySem.W.alikeAll (D.pys (a.map D.int)) (D.pys (b.map D.int)) = true
  | [], b => by simp [D.pys, PySem.W.alikeAll]
  | a :: as, [] => by simp [D.pys, PySem.W.alikeAll]
  | a :: as, b :: bs => by
    simp only [List.map_cons, D.pys, D.py, PySem.W.alikeAll, alike_ints as bs, PySem.W.alike]
    rfl
theorem alike_row (a b : List Int) : PySem.W.alike (rowD a).py (rowD b).py = true := by
  unfold rowD
  simp only [D.py, PySem.W.alike]
  exact alike_ints a b
theorem alike_rows : ∀ ns : Rows, alikeD (ns.map rowD) = true
  | [] => rfl
  | n :: ns => by
    rw [List.map_cons]
    simp only [alikeD, Bool.and_eq_true, List.all_eq_true, Bool.not_eq_true']
    refine ⟨⟨⟨⟨okEq_row n, alike_row n n⟩, fun e he => ?_⟩, rfl⟩, alike_rows ns⟩
    obtain ⟨m, _, rfl⟩ := List.mem_map.mp he
    exact ⟨alike_row n m, alike_row m n⟩
theorem sortable_rows {ns : Rows} (h : ∀ n ∈ ns, n ≠ []) : sortableD (ns.map rowD) = true := by
  unfold sortableD
  rw [Bool.or_eq_true]
  refine .inl (List.all_eq_true.mpr fun d hd => ?_)
  obtain ⟨n, hn, rfl⟩ := List.mem_map.mp hd
  cases n with
  | nil => exact absurd rfl (h _ hn)
  | cons a n => rfl
/-- how the greatest are picked, said of data -/
def keepP (S : Rows) (d : D) : Bool := !(S.any fun far => !decide (rowOf d = far) && inR (rowOf d) far)
theorem keep_map (S : Rows) : ((S.map rowD).filter (keepP S)).map O.frz = ((keepG S).map rowD).map O.frz := by
  congr 1
  rw [List.filter_map]
  congr 1
  refine List.filter_congr fun n _ => ?_
  show keepP S (rowD n) = _
  unfold keepP
  rw [rowOf_row]
theorem once_few : ∀ ns : Rows, (onceL ns).length ≤ ns.length
  | [] => Nat.le_refl _
  | x :: xs => by
    rw [onceL, List.length_cons, List.length_cons]
    have h1 := List.length_filter_le (fun y => !decide (y = x)) (onceL xs)
    have := once_few xs
    omega
theorem rowsS_len (ns : Rows) : (rowsS ns).length ≤ ns.length := by
  have := (srt_p (onceL ns)).length_eq
  unfold rowsS
  rw [this]; exact once_few ns
theorem l64 : (64 : Nat) ≤ lineN := by decide
theorem en_sets {e : E} {ns : Rows} {d : D} (h : EvD Γ e ρ d) (hd : itemsD d = some (ns.map rowD)) (h64 : ns.length < 64) (hne : ∀ n ∈ ns, n ≠ []) : EvN Γ (.sets [e]) ρ (.own (((rowsS ns).map rowD).map O.frz)) := by
  have hs : setD [d] = some ns := by
    show (itemsD d).bind _ = _
    rw [hd]
    show (if (ns.map rowD).length < 64 then rowsD (ns.map rowD) else none) = _
    rw [List.length_map, if_pos h64, rowsD_map]
  have ho : ∀ n ∈ onceL ns, n ≠ [] := fun n hn => hne n ((mem_onceL ns n).mp hn)
  have hv : setSortD [d] = some (.own (((rowsS ns).map rowD).map O.frz)) := by
    unfold setSortD
    rw [hs]
    show (if (alikeD ((onceL ns).map rowD) && sortableD ((onceL ns).map rowD)) = true then some (O.own ((sortD ((onceL ns).map rowD)).map O.frz)) else none) = _
    rw [alike_rows, sortable_rows ho, sortD_rows]; rfl
  unfold EvN
  rw [ev, bndE (es_cons h es_nil), hv]; rfl
end DL
namespace Law
open PySem DL
theorem within_ok {Γ : Gam} (a b : List Int) (hl : a.length ≤ lineN) : Fp (defFn Γ 2 3 bis_within) [rowD a, rowD b] (.bl (inR a b)) := by
  refine fp_of rfl fun p => ?_
  apply Exists.intro
  refine ss_ret ?_
  have h := ed_allC (Γ := Γ) (ρ := ⟨[some (.frz (rowD a)), some (.frz (rowD b)), none], p⟩) (own := [2]) (tg := .nm 2) (kd := .seq) (es := [.v 0]) (elt := .cmp .In (.v 2) (.v 1)) (ds := a.map D.int) (q := fun d => match d with | .int c => decide (c ∈ b) | _ => false) (it_seq (el_tup (ed_v rfl))) (by rw [List.length_map]; exact hl) (by decide) (by simp) fun d hd X => by
    obtain ⟨c, hc, rfl⟩ := List.mem_map.mp hd
    exact ⟨[some (.frz (rowD a)), some (.frz (rowD b)), some (.frz (.int c))], rfl, rfl, ed_cmp (ed_v (i := 2) rfl) (ed_v (i := 1) rfl) (cmp_in_row c b)⟩
  rw [List.all_map] at h
  exact h
theorem greatest_ok {Γ Γ' : Gam} (hw : Γ.fn 12 = some (defFn Γ' 2 3 bis_within)) {ns : Rows} {d : DL.D} (hd : itemsD d = some (ns.map rowD)) (h64 : ns.length < 64) (hne : ∀ n ∈ ns, n ≠ []) (hl : ∀ n ∈ ns, n.length ≤ lineN) : Fp (defFn Γ 1 4 bgreatest_of) [d] (.tup ((grt ns).map rowD)) := by
  have lS : ((rowsS ns).map rowD).length ≤ lineN := by
    rw [List.length_map]
    have := rowsS_len ns
    have := l64
    omega
  refine fp_of rfl fun p => ?_
  apply Exists.intro
  refine (ss_setO (eo_n (en_sets (ed_v (i := 0) rfl) hd h64 hne))).trans ?_
  show evSs Γ _ ⟨[some (.frz d), some (.own (((rowsS ns).map rowD).map O.frz)), none, none], p⟩ = _
  refine ss_ret ?_
  refine ed_tupN (ds := (grt ns).map rowD) ?_
  have h := en_lc (Γ := Γ) (ρ := ⟨[some (.frz d), some (.own (((rowsS ns).map rowD).map O.frz)), none, none], p⟩) (own := [2]) (tg := .nm 2) (kd := .seq) (es := [.v 1]) (ifs := [.tnot (.tv (.bi .any [.lc [3] (.nm 3) .seq [.v 1] [] (.and (.cmp .NotEq (.v 2) (.v 3)) (.call 12 [.v 2, .v 3]))]))]) (elt := .v 2) (ds := (rowsS ns).map rowD) (P := keepP (rowsS ns)) (f := O.frz) (it_seq (el_v rfl)) lS (by decide) (by simp) fun x hx X => by
    obtain ⟨a, ha, rfl⟩ := List.mem_map.mp hx
    refine ⟨[some (.frz d), some (.own (((rowsS ns).map rowD).map O.frz)), some (.frz (rowD a)), none], rfl, rfl, tq_one (eb_not (eb_bl ?_)), fun _ => ⟨eo_d (ed_v rfl), rfl⟩⟩
    have h2 := ed_anyC (Γ := Γ) (ρ := ⟨[some (.frz d), some (.own (((rowsS ns).map rowD).map O.frz)), some (.frz (rowD a)), none] ++ X, p⟩) (own := [3]) (tg := .nm 3) (kd := .seq) (es := [.v 1]) (elt := .and (.cmp .NotEq (.v 2) (.v 3)) (.call 12 [.v 2, .v 3])) (ds := (rowsS ns).map rowD) (q := fun y => !decide (a = rowOf y) && inR a (rowOf y)) (it_seq (el_v rfl)) lS (by decide) (by simp) fun y hy X2 => by
      obtain ⟨b, hb, rfl⟩ := List.mem_map.mp hy
      refine ⟨[some (.frz d), some (.own (((rowsS ns).map rowD).map O.frz)), some (.frz (rowD a)), some (.frz (rowD b))] ++ X, rfl, rfl, ?_⟩
      rw [rowOf_row]
      refine ed_and (t := !decide (a = b)) (x := .bl (!decide (a = b))) (ed_cmp (ed_v (i := 2) rfl) (ed_v (i := 3) rfl) (cmp_ne_row a b)) rfl (fun e => ?_) (fun e => ?_)
      · rw [e, Bool.true_and]
        exact ed_call hw (es_cons (ed_v (i := 2) rfl) (es_cons (ed_v (i := 3) rfl) es_nil)) (within_ok a b (hl a ((mem_rowsS ns a).mp ha)))
      · rw [e]; rfl
    rw [List.any_map] at h2
    have e : ((rowsS ns).any ((fun y => !decide (a = rowOf y) && inR a (rowOf y)) ∘ rowD)) = (rowsS ns).any fun far => !decide (rowOf (rowD a) = far) && inR (rowOf (rowD a)) far := by
      rw [rowOf_row]
      congr 1
      funext y
      show (!decide (a = rowOf (rowD y)) && inR a (rowOf (rowD y))) = _
      rw [rowOf_row]
    rw [e] at h2
    exact h2
  rw [keep_map] at h
  exact h
end Law

set_option Elab.async false
set_option linter.all false
set_option maxRecDepth 100000
set_option maxHeartbeats 0
/-! KP3: law_k80: the law's own greatest. -/
namespace DL
open PySem
variable {Γ : Gam} {ρ : Env}
theorem s_app_ok {i : Nat} {e : E} {o : O} {os : List O} (hi : ρ.sl[i]? = some (some (.own os))) (h : EvO Γ e ρ o) (ht : o.hasT = false) (hl : os.length < lineN) : evS Γ (.app i e) ρ = .ok .nx (ρ.set i (some (.own (os ++ [o])))) := by
  have h1 : isOwn i ρ = .ok () ρ := by unfold isOwn; rw [hi]
  unfold EvO at h
  rw [evS, bndE h1, bndL, bndE h, bndE (show noT o ρ = .ok () ρ by unfold noT; rw [ht]; rfl)]
  unfold modOwn
  rw [hi]
  show (match (if os.length < lineN then some (os ++ [o]) else none) with
    | some os' => Res.ok Fl.nx (ρ.set i (some (O.own os')))
    | none => Res.bad) = _
  rw [if_pos hl]
theorem ss_ok {s : S} {ss : List S} {ρ' : Env} (h : evS Γ s ρ = .ok .nx ρ') : evSs Γ (s :: ss) ρ = evSs Γ ss ρ' := by
  rw [evSs]
  unfold seqF
  rw [bndE h]
/-- a for whose laps all go on: what it leaves -/
theorem ss_for {tg : Tg} {kd : ItK} {es : List E} {body ss : List S} {ds : List D} {ρ' : Env} (hi : evIt Γ true kd es ρ = .ok ds ρ) (h : forF tg (evSs Γ body) ds ρ = .ok .nx ρ') : evSs Γ (.fr tg kd es body :: ss) ρ = evSs Γ ss ρ' := by
  refine ss_ok ?_
  rw [evS, bndE hi]; exact h
theorem for_nil {tg : Tg} {body : M Fl} : forF tg body [] ρ = .ok .nx ρ := rfl
theorem for_cons {tg : Tg} {body : M Fl} {d : D} {ds : List D} {ρ1 ρ2 : Env} {r : Res Env Fl} (h1 : asgT tg d ρ = .ok () ρ1) (h2 : body ρ1 = .ok .nx ρ2) (h3 : forF tg body ds ρ2 = r) : forF tg body (d :: ds) ρ = r := by
  show bnd (asgT tg d) _ ρ = _
  rw [bndE h1, bndE h2]; exact h3
theorem plains_rows : ∀ ns : Rows, D.plains (ns.map rowD) = true
  | [] => rfl
  | n :: ns => by
    rw [List.map_cons, D.plains, plains_rows ns]
    unfold rowD
    rw [D.plain, plains_ints]; rfl
theorem depth_rows : ∀ ns : Rows, PyData.depthAll (D.pys (ns.map rowD)) ≤ 3
  | [] => by simp [D.pys, PyData.depthAll]
  | n :: ns => by
    have h1 := depth_rows ns
    have h2 := depth_ints n
    simp only [List.map_cons, D.pys, PyData.depthAll]
    unfold rowD
    simp only [D.py, PyData.depth]
    unfold rowD at h1
    omega
theorem okEq_rows (ns : Rows) : okEq (.lst (ns.map rowD)) = true ∧ okEq (.tup (ns.map rowD)) = true := by
  have h := depth_rows ns
  have h8 : (8 : Nat) ≤ deepN := by decide
  constructor
  · have h2 : (D.lst (ns.map rowD)).py.depth ≤ deepN := by
      simp only [D.py, PyData.depth]; omega
    unfold okEq
    rw [D.plain, plains_rows, decide_eq_true h2]; rfl
  · have h2 : (D.tup (ns.map rowD)).py.depth ≤ deepN := by
      simp only [D.py, PyData.depth]; omega
    unfold okEq
    rw [D.plain, plains_rows, decide_eq_true h2]; rfl
theorem any_row (c : List Int) : ∀ b : Rows, ((b.map rowD).any fun y => PyData.eqv y.py (rowD c).py) = decide (c ∈ b)
  | [] => rfl
  | x :: b => by
    rw [List.map_cons, List.any_cons, any_row c b, eqv_row]
    by_cases h : c = x
    · subst h; simp
    · have h' : ¬ x = c := fun e => h e.symm
      simp [h, h']
theorem cmp_nin_own (c : List Int) (b : Rows) : cmpO .NotIn (rowD c) (.own ((b.map rowD).map O.frz)) = some (!decide (c ∈ b)) := by
  show (if (O.own ((b.map rowD).map O.frz)).hasT = true then none else cmpD .NotIn (rowD c) (O.own ((b.map rowD).map O.frz)).d) = _
  rw [own_hasT, own_d]
  show (if okEq (rowD c) && okEq (.lst (b.map rowD)) then some (!(b.map rowD).any fun y => PyData.eqv y.py (rowD c).py) else none) = _
  rw [okEq_row, (okEq_rows b).1, any_row]; rfl
theorem en_sorted {e : E} {ns : Rows} {d : D} (h : EvD Γ e ρ d) (hd : itemsD d = some (ns.map rowD)) (hne : ∀ n ∈ ns, n ≠ []) : EvN Γ (.bi .sorted [e]) ρ (.own (((srt ns).map rowD).map O.frz)) := by
  refine en_biE rfl (es_cons h es_nil) ?_
  show (itemsD d).bind _ = _
  rw [hd]
  show (if (alikeD (ns.map rowD) && sortableD (ns.map rowD)) = true then some (O.own ((sortD (ns.map rowD)).map O.frz)) else none) = _
  rw [alike_rows, sortable_rows hne, sortD_rows]; rfl
theorem foldK_len : ∀ (xs acc : Rows), (foldK acc xs).length ≤ acc.length + xs.length
  | [], acc => Nat.le_refl _
  | x :: xs, acc => by
    rw [foldK, List.length_cons]
    split
    · have := foldK_len xs acc; omega
    · have := foldK_len xs (acc ++ [x])
      rw [List.length_append, List.length_singleton] at this
      omega
end DL
namespace Law
open PySem DL
abbrev lgS (d : DL.D) (acc : Rows) (v2 : Option O) : List (Option O) := [some (.frz d), some (.own ((acc.map rowD).map O.frz)), v2, none, none, none]
theorem lg_loop {Γ : Gam} {d : DL.D} {p : Pen} : ∀ (xs acc : Rows) (v2 : Option O), acc.length + xs.length ≤ lineN → ∃ v2', forF (.nm 2) (evSs Γ [.iff (.tv (.cmp .NotIn (.v 2) (.v 1))) [.app 1 (.v 2)] []]) (xs.map rowD) ⟨lgS d acc v2, p⟩ = .ok .nx ⟨lgS d (foldK acc xs) v2', p⟩
  | [], acc, v2, _ => ⟨v2, rfl⟩
  | x :: xs, acc, v2, hl => by
    rw [List.length_cons] at hl
    have ht : EvB Γ (.tv (.cmp .NotIn (.v 2) (.v 1))) ⟨lgS d acc (some (.frz (rowD x))), p⟩ (!decide (x ∈ acc)) := eb_bl (ed_cmpV (ed_v (i := 2) rfl) (i := 1) rfl (cmp_nin_own x acc))
    rw [foldK]
    by_cases hx : x ∈ acc
    · rw [if_pos hx]
      rw [decide_eq_true hx] at ht
      obtain ⟨v, e⟩ := lg_loop (Γ := Γ) (d := d) (p := p) xs acc (some (.frz (rowD x))) (by omega)
      refine ⟨v, for_cons (ρ1 := ⟨lgS d acc (some (.frz (rowD x))), p⟩) rfl ((ss_if_no ht).trans ?_) e⟩
      rw [evSs]; rfl
    · rw [if_neg hx]
      rw [decide_eq_false hx] at ht
      obtain ⟨v, e⟩ := lg_loop (Γ := Γ) (d := d) (p := p) xs (acc ++ [x]) (some (.frz (rowD x))) (by rw [List.length_append, List.length_singleton]; omega)
      refine ⟨v, for_cons (ρ1 := ⟨lgS d acc (some (.frz (rowD x))), p⟩) (ρ2 := ⟨lgS d (acc ++ [x]) (some (.frz (rowD x))), p⟩) rfl ?_ e⟩
      refine (ss_ok (ρ' := ⟨lgS d (acc ++ [x]) (some (.frz (rowD x))), p⟩) ?_).trans (by rw [evSs]; rfl)
      rw [evS, bndE ht]
      show evSs Γ [.app 1 (.v 2)] _ = _
      refine (ss_ok (s_app_ok (i := 1) (os := (acc.map rowD).map O.frz) rfl (eo_d (ed_v (i := 2) rfl)) rfl (by rw [List.length_map, List.length_map]; omega))).trans ?_
      rw [evSs]
      show Res.ok Fl.nx _ = _
      unfold lgS
      rw [List.map_append, List.map_append]
      rfl
theorem law_greatest_ok {Γ : Gam} {ns : Rows} {d : DL.D} (hd : itemsD d = some (ns.map rowD)) (h64 : ns.length < 64) (hne : ∀ n ∈ ns, n ≠ []) (hl : ∀ n ∈ ns, n.length ≤ lineN) : Fp (defFn Γ 1 6 b_law_greatest) [d] (.tup ((grt ns).map rowD)) := by
  have lS : ((rowsS ns).map rowD).length ≤ lineN := by
    rw [List.length_map]
    have := rowsS_len ns
    have := l64
    omega
  refine fp_of rfl fun p => ?_
  obtain ⟨v2, e1⟩ := lg_loop (Γ := Γ) (d := d) (p := p) (srt ns) [] none (by
    have := (srt_p ns).length_eq
    have := l64
    rw [List.length_nil]; omega)
  rw [foldK_srt] at e1
  apply Exists.intro
  refine (ss_setO (eo_n (en_lst (ds := []) es_nil (Nat.zero_le _)))).trans ?_
  refine (ss_for (it_seq (el_n (en_sorted (ed_v (i := 0) rfl) hd hne))) e1).trans ?_
  refine ss_ret ?_
  refine ed_tupN (ds := (grt ns).map rowD) ?_
  have h := en_lc (Γ := Γ) (ρ := ⟨lgS d (rowsS ns) v2, p⟩) (own := [3]) (tg := .nm 3) (kd := .seq) (es := [.v 1]) (ifs := [.tnot (.tv (.bi .any [.lc [4] (.nm 4) .seq [.v 1] [] (.and (.cmp .NotEq (.v 3) (.v 4)) (.bi .all [.lc [5] (.nm 5) .seq [.v 3] [] (.cmp .In (.v 5) (.v 4))]))]))]) (elt := .v 3) (ds := (rowsS ns).map rowD) (P := keepP (rowsS ns)) (f := O.frz) (it_seq (el_v rfl)) lS (by decide) (by simp) fun x hx X => by
    obtain ⟨a, ha, rfl⟩ := List.mem_map.mp hx
    refine ⟨[some (.frz d), some (.own (((rowsS ns).map rowD).map O.frz)), v2, some (.frz (rowD a)), none, none], rfl, rfl, tq_one (eb_not (eb_bl ?_)), fun _ => ⟨eo_d (ed_v rfl), rfl⟩⟩
    have h2 := ed_anyC (Γ := Γ) (ρ := ⟨[some (.frz d), some (.own (((rowsS ns).map rowD).map O.frz)), v2, some (.frz (rowD a)), none, none] ++ X, p⟩) (own := [4]) (tg := .nm 4) (kd := .seq) (es := [.v 1]) (elt := .and (.cmp .NotEq (.v 3) (.v 4)) (.bi .all [.lc [5] (.nm 5) .seq [.v 3] [] (.cmp .In (.v 5) (.v 4))])) (ds := (rowsS ns).map rowD) (q := fun y => !decide (a = rowOf y) && inR a (rowOf y)) (it_seq (el_v rfl)) lS (by decide) (by simp) fun y hy X2 => by
      obtain ⟨b, hb, rfl⟩ := List.mem_map.mp hy
      refine ⟨[some (.frz d), some (.own (((rowsS ns).map rowD).map O.frz)), v2, some (.frz (rowD a)), some (.frz (rowD b)), none] ++ X, rfl, rfl, ?_⟩
      rw [rowOf_row]
      refine ed_and (t := !decide (a = b)) (x := .bl (!decide (a = b))) (ed_cmp (ed_v (i := 3) rfl) (ed_v (i := 4) rfl) (cmp_ne_row a b)) rfl (fun e => ?_) (fun e => ?_)
      · rw [e, Bool.true_and]
        have h3 := ed_allC (Γ := Γ) (ρ := ⟨([some (.frz d), some (.own (((rowsS ns).map rowD).map O.frz)), v2, some (.frz (rowD a)), some (.frz (rowD b)), none] ++ X) ++ X2, p⟩) (own := [5]) (tg := .nm 5) (kd := .seq) (es := [.v 3]) (elt := .cmp .In (.v 5) (.v 4)) (ds := a.map D.int) (q := fun d => match d with | .int c => decide (c ∈ b) | _ => false) (it_seq (el_tup (ed_v (i := 3) rfl))) (by rw [List.length_map]; exact hl a ((mem_rowsS ns a).mp ha)) (by decide) (by simp) fun z hz X3 => by
          obtain ⟨c, hc, rfl⟩ := List.mem_map.mp hz
          exact ⟨([some (.frz d), some (.own (((rowsS ns).map rowD).map O.frz)), v2, some (.frz (rowD a)), some (.frz (rowD b)), some (.frz (.int c))] ++ X) ++ X2, rfl, rfl, ed_cmp (ed_v (i := 5) rfl) (ed_v (i := 4) rfl) (cmp_in_row c b)⟩
        rw [List.all_map] at h3
        exact h3
      · rw [e]; rfl
    rw [List.any_map] at h2
    have e : ((rowsS ns).any ((fun y => !decide (a = rowOf y) && inR a (rowOf y)) ∘ rowD)) = (rowsS ns).any fun far => !decide (rowOf (rowD a) = far) && inR (rowOf (rowD a)) far := by
      rw [rowOf_row]
      congr 1
      funext y
      show (!decide (a = rowOf (rowD y)) && inR a (rowOf (rowD y))) = _
      rw [rowOf_row]
    rw [e] at h2
    exact h2
  rw [keep_map] at h
  exact h
end Law

set_option Elab.async false
set_option linter.all false
set_option maxRecDepth 100000
set_option maxHeartbeats 0
/-! KP4: law_k80: the levels of faces_from. -/
namespace DL
open PySem
variable {Γ : Gam} {ρ : Env}
theorem foldK_set : ∀ (xs acc : Rows), acc.Nodup → (foldK acc xs).Nodup ∧ ∀ x, x ∈ foldK acc xs ↔ x ∈ acc ∨ x ∈ xs
  | [], acc, nd => ⟨nd, fun x => by simp [foldK]⟩
  | y :: xs, acc, nd => by
    rw [foldK]
    by_cases hy : y ∈ acc
    · rw [if_pos hy]
      obtain ⟨b, c⟩ := foldK_set xs acc nd
      refine ⟨b, fun x => (c x).trans ?_⟩
      rw [List.mem_cons]
      constructor
      · rintro (q | q)
        · exact .inl q
        · exact .inr (.inr q)
      · rintro (q | q | q)
        · exact .inl q
        · rw [q]; exact .inl hy
        · exact .inr q
    · rw [if_neg hy]
      obtain ⟨b, c⟩ := foldK_set xs (acc ++ [y]) (by
        rw [List.nodup_append]
        refine ⟨nd, by simp, fun a ha b hb e => ?_⟩
        rw [List.mem_singleton] at hb
        rw [e, hb] at ha
        exact hy ha)
      refine ⟨b, fun x => (c x).trans ?_⟩
      rw [List.mem_append, List.mem_singleton, List.mem_cons, or_assoc]
theorem foldK_append : ∀ (xs ys acc : Rows), foldK acc (xs ++ ys) = foldK (foldK acc xs) ys
  | [], ys, acc => rfl
  | x :: xs, ys, acc => by
    rw [List.cons_append, foldK, foldK, foldK_append xs ys]
theorem srt_foldK (ns : Rows) : srt (foldK [] ns) = rowsS ns := by
  obtain ⟨b, c⟩ := foldK_set ns [] List.nodup_nil
  exact rowsS_perm b fun x => (c x).trans (by simp)
/-- a row as a key -/
def keyR (n : List Int) : List L2.Key := n.map Sum.inl
theorem keyR_inj {a b : List Int} (h : keyR a = keyR b) : a = b := by
  unfold keyR at h
  induction a generalizing b with
  | nil =>
    cases b with
    | nil => rfl
    | cons y b => cases h
  | cons x a ih =>
    cases b with
    | nil => cases h
    | cons y b =>
      rw [List.map_cons, List.map_cons, List.cons.injEq] at h
      rw [ih h.2]
      injection h.1 with e
      rw [e]
theorem keysOf_row : ∀ n : List Int, keysOf (n.map D.int) = some (keyR n)
  | [] => rfl
  | i :: n => by
    rw [List.map_cons]
    show (match keyOf1 (.int i), keysOf (n.map D.int) with | some k, some ks => some (k :: ks) | _, _ => none) = _
    rw [keysOf_row n]; rfl
/-- a dict whose keys are rows, all True -/
def odtR (acc : Rows) : O := .odt (acc.map keyR) (acc.map fun _ => D.bl true)
theorem put_row (acc : Rows) (n : List Int) : putT ((acc.map keyR).zip (acc.map fun _ => D.bl true)) (keyR n) (.bl true) = ((if n ∈ acc then acc else acc ++ [n]).map keyR).zip ((if n ∈ acc then acc else acc ++ [n]).map fun _ => D.bl true) := by
  have zip : ∀ l : Rows, (l.map keyR).zip (l.map fun _ => D.bl true) = l.map fun r => (keyR r, D.bl true) := by
    intro l
    induction l with
    | nil => rfl
    | cons r l ih => simp only [List.map_cons, List.zip_cons_cons, ih]
  rw [zip, zip]
  unfold putT
  have ha : ((acc.map fun r => (keyR r, D.bl true)).any fun p => decide (p.1 = keyR n)) = decide (n ∈ acc) := by
    induction acc with
    | nil => rfl
    | cons r acc ih =>
      rw [List.map_cons, List.any_cons, ih]
      by_cases e : n = r
      · subst e; simp
      · have : ¬ keyR r = keyR n := fun q => e (keyR_inj q).symm
        simp [e, this]
  rw [ha]
  by_cases h : n ∈ acc
  · rw [decide_eq_true h, if_pos rfl, if_pos h, List.map_map]
    refine List.map_congr_left fun r _ => ?_
    show (if keyR r = keyR n then (keyR r, D.bl true) else (keyR r, D.bl true)) = _
    split <;> rfl
  · rw [decide_eq_false h, if_neg (by decide), if_neg h, List.map_append]; rfl
theorem s_tput_row {i : Nat} {a e : E} {acc : Rows} {n : List Int} (hi : ρ.sl[i]? = some (some (odtR acc))) (ha : EvD Γ a ρ (rowD n)) (he : EvD Γ e ρ (.bl true)) (hl : acc.length < lineN) : evS Γ (.tput i a e) ρ = .ok .nx (ρ.set i (some (odtR (if n ∈ acc then acc else acc ++ [n])))) := by
  obtain ⟨s, e1⟩ := he
  obtain ⟨s', e2⟩ := ha
  have h1 : isOdt i ρ = .ok () ρ := by unfold isOdt; rw [hi]; rfl
  rw [evS, bndE e1, bndE esc_frz, bndE h1, bndE e2, bndE esc_frz]
  have hi2 : ρ.sl[i]? = some (some (.odt (acc.map keyR) (acc.map fun _ => D.bl true))) := hi
  unfold rowD
  simp only [hi2, keysOf_row]
  rw [if_pos (by rw [List.length_map, List.length_map]; exact ⟨hl, rfl⟩), put_row, List.map_fst_zip (by simp), List.map_snd_zip (by simp)]
  rfl
theorem keyD_row (n : List Int) : D.tup ((keyR n).map keyD) = rowD n := by
  unfold keyR rowD
  rw [List.map_map]; rfl
theorem en_tsort {i : Nat} {acc : Rows} (hi : ρ.sl[i]? = some (some (odtR acc))) (hne : ∀ n ∈ acc, n ≠ []) (hl : acc.length ≤ lineN) : EvN Γ (.tsort i) ρ (.own (((srt acc).map rowD).map O.frz)) := by
  unfold EvN
  rw [ev]
  unfold tsortM
  rw [hi]
  have e : (acc.map keyR).map (fun k => D.tup (k.map keyD)) = acc.map rowD := by
    rw [List.map_map]
    exact List.map_congr_left fun n _ => keyD_row n
  show (if (alikeD ((acc.map keyR).map fun k => D.tup (k.map keyD)) && sortableD ((acc.map keyR).map fun k => D.tup (k.map keyD)) && decide ((acc.map keyR).length ≤ lineN)) = true then Res.ok (⟨none, .own ((sortD ((acc.map keyR).map fun k => D.tup (k.map keyD))).map O.frz)⟩ : Val) ρ else .bad) = _
  rw [e, alike_rows, sortable_rows hne, List.length_map, decide_eq_true hl, sortD_rows]; rfl
theorem comb_row {n : List Int} {k : Nat} (hl : n.length ≤ 8) (hk : k ≤ 1000) : combD [rowD n, .int (k : Nat)] = some ((combL k n).map rowD) := by
  show (intsOf (n.map D.int)).bind _ = _
  rw [intsOf_map]
  show (if 0 ≤ ((k : Nat) : Int) ∧ ((k : Nat) : Int) ≤ 1000 ∧ n.length ≤ 8 then some ((combL ((k : Nat) : Int).toNat n).map rowD) else none) = _
  rw [if_pos ⟨by omega, by omega, hl⟩, Int.toNat_natCast]
end DL

set_option Elab.async false
set_option linter.all false
set_option maxRecDepth 100000
set_option maxHeartbeats 0
/-! KP5: law_k80: faces_from, loop by loop. -/
namespace DL
open PySem
variable {Γ : Gam} {ρ : Env}
theorem it_cmb {z : Bool} {es : List E} {ds xs : List D} (h : EvVs Γ es ρ ds) (hx : combD ds = some xs) : evIt Γ z .cmb es ρ = .ok xs ρ := by
  show bnd (evv Γ es) _ ρ = _
  rw [bndE h, hx]; rfl
theorem comb3 : ∀ (n : List Int) (k : Nat), n.length ≤ 3 → (combL k n).length ≤ 3
  | [], k, _ => by cases k <;> simp [combL]
  | [a], k, _ => by
    match k with
    | 0 => simp [combL]
    | 1 => simp [combL]
    | k + 2 => simp [combL]
  | [a, b], k, _ => by
    match k with
    | 0 => simp [combL]
    | 1 => simp [combL]
    | 2 => simp [combL]
    | k + 3 => simp [combL]
  | [a, b, c], k, _ => by
    match k with
    | 0 => simp [combL]
    | 1 => simp [combL]
    | 2 => simp [combL]
    | 3 => simp [combL]
    | k + 4 => simp [combL]
  | _ :: _ :: _ :: _ :: _, _, h => by simp at h
theorem combs3 (k : Nat) : ∀ ns : Rows, (∀ n ∈ ns, n.length ≤ 3) → (ns.flatMap (combL k)).length ≤ 3 * ns.length
  | [], _ => by simp
  | n :: ns, h => by
    rw [List.flatMap_cons, List.length_append, List.length_cons]
    have h1 := comb3 n k (h n (List.mem_cons_self ..))
    have h2 := combs3 k ns fun m hm => h m (List.mem_cons_of_mem _ hm)
    omega
theorem lvl_len (ns : Rows) (k : Nat) (h : ∀ n ∈ ns, n.length ≤ 3) : (lvl ns k).length ≤ 3 * ns.length := Nat.le_trans (rowsS_len _) (combs3 k ns h)
/-- a level as the list that is told -/
def lvO (ns : Rows) (k : Nat) : O := .own (((lvl ns k).map rowD).map O.frz)
end DL
namespace Law
open PySem DL
abbrev ffS (d t : DL.D) (v2 : Option O) (out : List O) (v4 v6 v7 v8 : Option O) : List (Option O) := [some (.frz d), some (.frz t), v2, some (.own out), v4, none, v6, v7, v8, none]
section
variable {Γ : Gam} {d t : DL.D} {v2 : Option O} {out : List O} {v4 : Option O} {p : Pen}
theorem ff1 {v7 : Option O} : ∀ (xs acc : Rows) (v8 : Option O), acc.length + xs.length ≤ lineN → ∃ v8', forF (.nm 8) (evSs Γ [.tput 6 (.v 8) (.c (.bl true))]) (xs.map rowD) ⟨ffS d t v2 out v4 (some (odtR acc)) v7 v8, p⟩ = .ok .nx ⟨ffS d t v2 out v4 (some (odtR (foldK acc xs))) v7 v8', p⟩
  | [], acc, v8, _ => ⟨v8, rfl⟩
  | x :: xs, acc, v8, hl => by
    rw [List.length_cons] at hl
    have hl2 : (if x ∈ acc then acc else acc ++ [x]).length + xs.length ≤ lineN := by
      split
      · omega
      · rw [List.length_append, List.length_singleton]; omega
    obtain ⟨v, e⟩ := ff1 (v7 := v7) xs (if x ∈ acc then acc else acc ++ [x]) (some (.frz (rowD x))) hl2
    rw [foldK]
    refine ⟨v, for_cons (ρ1 := ⟨ffS d t v2 out v4 (some (odtR acc)) v7 (some (.frz (rowD x))), p⟩) rfl ((ss_ok (s_tput_row (i := 6) (n := x) rfl (ed_v (i := 8) rfl) ed_c (by omega))).trans ?_) e⟩
    rw [evSs]; rfl
theorem ff2 {k : Nat} (hk : k ≤ 1000) : ∀ (ms acc : Rows) (v7 v8 : Option O), (∀ n ∈ ms, n.length ≤ 3) → acc.length + 3 * ms.length ≤ lineN → ∃ v7' v8', forF (.nm 7) (evSs Γ [.fr (.nm 8) .cmb [.v 7, .v 4] [.tput 6 (.v 8) (.c (.bl true))]]) (ms.map rowD) ⟨ffS d t v2 out (some (.frz (.int (k : Nat)))) (some (odtR acc)) v7 v8, p⟩ = .ok .nx ⟨ffS d t v2 out (some (.frz (.int (k : Nat)))) (some (odtR (foldK acc (ms.flatMap (combL k))))) v7' v8', p⟩
  | [], acc, v7, v8, _, _ => ⟨v7, v8, rfl⟩
  | n :: ms, acc, v7, v8, h3, hl => by
    rw [List.length_cons] at hl
    have hn := h3 n (List.mem_cons_self ..)
    have c3 := comb3 n k hn
    obtain ⟨v, e1⟩ := ff1 (Γ := Γ) (d := d) (t := t) (v2 := v2) (out := out) (v4 := some (.frz (.int (k : Nat)))) (p := p) (v7 := some (.frz (rowD n))) (combL k n) acc v8 (by omega)
    obtain ⟨w7, w8, e2⟩ := ff2 hk ms (foldK acc (combL k n)) (some (.frz (rowD n))) v (fun m hm => h3 m (List.mem_cons_of_mem _ hm)) (by
      have := foldK_len (combL k n) acc
      omega)
    rw [List.flatMap_cons, foldK_append]
    refine ⟨w7, w8, for_cons (ρ1 := ⟨ffS d t v2 out (some (.frz (.int (k : Nat)))) (some (odtR acc)) (some (.frz (rowD n))) v8, p⟩) rfl ((ss_for (it_cmb (vs_cons (ed_v (i := 7) rfl) (vs_cons (ed_v (i := 4) rfl) vs_nil)) (comb_row (by omega) hk)) e1).trans ?_) e2⟩
    rw [evSs]; rfl
end
def ffB : List S := [.set 6 .newt, .fr (.nm 7) .seq [.v 1] [.fr (.nm 8) .cmb [.v 7, .v 4] [.tput 6 (.v 8) (.c (.bl true))]], .app 3 (.tsort 6)]
theorem ff3 {Γ : Gam} {d : DL.D} {v2 : Option O} {p : Pen} {ns : Rows} (h3 : ∀ n ∈ ns, n.length ≤ 3) (h7 : ns.length ≤ 40) : ∀ (ks : List Nat) (out : List O) (v4 v6 v7 v8 : Option O), (∀ k ∈ ks, 1 ≤ k ∧ k ≤ 1000) → out.length + ks.length ≤ 60 →
    ∃ v4' v6' v7' v8', forF (.nm 4) (evSs Γ ffB) (ks.map fun k => DL.D.int (k : Nat)) ⟨ffS d (.tup (ns.map rowD)) v2 out v4 v6 v7 v8, p⟩ = .ok .nx ⟨ffS d (.tup (ns.map rowD)) v2 (out ++ ks.map (lvO ns)) v4' v6' v7' v8', p⟩
  | [], out, v4, v6, v7, v8, _, _ => ⟨v4, v6, v7, v8, by rw [List.map_nil, List.map_nil, List.append_nil]; rfl⟩
  | k :: ks, out, v4, v6, v7, v8, hk, hl => by
    rw [List.length_cons] at hl
    have hk1 := hk k (List.mem_cons_self ..)
    have l : (400 : Nat) ≤ lineN := by decide
    obtain ⟨w7, w8, e1⟩ := ff2 (Γ := Γ) (d := d) (t := .tup (ns.map rowD)) (v2 := v2) (out := out) (p := p) hk1.2 ns [] v7 v8 h3 (by rw [List.length_nil]; omega)
    obtain ⟨u4, u6, u7, u8, e2⟩ := ff3 h3 h7 ks (out ++ [lvO ns k]) (some (.frz (.int (k : Nat)))) (some (odtR (foldK [] (ns.flatMap (combL k))))) w7 w8 (fun j hj => hk j (List.mem_cons_of_mem _ hj)) (by rw [List.length_append, List.length_singleton]; omega)
    refine ⟨u4, u6, u7, u8, ?_⟩
    rw [List.map_cons, List.map_cons, List.append_cons]
    refine for_cons (ρ1 := ⟨ffS d (.tup (ns.map rowD)) v2 out (some (.frz (.int (k : Nat)))) v6 v7 v8, p⟩) rfl ?_ e2
    unfold ffB
    refine (ss_ok (ρ' := ⟨ffS d (.tup (ns.map rowD)) v2 out (some (.frz (.int (k : Nat)))) (some (odtR [])) v7 v8, p⟩) rfl).trans ?_
    refine (ss_for (it_seq (el_tup (ed_v (i := 1) rfl))) e1).trans ?_
    have hc := combs3 k ns h3
    have fl := foldK_len (ns.flatMap (combL k)) []
    rw [List.length_nil] at fl
    have srt := en_tsort (Γ := Γ) (ρ := ⟨ffS d (.tup (ns.map rowD)) v2 out (some (.frz (.int (k : Nat)))) (some (odtR (foldK [] (ns.flatMap (combL k))))) w7 w8, p⟩) (i := 6) rfl (fun n hn => ?_) (by omega)
    · rw [srt_foldK] at srt
      refine (ss_ok (s_app_ok (i := 3) (os := out) rfl (eo_n srt) (own_hasT _) (by omega))).trans ?_
      rw [evSs]; rfl
    · rcases ((foldK_set (ns.flatMap (combL k)) [] List.nodup_nil).2 n).mp hn with q | q
      · cases q
      · obtain ⟨m, _, hm⟩ := List.mem_flatMap.mp q
        have := ((mem_combL m k n).mp hm).2
        intro e
        rw [e] at this
        have := hk1.1
        simp at *
        omega
end Law

set_option Elab.async false
set_option linter.all false
set_option maxRecDepth 100000
set_option maxHeartbeats 0
/-! KP6: law_k80: faces_from. -/
namespace DL
open PySem
variable {Γ : Gam} {ρ ρ1 : Env}
def lvD (ns : Rows) (k : Nat) : D := .lst ((lvl ns k).map rowD)
theorem lvO_d (ns : Rows) (k : Nat) : (lvO ns k).d = lvD ns k := own_d _
theorem ds_lv (ns : Rows) : ∀ ks : List Nat, O.ds (ks.map (lvO ns)) = ks.map (lvD ns)
  | [] => rfl
  | k :: ks => by rw [List.map_cons, O.ds, ds_lv ns ks, lvO_d]; rfl
theorem ts_lv (ns : Rows) : ∀ ks : List Nat, O.hasTs (ks.map (lvO ns)) = false
  | [] => rfl
  | k :: ks => by
    rw [List.map_cons, O.hasTs, ts_lv ns ks]
    show ((lvO ns k).hasT || false) = false
    rw [show (lvO ns k).hasT = false from own_hasT _]; rfl
/-- a list of lists that a slot owns, walked: it is frozen -/
theorem it_own {i : Nat} {ns : Rows} {ks : List Nat} (hi : ρ.sl[i]? = some (some (.own (ks.map (lvO ns))))) (hne : ks ≠ []) : evIt Γ false .seq [.v i] ρ = .ok (ks.map (lvD ns)) (ρ.set i (some (.frz (.lst (ks.map (lvD ns)))))) := by
  have ha : allFrz (ks.map (lvO ns)) = none := by
    cases ks with
    | nil => exact absurd rfl hne
    | cons k ks => rfl
  have hd : (O.own (ks.map (lvO ns))).d = .lst (ks.map (lvD ns)) := by rw [O.d, ds_lv]
  have ht : (O.own (ks.map (lvO ns))).hasT = false := by rw [O.hasT, ts_lv]
  have hf : ρ.freeze i = some (ρ.set i (some (.frz (.lst (ks.map (lvD ns)))))) := by
    unfold Env.freeze
    rw [hi]
    show (if (O.own (ks.map (lvO ns))).hasT = true then none else some (ρ.set i (some (.frz (O.own (ks.map (lvO ns))).d)))) = _
    rw [ht, hd]; rfl
  have he : esc ⟨some i, .own (ks.map (lvO ns))⟩ ρ = .ok (.lst (ks.map (lvD ns))) (ρ.set i (some (.frz (.lst (ks.map (lvD ns)))))) := by
    show (if (O.own (ks.map (lvO ns))).hasT = true then Res.bad else match ρ.freeze i with
      | some ρ' => Res.ok (O.own (ks.map (lvO ns))).d ρ'
      | none => Res.bad) = _
    rw [ht, hf, hd]; rfl
  show bnd (evEl Γ false [.v i]) _ ρ = _
  have h1 : evEl Γ false [.v i] ρ = .ok [ks.map (lvD ns)] (ρ.set i (some (.frz (.lst (ks.map (lvD ns)))))) := by
    rw [evEl, ev, bndE (rd_ok hi)]
    have h2 : elems false ⟨some i, .own (ks.map (lvO ns))⟩ ρ = .ok (ks.map (lvD ns)) (ρ.set i (some (.frz (.lst (ks.map (lvD ns)))))) := by
      show (match false, allFrz (ks.map (lvO ns)) with | false, some ds => Res.ok ds ρ | _, _ => match esc ⟨some i, .own (ks.map (lvO ns))⟩ ρ with | .ok (.lst xs) ρ' => Res.ok xs ρ' | _ => Res.bad) = _
      rw [ha, he]
    rw [bndE h2]; rfl
  rw [bndE h1]; rfl
/-- a comprehension over what is frozen first -/
theorem lc_shift {own : List Nat} {tg : Tg} {kd : ItK} {es ifs : List E} {elt : E} {ds : List D} (h1 : evIt Γ false kd es ρ = .ok ds ρ1) (h2 : evIt Γ false kd es ρ1 = .ok ds ρ1) : ev Γ (.lc own tg kd es ifs elt) ρ = ev Γ (.lc own tg kd es ifs elt) ρ1 := by
  have h1' : itM kd (evv Γ es) (evEl Γ false es) ρ = .ok ds ρ1 := h1
  have h2' : itM kd (evv Γ es) (evEl Γ false es) ρ1 = .ok ds ρ1 := h2
  rw [ev, bndE h1', bndE h2']
theorem bnd_eq {α β : Type} {m : M α} {f : α → M β} (h : m ρ = m ρ1) : bnd m f ρ = bnd m f ρ1 := by unfold bnd; rw [h]
theorem bi_shift {b : B} {e : E} (hb : b.esc = false) (h : ev Γ e ρ = ev Γ e ρ1) : ev Γ (.bi b [e]) ρ = ev Γ (.bi b [e]) ρ1 := by
  rw [ev, if_neg (by rw [hb]; decide)]
  refine bnd_eq ?_
  rw [evv]
  exact bnd_eq h
theorem set_shift {i : Nat} {e : E} {ss : List S} (h : ev Γ e ρ = ev Γ e ρ1) : evSs Γ (.set i e :: ss) ρ = evSs Γ (.set i e :: ss) ρ1 := by
  rw [evSs, evS]
  exact bnd_eq (bnd_eq h)
theorem ed_max1 {e : E} {n : Int} {ns : List Int} (h : EvN Γ e ρ (.own (((n :: ns).map D.int).map O.frz))) : EvD Γ (.bi .max1 [e]) ρ (.int (maxL n ns)) := by
  refine ed_bi rfl (vs_consW (ew_own h) vs_nil) ?_
  show (intsOf ((n :: ns).map D.int)).bind _ = _
  rw [intsOf_map]; rfl
/-- the lengths of some rows -/
theorem en_lens {own : List Nat} {v : Nat} {ds : List D} {f : D → Int} (hown : own = [v]) (lt : v < ρ.sl.length) {es : List E} {kd : ItK} (hi : evIt Γ false kd es ρ = .ok ds ρ) (hn : ds.length ≤ lineN) (hl : ∀ d ∈ ds, lenD [d] = some (.frz (.int (f d)))) : EvN Γ (.lc own (.nm v) kd es [] (.bi .len [.v v])) ρ (.own ((ds.map fun d => D.int (f d)).map O.frz)) := by
  subst hown
  have h := en_lc (Γ := Γ) (own := [v]) (tg := .nm v) (kd := kd) (es := es) (ifs := []) (elt := .bi .len [.v v]) (P := fun _ => true) (f := fun d => O.frz (.int (f d))) hi hn (by simp) (by simpa using lt) fun d hd X => by
    have lw : v < (wipeO ρ.sl [v] ++ X).length := by rw [List.length_append, qw_len]; omega
    refine ⟨(wipeO ρ.sl [v]).set v (some (.frz d)), ?_, ?_, tq_nil, fun _ => ⟨eo_d (ed_bi rfl (vs_cons (ed_v (d := d) ?_) vs_nil) (hl d hd)), rfl⟩⟩
    · show Res.ok () (⟨(wipeO ρ.sl [v] ++ X).set v (some (.frz d)), ρ.pen⟩ : Env) = _
      rw [List.set_append_left _ _ (by rw [qw_len]; exact lt)]
    · rw [wipeO, wipeO, wipeO, List.set_set, List.set_set]
    · show ((wipeO ρ.sl [v]).set v (some (.frz d)) ++ X)[v]? = _
      rw [List.getElem?_append_left (by rw [List.length_set, qw_len]; exact lt), List.getElem?_set_self (by rw [qw_len]; exact lt)]
  rw [filter_true] at h
  rw [List.map_map]
  exact h
end DL

set_option Elab.async false
set_option linter.all false
set_option maxRecDepth 100000
set_option maxHeartbeats 0
/-! KP7: law_k80: faces_from, whole. -/
namespace DL
open PySem
/-- the greatest length -/
def topL : Rows → Int
  | [] => 0
  | n :: ns => maxL (n.length : Nat) (ns.map fun m => ((m.length : Nat) : Int))
def lvls (ns : Rows) : List Nat := (List.range (topL ns).toNat).map (1 + ·)
theorem top_bd {ns : Rows} (ne : ns ≠ []) (h1 : ∀ n ∈ ns, 1 ≤ n.length) (h3 : ∀ n ∈ ns, n.length ≤ 3) : 1 ≤ topL ns ∧ topL ns ≤ 3 := by
  cases ns with
  | nil => exact absurd rfl ne
  | cons n ns =>
    obtain ⟨q1, q2⟩ := maxL_ok (ns.map fun m => ((m.length : Nat) : Int)) (n.length : Nat)
    have a1 := h1 n (List.mem_cons_self ..)
    have a2 := q2 _ (List.mem_cons_self ..)
    refine ⟨by show 1 ≤ maxL _ _; omega, ?_⟩
    show maxL _ _ ≤ 3
    rcases List.mem_cons.mp q1 with e | e
    · have := h3 n (List.mem_cons_self ..)
      omega
    · obtain ⟨m, hm, e⟩ := List.mem_map.mp e
      have := h3 m (List.mem_cons_of_mem _ hm)
      omega
theorem maxL_le {m : Int} {ns : List Int} {b : Int} (h : ∀ x ∈ m :: ns, x ≤ b) : maxL m ns ≤ b := h _ (maxL_ok ns m).1
end DL
namespace Law
open PySem DL
theorem faces_from_ok {Γ Γ2 Γ3 : Gam} {fn9 : Fn} {d : DL.D} {ns : Rows} (hf9 : Γ.fn 9 = some fn9) (h9 : Fp fn9 [d] (.tup (ns.map rowD))) (h10 : Γ.fn 10 = some (defFn Γ2 1 3 bis_face)) (h8 : Γ2.fn 8 = some (defFn Γ3 1 1 wholeB)) (k1 : Γ2.cst 1 = some (.int 5)) (k0 : Γ.cst 0 = some (.int 24))
    (hF : ∀ n ∈ ns, Face n) (ne : ns ≠ []) (h7 : ns.length ≤ 7) : Fp (defFn Γ 1 10 bfaces_from) [d] (.lst ((lvls ns).map (lvD ns))) := by
  have h1 : ∀ n ∈ ns, 1 ≤ n.length := fun n hn => (hF n hn).l1
  have h3 : ∀ n ∈ ns, n.length ≤ 3 := fun n hn => (hF n hn).l3
  obtain ⟨t1, t3⟩ := top_bd ne h1 h3
  have lr : (ns.map rowD).length ≤ lineN := by
    rw [List.length_map]
    have := l64
    omega
  have kne : lvls ns ≠ [] := by
    unfold lvls
    have : (topL ns).toNat ≠ 0 := by omega
    intro e
    rw [List.map_eq_nil_iff, List.range_eq_nil] at e
    exact this e
  have klen : (lvls ns).length ≤ 3 := by
    unfold lvls
    rw [List.length_map, List.length_range]; omega
  have kk : ∀ k ∈ lvls ns, 1 ≤ k ∧ k ≤ 1000 := fun k hk => by
    unfold lvls at hk
    obtain ⟨j, hj, rfl⟩ := List.mem_map.mp hk
    have := List.mem_range.mp hj
    omega
  refine fp_of rfl fun p => ?_
  obtain ⟨v4, v6, v7, v8, e3⟩ := ff3 (Γ := Γ) (d := d) (v2 := some (.frz (.int (topL ns)))) (p := p) h3 (by omega) (lvls ns) [] none none none none kk (by rw [List.length_nil]; omega)
  rw [List.nil_append] at e3
  have hmost : ∃ m : Int, m ≤ 24 ∧ EvD Γ (.bi .max1 [.lc [9] (.nm 9) .seq [.v 3] [] (.bi .len [.v 9])]) ⟨[some (.frz d), some (.frz (.tup (ns.map rowD))), some (.frz (.int (topL ns))), some (.frz (.lst ((lvls ns).map (lvD ns)))), v4, none, v6, v7, v8, none], p⟩ (.int m) := by
    have h := en_lens (Γ := Γ) (ρ := ⟨[some (.frz d), some (.frz (.tup (ns.map rowD))), some (.frz (.int (topL ns))), some (.frz (.lst ((lvls ns).map (lvD ns)))), v4, none, v6, v7, v8, none], p⟩) (own := [9]) (v := 9) (es := [.v 3]) (kd := .seq) (ds := (lvls ns).map (lvD ns)) (f := fun x => (kids x).length) rfl (by simp) (it_seq (el_lst (ed_v (i := 3) rfl))) (by
      rw [List.length_map]
      have := l64
      omega) fun x hx => by
      obtain ⟨k, _, rfl⟩ := List.mem_map.mp hx
      rfl
    have lens : ∀ k : Nat, (((lvl ns k).length : Nat) : Int) ≤ 24 := fun k => by
      have := lvl_len ns k h3
      omega
    cases hks : lvls ns with
    | nil => exact absurd hks kne
    | cons k ks =>
      rw [hks] at h
      refine ⟨maxL (((lvl ns k).length : Nat) : Int) (ks.map fun j => (((lvl ns j).length : Nat) : Int)), maxL_le fun x hx => ?_, ?_⟩
      · rcases List.mem_cons.mp hx with rfl | hx
        · exact lens k
        · obtain ⟨j, _, rfl⟩ := List.mem_map.mp hx
          exact lens j
      · refine ed_max1 ?_
        have e : ((k :: ks).map (lvD ns)).map (fun x => DL.D.int ((kids x).length : Nat)) = ((((lvl ns k).length : Nat) : Int) :: ks.map fun j => (((lvl ns j).length : Nat) : Int)).map DL.D.int := by
          have one : ∀ j, DL.D.int ((kids (lvD ns j)).length : Nat) = DL.D.int ((lvl ns j).length : Nat) := fun j => by
            show DL.D.int (((lvl ns j).map rowD).length : Nat) = _
            rw [List.length_map]
          rw [List.map_map, List.map_cons, List.map_cons, List.map_map]
          exact congr (congrArg List.cons (one k)) (List.map_congr_left fun j _ => one j)
        rw [e] at h
        exact h
  obtain ⟨m, hm, em⟩ := hmost
  apply Exists.intro
  -- made
  refine (ss_set (ed_call hf9 (es_cons (ed_v (i := 0) rfl) es_nil) h9)).trans ?_
  refine (ss_if_no (eb_or (c := false) (d := false) (eb_not (c := true) (eb_bl (ed_isa (ed_v (i := 1) rfl) rfl))) (fun _ => eb_or (c := false) (d := false) (eb_bl (ed_cmp (ed_len (ed_v (i := 1) rfl)) ed_ci ?_)) (fun _ => eb_not (c := true) (eb_bl ?_)) rfl) rfl)).trans ?_
  · show some ((((ns.map rowD).length : Nat) : Int) == 0) = some false
    rw [List.length_map]
    have : ns.length ≠ 0 := fun e => ne (List.length_eq_zero_iff.mp e)
    congr 1
    rw [beq_eq_false_iff_ne]
    omega
  · have h := ed_allC (Γ := Γ) (ρ := ⟨[some (.frz d), some (.frz (.tup (ns.map rowD))), none, none, none, none, none, none, none, none], p⟩) (own := [7]) (tg := .nm 7) (kd := .seq) (es := [.v 1]) (elt := .call 10 [.v 7]) (ds := ns.map rowD) (q := fun _ => true) (it_seq (el_tup (ed_v (i := 1) rfl))) lr (by decide) (by simp) fun x hx X => by
      obtain ⟨n, hn, rfl⟩ := List.mem_map.mp hx
      exact ⟨[some (.frz d), some (.frz (.tup (ns.map rowD))), none, none, none, none, none, some (.frz (rowD n)), none, none], rfl, rfl, ed_call h10 (es_cons (ed_v (i := 7) rfl) es_nil) (face_ok h8 k1 (hF n hn))⟩
    have e : (ns.map rowD).all (fun _ => true) = true := by simp
    rw [e] at h
    exact h
  -- top
  have htop : EvD Γ (.bi .max1 [.lc [7] (.nm 7) .seq [.v 1] [] (.bi .len [.v 7])]) ⟨[some (.frz d), some (.frz (.tup (ns.map rowD))), none, none, none, none, none, none, none, none], p⟩ (.int (topL ns)) := by
    have h := en_lens (Γ := Γ) (ρ := ⟨[some (.frz d), some (.frz (.tup (ns.map rowD))), none, none, none, none, none, none, none, none], p⟩) (own := [7]) (v := 7) (es := [.v 1]) (kd := .seq) (ds := ns.map rowD) (f := fun x => ((rowOf x).length : Nat)) rfl (by simp) (it_seq (el_tup (ed_v (i := 1) rfl))) lr fun x hx => by
      obtain ⟨n, _, rfl⟩ := List.mem_map.mp hx
      rw [rowOf_row]
      show some (O.frz (.int (((n.map D.int).length : Nat) : Int))) = _
      rw [List.length_map]
    cases ns with
    | nil => exact absurd rfl ne
    | cons n ns =>
      refine ed_max1 (n := ((n.length : Nat) : Int)) (ns := ns.map fun m => ((m.length : Nat) : Int)) ?_
      have e : ((n :: ns).map rowD).map (fun x => DL.D.int ((rowOf x).length : Nat)) = (((n.length : Nat) : Int) :: ns.map fun m => ((m.length : Nat) : Int)).map DL.D.int := by
        rw [List.map_map, List.map_cons, List.map_cons, List.map_map]
        refine congr (congrArg List.cons ?_) (List.map_congr_left fun m _ => ?_)
        · show DL.D.int ((rowOf (rowD n)).length : Nat) = _
          rw [rowOf_row]
        · show DL.D.int ((rowOf (rowD m)).length : Nat) = _
          rw [rowOf_row]; rfl
      rw [e] at h
      exact h
  refine (ss_set htop).trans ?_
  refine (ss_setO (eo_n (en_lst (ds := []) es_nil (Nat.zero_le _)))).trans ?_
  -- the levels
  have hr : rngD true [.int 1, .int (topL ns + 1)] = some ((lvls ns).map fun k => DL.D.int (k : Nat)) := by
    rw [rng2 (by omega) (by omega) (by omega) (by omega)]
    unfold lvls
    rw [List.map_map]
    congr 1
    rw [show topL ns + 1 - 1 = topL ns by omega]
    refine List.map_congr_left fun k _ => ?_
    show DL.D.int (1 + (k : Nat)) = DL.D.int ((1 + k : Nat) : Int)
    rw [Int.natCast_add]; rfl
  refine (ss_for (it_rng (vs_cons ed_ci (vs_cons (ed_add (ed_v (i := 2) (d := .int (topL ns)) rfl) ed_ci) vs_nil)) hr) e3).trans ?_
  -- the most cells of a size
  have hi1 := it_own (Γ := Γ) (ρ := ⟨ffS d (.tup (ns.map rowD)) (some (.frz (.int (topL ns)))) ((lvls ns).map (lvO ns)) v4 v6 v7 v8, p⟩) (i := 3) (ns := ns) rfl kne
  refine (set_shift (bi_shift rfl (lc_shift hi1 (it_seq (el_lst (ed_v (i := 3) rfl)))))).trans ?_
  refine (ss_set em).trans ?_
  refine (ss_if_no (ρ := ⟨[some (.frz d), some (.frz (.tup (ns.map rowD))), some (.frz (.int (topL ns))), some (.frz (.lst ((lvls ns).map (lvD ns)))), v4, some (.frz (.int m)), v6, v7, v8, none], p⟩) (eb_bl (ed_cmp (x := .int m) (ed_v (i := 5) rfl) (ed_kst k0) ?_))).trans ?_
  · show some (decide ((24 : Int) < m)) = some false
    rw [decide_eq_false (by omega)]
  exact ss_ret (ρ := ⟨[some (.frz d), some (.frz (.tup (ns.map rowD))), some (.frz (.int (topL ns))), some (.frz (.lst ((lvls ns).map (lvD ns)))), v4, some (.frz (.int m)), v6, v7, v8, none], p⟩) (d := .lst ((lvls ns).map (lvD ns))) (ed_v (i := 3) rfl)
end Law

set_option Elab.async false
set_option linter.all false
set_option maxRecDepth 100000
set_option maxHeartbeats 0
/-! KP8: law_k80: the program's defs on books. -/
namespace DL
open PySem
variable {Γ : Gam} {ρ : Env}
theorem ss_ex {e : E} {ss : List S} {d : D} (h : EvD Γ e ρ d) : evSs Γ (.ex e :: ss) ρ = evSs Γ ss ρ := by
  obtain ⟨s, e1⟩ := h
  refine ss_ok ?_
  rw [evS, bndE e1]; rfl
theorem hnd_ok {o : Nat → Bool} {hs : List (Nat × HB)} {m : M Fl} {f : Fl} {ρ' : Env} (h : m ρ = .ok f ρ') : hndF o hs m ρ = .ok f ρ' := by
  unfold hndF
  rw [h]
theorem cmp_eq_rows (a b : Rows) : cmpO .Eq (.tup (a.map rowD)) (.frz (.tup (b.map rowD))) = some (decide (a = b)) := by
  have e : ∀ a b : Rows, PyData.eqvAll (D.pys (a.map rowD)) (D.pys (b.map rowD)) = decide (a = b) := by
    intro a
    induction a with
    | nil => intro b; cases b <;> rfl
    | cons x a ih =>
      intro b
      cases b with
      | nil => rfl
      | cons y b =>
        simp only [List.map_cons, D.pys, PyData.eqvAll, ih, eqv_row]
        by_cases h : x = y
        · subst h; simp
        · simp [h]
  show (if okEq (.tup (a.map rowD)) && okEq (.tup (b.map rowD)) then some (PyData.eqv (D.tup (a.map rowD)).py (D.tup (b.map rowD)).py) else none) = _
  rw [(okEq_rows a).2, (okEq_rows b).2]
  simp only [D.py, PyData.eqv, e]
  rfl
end DL
namespace Law
open PySem DL
def tb (i : Nat) : List (Nat × Fn) := build (fun _ => none) C (fs1.take i) (excT exfs)
def G (i : Nat) : Gam := mkG (tb i) (fun _ => none) C
/-- some faces -/
structure Faces (ns : Rows) : Prop where
  f : ∀ n ∈ ns, Face n
  ne : ns ≠ []
  l7 : ns.length ≤ 7
theorem Faces.nn {ns : Rows} (h : Faces ns) : ∀ n ∈ ns, n ≠ [] := fun n hn e => by
  have := (h.f n hn).l1
  rw [e] at this
  simp at this
theorem Faces.ln {ns : Rows} (h : Faces ns) : ∀ n ∈ ns, n.length ≤ lineN := fun n hn => by
  have := (h.f n hn).l3
  have := l64
  omega
theorem grt_ne {ns : Rows} (h : Faces ns) : grt ns ≠ [] := by
  -- a longest one lies in no other
  have longest : ∀ l : Rows, l ≠ [] → ∃ n ∈ l, ∀ y ∈ l, y.length ≤ n.length := by
    intro l
    induction l with
    | nil => intro e; exact absurd rfl e
    | cons x l ih =>
      intro _
      cases l with
      | nil => exact ⟨x, List.mem_cons_self .., fun y hy => by rw [List.mem_singleton.mp hy]; exact Nat.le_refl _⟩
      | cons z l =>
        obtain ⟨n, hn, q⟩ := ih (by simp)
        by_cases hx : x.length ≤ n.length
        · refine ⟨n, List.mem_cons_of_mem _ hn, fun y hy => ?_⟩
          rcases List.mem_cons.mp hy with rfl | hy
          · exact hx
          · exact q y hy
        · refine ⟨x, List.mem_cons_self .., fun y hy => ?_⟩
          rcases List.mem_cons.mp hy with rfl | hy
          · exact Nat.le_refl _
          · have := q y hy
            omega
  obtain ⟨n, hn, q⟩ := longest ns h.ne
  refine List.ne_nil_of_mem (a := n) ((mem_grt ns n).mpr ⟨hn, fun y hy ne => ?_⟩)
  cases e : inR n y with
  | false => rfl
  | true =>
    have sub : n ⊆ y := fun c hc => of_decide_eq_true (List.all_eq_true.mp e c hc)
    have fn := h.f n hn
    have fy := h.f y hy
    have nd : n.Nodup := fn.asc.imp fun {a b} q e => by omega
    have ndy : y.Nodup := fy.asc.imp fun {a b} q e => by omega
    have p1 : (y.filter fun c => decide (c ∈ n)).Perm n := (List.perm_ext_iff_of_nodup (ndy.sublist List.filter_sublist) nd).mpr fun c => by
      rw [List.mem_filter, decide_eq_true_eq]
      exact ⟨fun z => z.2, fun z => ⟨sub z, z⟩⟩
    have len := p1.length_eq
    have le := List.length_filter_le (fun c => decide (c ∈ n)) y
    have qy := q y hy
    have all := List.length_filter_eq_length_iff.mp (show (y.filter fun c => decide (c ∈ n)).length = y.length by omega)
    rw [List.filter_eq_self.mpr all] at p1
    have pm : n.Perm y := p1.symm
    exact absurd (List.Perm.eq_of_pairwise (le := (· < ·)) (fun a b _ _ h1 h2 => by omega) fn.asc fy.asc pm) ne
theorem Faces.grt {ns : Rows} (h : Faces ns) : Faces (DL.grt ns) := ⟨fun n hn => h.f n ((mem_grt ns n).mp hn).1, grt_ne h, by
  have h1 : (DL.grt ns).length ≤ (rowsS ns).length := List.length_filter_le _ _
  have := rowsS_len ns
  have := h.l7
  omega⟩
def fn9 : Fn := rfn (fun _ => none) C din_tuples (tb 1) 12
theorem in_rows {ns : Rows} (h : Faces ns) : Fp fn9 [.tup (ns.map rowD)] (.tup (ns.map rowD)) ∧ Fp fn9 [.lst (ns.map rowD)] (.tup (ns.map rowD)) ∧ Fp fn9 [.lst (ns.map rowL)] (.tup (ns.map rowD)) := by
  have l := l64
  have l7 := h.l7
  obtain ⟨q1, q2, q3⟩ := okIn_rows (k := 9) (ns := ns) (by omega) h.ln
  have main := inT_rec (lam := fun _ => none) (C := C) (f := din_tuples) (T := tb 1) rfl rfl rfl 12
  have r1 := main _ q1
  have r2 := main _ q2
  have r3 := main _ q3
  rw [inT_tup, inT_rows] at r1
  rw [inT_lst, inT_rows] at r2
  rw [inT_lst, inT_rowsL] at r3
  exact ⟨r1, r2, r3⟩
theorem ff_rows {ns : Rows} (h : Faces ns) {d : DL.D} (hd : Fp fn9 [d] (.tup (ns.map rowD))) : Fp (defFn (G 3) 1 10 bfaces_from) [d] (.lst ((lvls ns).map (lvD ns))) :=
  faces_from_ok (Γ := G 3) (Γ2 := G 2) (Γ3 := G 0) (fn9 := fn9) rfl hd rfl rfl rfl rfl h.f h.ne h.l7
theorem gr_rows {ns : Rows} (h : Faces ns) {d : DL.D} (hd : itemsD d = some (ns.map rowD)) : Fp (defFn (G 5) 1 4 bgreatest_of) [d] (.tup ((grt ns).map rowD)) := by
  have l7 := h.l7
  exact greatest_ok (Γ := G 5) (Γ' := G 4) rfl hd (by omega) h.nn h.ln
theorem book_of_ok {ns : Rows} (h : Faces ns) {d : DL.D} (hd : Fp fn9 [d] (.tup (ns.map rowD))) : Fp (defFn (G 6) 1 1 bbook_of) [d] (.tup ((grt ns).map rowD)) := by
  refine fp_of rfl fun p => ?_
  apply Exists.intro
  refine (ss_ex (ed_call (g := 11) rfl (es_cons (ed_v (i := 0) rfl) es_nil) (ff_rows h hd))).trans ?_
  exact ss_ret (ed_call (g := 13) rfl (es_cons (ed_call (g := 9) rfl (es_cons (ed_v (i := 0) rfl) es_nil) hd) es_nil) (gr_rows h rfl))
theorem are_few_ok {ns : Rows} (h : Faces ns) : Fp (defFn (G 7) 1 2 bare_few) [.tup (ns.map rowD)] (.bl true) := by
  refine fp_of rfl fun p => ?_
  apply Exists.intro
  have e1 : evSs (G 7) [.ex (.call 11 [.bi .tuple [.v 0]])] ⟨[some (.frz (.tup (ns.map rowD))), none], p⟩ = .ok .nx ⟨[some (.frz (.tup (ns.map rowD))), none], p⟩ := by
    have t : EvD (G 7) (.bi .tuple [.v 0]) ⟨[some (.frz (.tup (ns.map rowD))), none], p⟩ (.tup (ns.map rowD)) := ed_of_n (en_biE rfl (es_cons (ed_v (i := 0) rfl) es_nil) rfl)
    refine (ss_ex (ed_call (g := 11) rfl (es_cons t es_nil) (ff_rows h (in_rows h).1))).trans ?_
    rw [evSs]; rfl
  refine (ss_ok (ρ' := ⟨[some (.frz (.tup (ns.map rowD))), none], p⟩) ?_).trans (ss_ret ed_c)
  rw [evS]
  exact hnd_ok e1
theorem is_book_ok {ns : Rows} (h : Faces ns) : Fp (defFn (G 8) 1 2 bis_book) [.tup (ns.map rowD)] (.bl (decide (grt ns = ns))) := by
  refine fp_of rfl fun p => ?_
  apply Exists.intro
  refine (ss_if_no (eb_or (c := false) (d := false) (eb_not (c := true) (eb_bl (ed_isa (ed_v (i := 0) (d := .tup (ns.map rowD)) rfl) rfl))) (fun _ => eb_or (c := false) (d := false) (eb_bl (ed_cmp (ed_len (ed_v (i := 0) rfl)) ed_ci ?_)) (fun _ => eb_not (c := true) (eb_bl ?_)) rfl) rfl)).trans ?_
  · show some ((((ns.map rowD).length : Nat) : Int) == 0) = some false
    rw [List.length_map]
    have : ns.length ≠ 0 := fun e => h.ne (List.length_eq_zero_iff.mp e)
    congr 1
    rw [beq_eq_false_iff_ne]
    omega
  · have hh := ed_allC (Γ := G 8) (ρ := ⟨[some (.frz (.tup (ns.map rowD))), none], p⟩) (own := [1]) (tg := .nm 1) (kd := .seq) (es := [.v 0]) (elt := .call 10 [.v 1]) (ds := ns.map rowD) (q := fun _ => true) (it_seq (el_tup (ed_v (i := 0) rfl))) (by
      rw [List.length_map]
      have := l64
      have := h.l7
      omega) (by decide) (by simp) fun x hx X => by
      obtain ⟨n, hn, rfl⟩ := List.mem_map.mp hx
      exact ⟨[some (.frz (.tup (ns.map rowD))), some (.frz (rowD n))], rfl, rfl, ed_call (fn := defFn (G 2) 1 3 bis_face) rfl (es_cons (ed_v (i := 1) rfl) es_nil) (face_ok (Γ := G 2) (Γ' := G 0) rfl rfl (h.f n hn))⟩
    have e : (ns.map rowD).all (fun _ => true) = true := by simp
    rw [e] at hh
    exact hh
  refine ss_ret (ed_and (t := decide (grt ns = ns)) (x := .bl (decide (grt ns = ns))) (ed_cmp (ed_call (g := 13) rfl (es_cons (ed_v (i := 0) rfl) es_nil) (gr_rows h rfl)) (ed_v (i := 0) rfl) (cmp_eq_rows (grt ns) ns)) rfl (fun e => ?_) (fun e => ?_))
  · rw [e]
    exact ed_call (g := 15) rfl (es_cons (ed_v (i := 0) rfl) es_nil) (are_few_ok h)
  · rw [e]
theorem book_from_ok {ns : Rows} (h : Faces ns) (hb : grt ns = ns) {d : DL.D} (hd : Fp fn9 [d] (.tup (ns.map rowD))) : Fp (defFn (G 9) 1 2 bbook_from) [d] (.tup (ns.map rowD)) := by
  refine fp_of rfl fun p => ?_
  apply Exists.intro
  refine (ss_set (ed_call (g := 9) rfl (es_cons (ed_v (i := 0) rfl) es_nil) hd)).trans ?_
  have hi := is_book_ok h
  rw [decide_eq_true hb] at hi
  refine (ss_if_no (eb_not (c := true) (eb_bl (ed_call (g := 16) rfl (es_cons (ed_v (i := 1) rfl) es_nil) hi)))).trans ?_
  exact ss_ret (ed_v (i := 1) rfl)
theorem Faces.snoc {ns : Rows} (h : Faces ns) (h6 : ns.length ≤ 6) {m : List Int} (hm : Face m) : Faces (ns ++ [m]) := ⟨fun n hn => by
  rcases List.mem_append.mp hn with q | q
  · exact h.f n q
  · rw [List.mem_singleton.mp q]; exact hm, by simp, by rw [List.length_append, List.length_singleton]; omega⟩
theorem with_face_ok {ns : Rows} (h : Faces ns) (h6 : ns.length ≤ 6) (hb : grt ns = ns) {d e : DL.D} (hd : Fp fn9 [d] (.tup (ns.map rowD))) {m : List Int} (hm : Face m) (he : Fp fn9 [e] (rowD m)) : Fp (defFn (G 10) 2 4 bwith_face) [d, e] (.tup ((grt (ns ++ [m])).map rowD)) := by
  have hs := h.snoc h6 hm
  refine fp_of rfl fun p => ?_
  apply Exists.intro
  refine (ss_par (x := .tup (ns.map rowD)) (y := rowD m) (ed_call (g := 17) rfl (es_cons (ed_v (i := 0) rfl) es_nil) (book_from_ok h hb hd)) (ed_call (g := 9) rfl (es_cons (ed_v (i := 1) rfl) es_nil) he)).trans ?_
  refine (ss_if_no (ρ := ⟨[some (.frz d), some (.frz e), some (.frz (.tup (ns.map rowD))), some (.frz (rowD m))], p⟩) (eb_not (c := true) (eb_bl (ed_call (fn := defFn (G 2) 1 3 bis_face) (g := 10) rfl (es_cons (ed_v (i := 3) rfl) es_nil) (face_ok (Γ := G 2) (Γ' := G 0) rfl rfl hm))))).trans ?_
  have hadd : EvD (G 10) (.bin .Add (.v 2) (.tup [.v 3])) ⟨[some (.frz d), some (.frz e), some (.frz (.tup (ns.map rowD))), some (.frz (rowD m))], p⟩ (.tup ((ns ++ [m]).map rowD)) := by
    refine ed_bin (ed_v (i := 2) rfl) (ed_tup (es_cons (ed_v (i := 3) rfl) es_nil) (show 1 ≤ lineN by decide)) ?_
    rw [List.map_append]
    have l := l64
    show (if (ns.map rowD).length + [rowD m].length ≤ lineN then _ else none) = _
    rw [if_pos (by rw [List.length_map, List.length_singleton]; omega)]
    rfl
  refine (ss_ex (ed_call (g := 11) rfl (es_cons hadd es_nil) (ff_rows hs (in_rows hs).1))).trans ?_
  exact ss_ret (ed_call (g := 13) rfl (es_cons hadd es_nil) (gr_rows hs rfl))
end Law

set_option Elab.async false
set_option linter.all false
set_option maxRecDepth 100000
set_option maxHeartbeats 0
/-! KP9: law_k80: without_face. -/
namespace DL
open PySem
variable {Γ : Gam} {ρ : Env}
theorem esc_slot {i : Nat} {ds : List D} (hi : ρ.sl[i]? = some (some (.own (ds.map O.frz)))) : esc ⟨some i, .own (ds.map O.frz)⟩ ρ = .ok (.lst ds) (ρ.set i (some (.frz (.lst ds)))) := by
  have ht := own_hasT ds
  have hd := own_d ds
  have hf : ρ.freeze i = some (ρ.set i (some (.frz (.lst ds)))) := by
    unfold Env.freeze
    rw [hi]
    show (if (O.own (ds.map O.frz)).hasT = true then none else some (ρ.set i (some (.frz (O.own (ds.map O.frz)).d)))) = _
    rw [ht, hd]; rfl
  show (if (O.own (ds.map O.frz)).hasT = true then Res.bad else match ρ.freeze i with
    | some ρ' => Res.ok (O.own (ds.map O.frz)).d ρ'
    | none => Res.bad) = _
  rw [ht, hf, hd]; rfl
/-- xs = xs + e, where slot i owns xs -/
theorem s_grow {i : Nat} {ds fs : List D} {e : E} (hi : ρ.sl[i]? = some (some (.own (ds.map O.frz)))) (h : EvN Γ e (ρ.set i (some (.frz (.lst ds)))) (.own (fs.map O.frz))) (hl : ds.length + fs.length ≤ lineN) : evS Γ (.set i (.bin .Add (.v i) e)) ρ = .ok .nx (ρ.set i (some (.own ((ds ++ fs).map O.frz)))) := by
  have h1 : ev Γ (.bin .Add (.v i) e) ρ = .ok ⟨none, .own ((ds ++ fs).map O.frz)⟩ (ρ.set i (some (.frz (.lst ds)))) := by
    rw [ev, ev, bndE (rd_ok hi), bndE (esc_slot hi)]
    have hx := ex_own h
    unfold EvX at hx
    unfold EvN at h
    rw [bndE h] at hx
    rw [bndE h, bndE hx]
    show lft ((if ds.length + fs.length ≤ lineN then some (O.own ((ds ++ fs).map O.frz)) else none).map fun o => (⟨none, o⟩ : Val)) _ = _
    rw [if_pos hl]; rfl
  rw [evS, bndE h1]
  show Res.ok Fl.nx _ = _
  congr 1
  unfold Env.set
  simp [List.set_set]
end DL
namespace Law
open PySem DL
abbrev wfS (d e t g : DL.D) (L : Rows) (v3 : Option O) : List (Option O) := [some (.frz d), some (.frz e), some (.own ((L.map rowD).map O.frz)), v3, some (.frz t), some (.frz g), none]
def wfB : List S := [.set 2 (.bin .Add (.v 2) (.lc [6] (.nm 6) .seq [.v 3] [.tnot (.tv (.call 12 [.v 5, .v 6]))] (.v 6)))]
/-- the rows of a level that do not hold g -/
def offG (ns : Rows) (g : List Int) (k : Nat) : Rows := (lvl ns k).filter fun r => !inR g r
theorem wf_loop {Γ Γ' : Gam} (hw : Γ.fn 12 = some (defFn Γ' 2 3 bis_within)) {d e t : DL.D} {g : List Int} {p : Pen} {ns : Rows} (hg : g.length ≤ lineN) (h3 : ∀ n ∈ ns, n.length ≤ 3) (h7 : ns.length ≤ 20) : ∀ (ks : List Nat) (L : Rows) (v3 : Option O), L.length + 60 * ks.length ≤ 600 →
    ∃ v3', forF (.nm 3) (evSs Γ wfB) (ks.map (lvD ns)) ⟨wfS d e t (rowD g) L v3, p⟩ = .ok .nx ⟨wfS d e t (rowD g) (L ++ ks.flatMap (offG ns g)) v3', p⟩
  | [], L, v3, _ => ⟨v3, by rw [List.map_nil, List.flatMap_nil, List.append_nil]; rfl⟩
  | k :: ks, L, v3, hl => by
    rw [List.length_cons] at hl
    have hk := lvl_len ns k h3
    have hf : (offG ns g k).length ≤ 60 := by
      have := List.length_filter_le (fun r => !inR g r) (lvl ns k)
      unfold offG
      omega
    have l6 : (600 : Nat) ≤ lineN := by decide
    obtain ⟨v, e2⟩ := wf_loop hw (d := d) (e := e) (t := t) (p := p) hg h3 h7 ks (L ++ offG ns g k) (some (.frz (lvD ns k))) (by rw [List.length_append]; omega)
    refine ⟨v, ?_⟩
    rw [List.flatMap_cons, ← List.append_assoc, List.map_cons]
    refine for_cons (ρ1 := ⟨wfS d e t (rowD g) L (some (.frz (lvD ns k))), p⟩) (ρ2 := ⟨wfS d e t (rowD g) (L ++ offG ns g k) (some (.frz (lvD ns k))), p⟩) rfl ?_ e2
    have h := en_lc (Γ := Γ) (ρ := ⟨[some (.frz d), some (.frz e), some (.frz (.lst (L.map rowD))), some (.frz (lvD ns k)), some (.frz t), some (.frz (rowD g)), none], p⟩) (own := [6]) (tg := .nm 6) (kd := .seq) (es := [.v 3]) (ifs := [.tnot (.tv (.call 12 [.v 5, .v 6]))]) (elt := .v 6) (ds := (lvl ns k).map rowD) (P := fun x => !inR g (rowOf x)) (f := O.frz) (it_seq (el_lst (ed_v (i := 3) rfl))) (by rw [List.length_map]; omega) (by decide) (by simp) fun x hx X => by
      obtain ⟨r, _, rfl⟩ := List.mem_map.mp hx
      rw [rowOf_row]
      exact ⟨[some (.frz d), some (.frz e), some (.frz (.lst (L.map rowD))), some (.frz (lvD ns k)), some (.frz t), some (.frz (rowD g)), some (.frz (rowD r))], rfl, rfl, tq_one (eb_not (eb_bl (ed_call hw (es_cons (ed_v (i := 5) rfl) (es_cons (ed_v (i := 6) rfl) es_nil)) (within_ok g r hg)))), fun _ => ⟨eo_d (ed_v (i := 6) rfl), rfl⟩⟩
    have ef : ((lvl ns k).map rowD).filter (fun x => !inR g (rowOf x)) = (offG ns g k).map rowD := by
      unfold offG
      rw [List.filter_map]
      congr 1
      refine List.filter_congr fun r _ => ?_
      show (!inR g (rowOf (rowD r))) = _
      rw [rowOf_row]
    rw [ef] at h
    have hgw := s_grow (Γ := Γ) (ρ := ⟨wfS d e t (rowD g) L (some (.frz (lvD ns k))), p⟩) (i := 2) (ds := L.map rowD) rfl h (by rw [List.length_map, List.length_map]; omega)
    unfold wfB
    refine (ss_ok hgw).trans ?_
    rw [evSs, ← List.map_append]; rfl
end Law

set_option Elab.async false
set_option linter.all false
set_option maxRecDepth 100000
set_option maxHeartbeats 0
/-! KP10: law_k80: without_face, whole. -/
namespace DL
open PySem
variable {Γ : Gam} {ρ : Env}
theorem ss_sett {is : List Nat} {e : E} {ss : List S} {ds : List D} {ρ' : Env} (h : EvD Γ e ρ (.tup ds)) (ha : asgs is ds ρ = .ok () ρ') : evSs Γ (.sett is e :: ss) ρ = evSs Γ ss ρ' := by
  obtain ⟨s, e1⟩ := h
  refine ss_ok ?_
  rw [evS, bndE e1, bndE esc_frz]
  show bnd (asgs is ds) _ ρ = _
  rw [bndE ha]; rfl
theorem ed_lenV {i : Nat} {ds : List D} (hi : ρ.sl[i]? = some (some (.own (ds.map O.frz)))) : EvD Γ (.bi .len [.v i]) ρ (.int ds.length) := by
  have h := ew_v (Γ := Γ) hi (own_hasT ds)
  rw [own_d] at h
  exact ed_bi rfl (vs_consW h vs_nil) rfl
theorem ss_retM {e : E} {ss : List S} {s : Option Nat} {d : D} {ρ' : Env} (h : ev Γ e ρ = .ok ⟨s, .frz d⟩ ρ') : evSs Γ (.ret e :: ss) ρ = .ok (.ret d) ρ' := by
  rw [evSs, evS]
  unfold seqF
  rw [bndE (show bnd (ev Γ e) (fun x => bnd (esc x) fun d => DL.ret (Fl.ret d)) ρ = .ok (.ret d) ρ' by rw [bndE h, bndE esc_frz]; rfl)]
  rfl
theorem ev_ife1 {t a b : E} {r : Res Env Val} (ht : EvB Γ t ρ true) (h : ev Γ a ρ = r) : ev Γ (.ife t a b) ρ = r := by
  rw [ev, bndE ht]; exact h
/-- a call of what a slot owns -/
theorem ev_callO {g i : Nat} {ds : List D} {fn : Fn} {r : D} (hf : Γ.fn g = some fn) (hi : ρ.sl[i]? = some (some (.own (ds.map O.frz)))) (F : Fp fn [.lst ds] r) : ev Γ (.call g [.v i]) ρ = .ok ⟨none, .frz r⟩ (ρ.set i (some (.frz (.lst ds)))) := by
  have h1 : evs Γ [.v i] ρ = .ok [.lst ds] (ρ.set i (some (.frz (.lst ds)))) := by
    rw [evs, ev, bndE (rd_ok hi), bndE (esc_slot hi), evs]; rfl
  rw [ev, bndE h1, hf, callFn_ok (F _), backP_envOf]
end DL
namespace Law
open PySem DL
def leftG (ns : Rows) (g : List Int) : Rows := (lvls ns).flatMap (offG ns g)
def leftD (ns : Rows) (g : List Int) : DL.D := if leftG ns g = [] then .non else .tup ((grt (leftG ns g)).map rowD)
theorem left_len {ns : Rows} (h : Faces ns) (g : List Int) : (leftG ns g).length < 64 := by
  have h3 : ∀ n ∈ ns, n.length ≤ 3 := fun n hn => (h.f n hn).l3
  have one : ∀ k, (offG ns g k).length ≤ 21 := fun k => by
    have := lvl_len ns k h3
    have := List.length_filter_le (fun r => !inR g r) (lvl ns k)
    have := h.l7
    unfold offG
    omega
  have kl : (lvls ns).length ≤ 3 := by
    unfold lvls
    rw [List.length_map, List.length_range]
    have := (top_bd h.ne (fun n hn => (h.f n hn).l1) h3).2
    omega
  have sum : ∀ ks : List Nat, (ks.flatMap (offG ns g)).length ≤ 21 * ks.length := by
    intro ks
    induction ks with
    | nil => simp
    | cons k ks ih =>
      rw [List.flatMap_cons, List.length_append, List.length_cons]
      have := one k
      omega
  have := sum (lvls ns)
  unfold leftG
  omega
theorem left_row {ns : Rows} (h : Faces ns) (g : List Int) : ∀ r ∈ leftG ns g, r ≠ [] ∧ r.length ≤ lineN := fun r hr => by
  obtain ⟨k, hk, q⟩ := List.mem_flatMap.mp hr
  unfold offG at q
  obtain ⟨n, hn, s, e⟩ := (mem_lvl ns k r).mp (List.mem_filter.mp q).1
  unfold lvls at hk
  obtain ⟨j, _, rfl⟩ := List.mem_map.mp hk
  constructor
  · intro z
    rw [z] at e
    simp at e
    omega
  · have := s.length_le
    have := h.ln n hn
    omega
theorem without_face_ok {ns : Rows} (h : Faces ns) (hb : grt ns = ns) {d e : DL.D} (hd : Fp fn9 [d] (.tup (ns.map rowD))) {g : List Int} (hg : Face g) (he : Fp fn9 [e] (rowD g)) (hin : ∃ n ∈ ns, inR g n = true) : Fp (defFn (G 11) 2 7 bwithout_face) [d, e] (leftD ns g) := by
  have l := l64
  have h3 : ∀ n ∈ ns, n.length ≤ 3 := fun n hn => (h.f n hn).l3
  have lg : g.length ≤ lineN := by have := hg.l3; omega
  have l7 := h.l7
  have kl : (lvls ns).length ≤ 3 := by
    unfold lvls
    rw [List.length_map, List.length_range]
    have := (top_bd h.ne (fun n hn => (h.f n hn).l1) h3).2
    omega
  intro p
  obtain ⟨v3, e3⟩ := wf_loop (Γ := G 11) (Γ' := G 4) rfl (d := d) (e := e) (t := .tup (ns.map rowD)) (p := p) lg h3 (by omega) (lvls ns) [] none (by rw [List.length_nil]; omega)
  rw [List.nil_append] at e3
  have gl := left_row h g
  have gr : Fp (defFn (G 5) 1 4 bgreatest_of) [.lst ((leftG ns g).map rowD)] (.tup ((grt (leftG ns g)).map rowD)) := greatest_ok (Γ := G 5) (Γ' := G 4) rfl rfl (left_len h g) (fun r hr => (gl r hr).1) fun r hr => (gl r hr).2
  have last : ∃ sl, evSs (G 11) [.ret (.ife (.tv (.cmp .Gt (.bi .len [.v 2]) (.c (.int 0)))) (.call 13 [.v 2]) (.c (.non)))] ⟨wfS d e (.tup (ns.map rowD)) (rowD g) (leftG ns g) v3, p⟩ = .ok (.ret (leftD ns g)) ⟨sl, p⟩ := by
    have ht : EvB (G 11) (.tv (.cmp .Gt (.bi .len [.v 2]) (.c (.int 0)))) ⟨wfS d e (.tup (ns.map rowD)) (rowD g) (leftG ns g) v3, p⟩ (decide ((0 : Int) < ((leftG ns g).map rowD).length)) := eb_bl (ed_cmp (ed_lenV (i := 2) rfl) ed_ci rfl)
    by_cases hn : leftG ns g = []
    · unfold leftD
      rw [if_pos hn]
      have e0 : decide ((0 : Int) < (((leftG ns g).map rowD).length : Nat)) = false := by rw [hn]; rfl
      rw [e0] at ht
      exact ⟨_, ss_ret (ed_ife ht ed_c)⟩
    · unfold leftD
      rw [if_neg hn]
      have e0 : decide ((0 : Int) < (((leftG ns g).map rowD).length : Nat)) = true := by
        rw [List.length_map]
        have : (leftG ns g).length ≠ 0 := fun z => hn (List.length_eq_zero_iff.mp z)
        exact decide_eq_true (by omega)
      rw [e0] at ht
      have hc := ev_callO (Γ := G 11) (g := 13) (i := 2) (ρ := ⟨wfS d e (.tup (ns.map rowD)) (rowD g) (leftG ns g) v3, p⟩) rfl rfl gr
      exact ⟨_, ss_retM (ev_ife1 ht hc)⟩
  obtain ⟨sl, e4⟩ := last
  obtain ⟨n0, hn0, hin⟩ := hin
  have main : evSs (G 11) bwithout_face ⟨[some (.frz d), some (.frz e), none, none, none, none, none], p⟩ = .ok (.ret (leftD ns g)) ⟨sl, p⟩ := by
    have two : EvD (G 11) (.tup [.call 17 [.v 0], .call 9 [.v 1]]) ⟨[some (.frz d), some (.frz e), none, none, none, none, none], p⟩ (.tup [.tup (ns.map rowD), rowD g]) := ed_tup (es_cons (ed_call (g := 17) rfl (es_cons (ed_v (i := 0) rfl) es_nil) (book_from_ok h hb hd)) (es_cons (ed_call (g := 9) rfl (es_cons (ed_v (i := 1) rfl) es_nil) he) es_nil)) (show 2 ≤ lineN by decide)
    refine (ss_sett (ρ' := ⟨[some (.frz d), some (.frz e), none, none, some (.frz (.tup (ns.map rowD))), some (.frz (rowD g)), none], p⟩) two rfl).trans ?_
    refine (ss_if_no (eb_or (c := false) (d := false) (eb_not (c := true) (eb_bl (ed_call (fn := defFn (G 2) 1 3 bis_face) (g := 10) rfl (es_cons (ed_v (i := 5) rfl) es_nil) (face_ok (Γ := G 2) (Γ' := G 0) rfl rfl hg)))) (fun _ => eb_not (c := true) (eb_bl ?_)) rfl)).trans ?_
    · have hh := ed_anyC (Γ := G 11) (ρ := ⟨[some (.frz d), some (.frz e), none, none, some (.frz (.tup (ns.map rowD))), some (.frz (rowD g)), none], p⟩) (own := [6]) (tg := .nm 6) (kd := .seq) (es := [.v 4]) (elt := .call 12 [.v 5, .v 6]) (ds := ns.map rowD) (q := fun x => inR g (rowOf x)) (it_seq (el_tup (ed_v (i := 4) rfl))) (by rw [List.length_map]; omega) (by decide) (by simp) fun x hx X => by
        obtain ⟨n, hn, rfl⟩ := List.mem_map.mp hx
        rw [rowOf_row]
        exact ⟨[some (.frz d), some (.frz e), none, none, some (.frz (.tup (ns.map rowD))), some (.frz (rowD g)), some (.frz (rowD n))], rfl, rfl, ed_call (fn := defFn (G 4) 2 3 bis_within) rfl (es_cons (ed_v (i := 5) rfl) (es_cons (ed_v (i := 6) rfl) es_nil)) (within_ok g n lg)⟩
      have e1 : (ns.map rowD).any (fun x => inR g (rowOf x)) = true := List.any_eq_true.mpr ⟨rowD n0, List.mem_map.mpr ⟨n0, hn0, rfl⟩, by rw [rowOf_row]; exact hin⟩
      rw [e1] at hh
      exact hh
    refine (ss_setO (eo_n (en_lst (ds := []) es_nil (Nat.zero_le _)))).trans ?_
    refine (ss_for (it_seq (el_lst (ed_call (g := 11) rfl (es_cons (ed_v (i := 4) rfl) es_nil) (ff_rows h (in_rows h).1)))) e3).trans ?_
    exact e4
  unfold defFn runDef
  show (if 2 = 2 then _ else Res.bad) = _
  rw [if_pos rfl]
  show (match evSs (G 11) bwithout_face ⟨[some (.frz d), some (.frz e), none, none, none, none, none], p⟩ with
    | .ok (.ret d) ρ => Res.ok d ρ.pen
    | .ok .nx ρ => Res.ok .non ρ.pen
    | .ok _ _ => Res.bad
    | .err g ns xs ρ => Res.err g ns xs ρ.pen
    | .bad => Res.bad) = _
  rw [main]
end Law

set_option Elab.async false
set_option linter.all false
set_option maxRecDepth 100000
set_option maxHeartbeats 0
/-! KP12: law_k80: the law's own levels. -/
namespace DL
open PySem
variable {Γ : Gam} {ρ : Env}
theorem sort_lens (r : List Int) (k : Nat) : cmpO .Eq (.int (r.length : Nat)) (.frz (.int (k : Nat))) = some (decide (r.length = k)) := by
  show some (((r.length : Nat) : Int) == ((k : Nat) : Int)) = _
  congr 1
  by_cases h : r.length = k
  · rw [h, decide_eq_true rfl]; simp
  · rw [decide_eq_false h, beq_eq_false_iff_ne]; omega
theorem binD_rows (a b : List Int) (h : a.length + b.length ≤ lineN) : binD .Add (rowD a) (rowD b) = some (.frz (rowD (a ++ b))) := by
  show (if (a.map D.int).length + (b.map D.int).length ≤ lineN then some (O.frz (.tup (a.map D.int ++ b.map D.int))) else none) = _
  rw [if_pos (by rw [List.length_map, List.length_map]; exact h), ← List.map_append]; rfl
end DL
namespace Law
open PySem DL
abbrev afS (d t : DL.D) (sz : Option O) (out : List O) (lv : Option O) (fc : Option O) (pt : Option O) (co : Option O) : List (Option O) := [some (.frz d), sz, some (.frz t), some (.own out), lv, fc, pt, co, none]
def dbB : List S := [.set 6 (.bin .Add (.v 6) (.lc [8] (.nm 8) .seq [.v 6] [] (.bin .Add (.v 8) (.tup [.v 7]))))]
/-- parts, by doubling -/
theorem af1 {Γ : Gam} {d t : DL.D} {sz : Option O} {out : List O} {lv fc : Option O} {p : Pen} : ∀ (cs : List Int) (ps : Rows) (co : Option O), (∀ q ∈ ps, q.length + cs.length ≤ 8) → ps.length * 2 ^ cs.length ≤ 600 →
    ∃ co', forF (.nm 7) (evSs Γ dbB) (cs.map DL.D.int) ⟨afS d t sz out lv fc (some (.own ((ps.map rowD).map O.frz))) co, p⟩ = .ok .nx ⟨afS d t sz out lv fc (some (.own (((cs.foldl dbl ps).map rowD).map O.frz))) co', p⟩
  | [], ps, co, _, _ => ⟨co, rfl⟩
  | c :: cs, ps, co, h8, hl => by
    have l6 : (600 : Nat) ≤ lineN := by decide
    have lp : ps.length * 2 ≤ 600 := by
      rw [List.length_cons, Nat.pow_succ] at hl
      have : 1 ≤ 2 ^ cs.length := Nat.one_le_two_pow
      have h2 : ps.length * 2 * 1 ≤ ps.length * 2 * 2 ^ cs.length := Nat.mul_le_mul_left _ this
      have h3 : ps.length * (2 ^ cs.length * 2) = ps.length * 2 * 2 ^ cs.length := by rw [Nat.mul_comm (2 ^ cs.length) 2, Nat.mul_assoc]
      omega
    obtain ⟨v, e2⟩ := af1 (Γ := Γ) (d := d) (t := t) (sz := sz) (out := out) (lv := lv) (fc := fc) (p := p) cs (dbl ps c) (some (.frz (.int c))) (fun q hq => by
      unfold dbl at hq
      rcases List.mem_append.mp hq with z | z
      · have := h8 q z
        rw [List.length_cons] at this
        omega
      · obtain ⟨r, hr, rfl⟩ := List.mem_map.mp z
        have := h8 r hr
        rw [List.length_cons] at this
        rw [List.length_append, List.length_singleton]
        omega) (by
      unfold dbl
      rw [List.length_append, List.length_map]
      rw [List.length_cons, Nat.pow_succ] at hl
      have h3 : ps.length * (2 ^ cs.length * 2) = (ps.length + ps.length) * 2 ^ cs.length := by
        rw [← Nat.two_mul, Nat.mul_comm (2 ^ cs.length) 2, ← Nat.mul_assoc, Nat.mul_comm ps.length 2]
      omega)
    refine ⟨v, ?_⟩
    rw [List.foldl_cons, List.map_cons]
    refine for_cons (ρ1 := ⟨afS d t sz out lv fc (some (.own ((ps.map rowD).map O.frz))) (some (.frz (.int c))), p⟩) (ρ2 := ⟨afS d t sz out lv fc (some (.own (((dbl ps c).map rowD).map O.frz))) (some (.frz (.int c))), p⟩) rfl ?_ e2
    have h := en_lc (Γ := Γ) (ρ := ⟨afS d t sz out lv fc (some (.frz (.lst (ps.map rowD)))) (some (.frz (.int c))), p⟩) (own := [8]) (tg := .nm 8) (kd := .seq) (es := [.v 6]) (ifs := []) (elt := .bin .Add (.v 8) (.tup [.v 7])) (ds := ps.map rowD) (P := fun _ => true) (f := fun x => O.frz (rowD (rowOf x ++ [c]))) (it_seq (el_lst (ed_v (i := 6) rfl))) (by rw [List.length_map]; omega) (by decide) (by simp) fun x hx X => by
      obtain ⟨r, hr, rfl⟩ := List.mem_map.mp hx
      rw [rowOf_row]
      refine ⟨[some (.frz d), sz, some (.frz t), some (.own out), lv, fc, some (.frz (.lst (ps.map rowD))), some (.frz (.int c)), some (.frz (rowD r))], rfl, rfl, tq_nil, fun _ => ⟨eo_d (ed_bin (ed_v (i := 8) rfl) (ed_tup (es_cons (ed_v (i := 7) rfl) es_nil) (show 1 ≤ lineN by decide)) (binD_rows r [c] ?_)), rfl⟩⟩
      have := h8 r hr
      rw [List.length_cons] at this
      rw [List.length_singleton]
      omega
    rw [filter_true] at h
    have ef : (ps.map rowD).map (fun x => O.frz (rowD (rowOf x ++ [c]))) = ((ps.map (· ++ [c])).map rowD).map O.frz := by
      rw [List.map_map, List.map_map, List.map_map]
      refine List.map_congr_left fun r _ => ?_
      show O.frz (rowD (rowOf (rowD r) ++ [c])) = _
      rw [rowOf_row]; rfl
    rw [ef] at h
    have hgw := s_grow (Γ := Γ) (ρ := ⟨afS d t sz out lv fc (some (.own ((ps.map rowD).map O.frz))) (some (.frz (.int c))), p⟩) (i := 6) (ds := ps.map rowD) rfl h (by rw [List.length_map, List.length_map, List.length_map]; omega)
    unfold dbB
    refine (ss_ok hgw).trans ?_
    rw [evSs, ← List.map_append]; rfl
end Law

set_option Elab.async false
set_option linter.all false
set_option maxRecDepth 100000
set_option maxHeartbeats 0
/-! KP14: law_k80: the law's own levels, face by face. -/
namespace DL
open PySem
variable {Γ : Gam} {ρ : Env}
theorem cmp_nin_frz (c : List Int) (b : Rows) : cmpO .NotIn (rowD c) (.frz (.lst (b.map rowD))) = some (!decide (c ∈ b)) := by
  show (if okEq (rowD c) && okEq (.lst (b.map rowD)) then some (!(b.map rowD).any fun y => PyData.eqv y.py (rowD c).py) else none) = _
  rw [okEq_row, (okEq_rows b).1, any_row]; rfl
end DL
namespace Law
open PySem DL
def lvB : List S := [.set 6 (.lst [.tup []]), .fr (.nm 7) .seq [.v 5] [.set 6 (.bin .Add (.v 6) (.lc [8] (.nm 8) .seq [.v 6] [] (.bin .Add (.v 8) (.tup [.v 7]))))], .set 4 (.bin .Add (.v 4) (.lc [8] (.nm 8) .seq [.v 6] [.tand (.tv (.cmp .Eq (.bi .len [.v 8]) (.v 1))) (.tv (.cmp .NotIn (.v 8) (.v 4)))] (.v 8)))]
theorem parts8 {f : List Int} (h : f.length ≤ 3) : (partsL f).length ≤ 8 := by
  have e : ∀ (f : List Int) (ps : Rows), (f.foldl dbl ps).length = ps.length * 2 ^ f.length := by
    intro f
    induction f with
    | nil => intro ps; simp
    | cons c f ih =>
      intro ps
      rw [List.foldl_cons, ih, List.length_cons, Nat.pow_succ]
      unfold dbl
      rw [List.length_append, List.length_map, ← Nat.two_mul, Nat.mul_comm (2 ^ f.length) 2, ← Nat.mul_assoc, Nat.mul_comm ps.length 2]
  unfold partsL
  rw [e, List.length_singleton, Nat.one_mul]
  exact Nat.pow_le_pow_right (by decide) h
theorem af2 {Γ : Gam} {d t : DL.D} {k : Nat} {out : List O} {p : Pen} : ∀ (fs : Rows) (lv : Rows) (fc pt co : Option O), (∀ f ∈ fs, f.length ≤ 3) → lv.length + 8 * fs.length ≤ 500 →
    ∃ fc' pt' co', forF (.nm 5) (evSs Γ lvB) (fs.map rowD) ⟨afS d t (some (.frz (.int (k : Nat)))) out (some (.own ((lv.map rowD).map O.frz))) fc pt co, p⟩ = .ok .nx ⟨afS d t (some (.frz (.int (k : Nat)))) out (some (.own (((fs.foldl (addLv k) lv).map rowD).map O.frz))) fc' pt' co', p⟩
  | [], lv, fc, pt, co, _, _ => ⟨fc, pt, co, rfl⟩
  | f :: fs, lv, fc, pt, co, h3, hl => by
    rw [List.length_cons] at hl
    have f3 := h3 f (List.mem_cons_self ..)
    have p8 := parts8 f3
    have l6 : (600 : Nat) ≤ lineN := by decide
    have la : (addLv k lv f).length ≤ lv.length + 8 := by
      unfold addLv
      rw [List.length_append]
      have := List.length_filter_le (fun q => decide (q.length = k) && !decide (q ∈ lv)) (partsL f)
      omega
    obtain ⟨w, e1⟩ := af1 (Γ := Γ) (d := d) (t := t) (sz := some (.frz (.int (k : Nat)))) (out := out) (lv := some (.own ((lv.map rowD).map O.frz))) (fc := some (.frz (rowD f))) (p := p) f [[]] co (fun q hq => by
      rw [List.mem_singleton.mp hq, List.length_nil]; omega) (by
      rw [List.length_singleton, Nat.one_mul]
      have : 2 ^ f.length ≤ 2 ^ 3 := Nat.pow_le_pow_right (by decide) f3
      omega)
    obtain ⟨u1, u2, u3, e2⟩ := af2 (Γ := Γ) (d := d) (t := t) (k := k) (out := out) (p := p) fs (addLv k lv f) (some (.frz (rowD f))) (some (.own (((partsL f).map rowD).map O.frz))) w (fun m hm => h3 m (List.mem_cons_of_mem _ hm)) (by omega)
    refine ⟨u1, u2, u3, ?_⟩
    rw [List.foldl_cons, List.map_cons]
    refine for_cons (ρ1 := ⟨afS d t (some (.frz (.int (k : Nat)))) out (some (.own ((lv.map rowD).map O.frz))) (some (.frz (rowD f))) pt co, p⟩) rfl ?_ e2
    unfold lvB
    refine (ss_setO (eo_n (en_lst (ds := [rowD []]) (es_cons (ed_tup es_nil (Nat.zero_le _)) es_nil) (show 1 ≤ lineN by decide)))).trans ?_
    refine (ss_for (it_seq (el_tup (ed_v (i := 5) rfl))) e1).trans ?_
    have h := en_lc (Γ := Γ) (ρ := ⟨afS d t (some (.frz (.int (k : Nat)))) out (some (.frz (.lst (lv.map rowD)))) (some (.frz (rowD f))) (some (.own (((partsL f).map rowD).map O.frz))) w, p⟩) (own := [8]) (tg := .nm 8) (kd := .seq) (es := [.v 6]) (ifs := [.tand (.tv (.cmp .Eq (.bi .len [.v 8]) (.v 1))) (.tv (.cmp .NotIn (.v 8) (.v 4)))]) (elt := .v 8) (ds := (partsL f).map rowD) (P := fun x => decide ((rowOf x).length = k) && !decide (rowOf x ∈ lv)) (f := O.frz) (it_seq (el_v (i := 6) rfl)) (by rw [List.length_map]; omega) (by decide) (by simp) fun x hx X => by
      obtain ⟨r, _, rfl⟩ := List.mem_map.mp hx
      rw [rowOf_row]
      refine ⟨[some (.frz d), some (.frz (.int (k : Nat))), some (.frz t), some (.own out), some (.frz (.lst (lv.map rowD))), some (.frz (rowD f)), some (.own (((partsL f).map rowD).map O.frz)), w, some (.frz (rowD r))], rfl, rfl, tq_one (eb_and (eb_bl (ed_cmp (ed_len (ed_v (i := 8) rfl)) (ed_v (i := 1) rfl) ?_)) (fun _ => eb_bl (ed_cmp (ed_v (i := 8) rfl) (ed_v (i := 4) rfl) (cmp_nin_frz r lv))) rfl), fun _ => ⟨eo_d (ed_v (i := 8) rfl), rfl⟩⟩
      rw [List.length_map]
      exact sort_lens r k
    have ef : ((partsL f).map rowD).filter (fun x => decide ((rowOf x).length = k) && !decide (rowOf x ∈ lv)) = ((partsL f).filter fun q => decide (q.length = k) && !decide (q ∈ lv)).map rowD := by
      rw [List.filter_map]
      congr 1
      refine List.filter_congr fun r _ => ?_
      show (decide ((rowOf (rowD r)).length = k) && !decide (rowOf (rowD r) ∈ lv)) = _
      rw [rowOf_row]
    rw [ef] at h
    have hgw := s_grow (Γ := Γ) (ρ := ⟨afS d t (some (.frz (.int (k : Nat)))) out (some (.own ((lv.map rowD).map O.frz))) (some (.frz (rowD f))) (some (.own (((partsL f).map rowD).map O.frz))) w, p⟩) (i := 4) (ds := lv.map rowD) rfl h (by
      have := List.length_filter_le (fun q => decide (q.length = k) && !decide (q ∈ lv)) (partsL f)
      rw [List.length_map, List.length_map]; omega)
    refine (ss_ok hgw).trans ?_
    rw [evSs, ← List.map_append]; rfl
end Law

set_option Elab.async false
set_option linter.all false
set_option maxRecDepth 100000
set_option maxHeartbeats 0
/-! KP15: law_k80: the law's own levels, size by size. -/
namespace DL
open PySem
variable {Γ : Gam} {ρ : Env}
theorem s_appM {i : Nat} {e : E} {o : O} {os : List O} {ρ' : Env} (h0 : isOwn i ρ = .ok () ρ) (h : ev Γ e ρ = .ok ⟨none, o⟩ ρ') (hi : ρ'.sl[i]? = some (some (.own os))) (ht : o.hasT = false) (hl : os.length < lineN) : evS Γ (.app i e) ρ = .ok .nx (ρ'.set i (some (.own (os ++ [o])))) := by
  rw [evS, bndE h0, bndE h, bndE (show keep ⟨none, o⟩ ρ' = .ok o ρ' from rfl), bndE (show noT o ρ' = .ok () ρ' by unfold noT; rw [ht]; rfl)]
  unfold modOwn
  rw [hi]
  show (match (if os.length < lineN then some (os ++ [o]) else none) with
    | some os' => Res.ok Fl.nx (ρ'.set i (some (O.own os')))
    | none => Res.bad) = _
  rw [if_pos hl]
/-- sorted of what a slot owns -/
theorem ev_sortO {i : Nat} {ns : Rows} (hi : ρ.sl[i]? = some (some (.own ((ns.map rowD).map O.frz)))) (hne : ∀ n ∈ ns, n ≠ []) : ev Γ (.bi .sorted [.v i]) ρ = .ok ⟨none, .own (((srt ns).map rowD).map O.frz)⟩ (ρ.set i (some (.frz (.lst (ns.map rowD))))) := by
  have h1 : evs Γ [.v i] ρ = .ok [.lst (ns.map rowD)] (ρ.set i (some (.frz (.lst (ns.map rowD))))) := by
    rw [evs, ev, bndE (rd_ok hi), bndE (esc_slot hi), evs]; rfl
  have h2 : biE .sorted [.lst (ns.map rowD)] = some (.own (((srt ns).map rowD).map O.frz)) := by
    show (if (alikeD (ns.map rowD) && sortableD (ns.map rowD)) = true then some (O.own ((sortD (ns.map rowD)).map O.frz)) else none) = _
    rw [alike_rows, sortable_rows hne, sortD_rows]; rfl
  rw [ev, if_pos (show B.sorted.esc = true from rfl), bndE h1, h2]; rfl
end DL
namespace Law
open PySem DL
def szB : List S := [.set 4 (.lst []), .fr (.nm 5) .seq [.v 0] lvB, .app 3 (.bi .sorted [.v 4])]
theorem af3 {Γ : Gam} {t : DL.D} {p : Pen} {ns : Rows} (hF : ∀ n ∈ ns, Face n) (h7 : ns.length ≤ 20) : ∀ (ks : List Nat) (out : List O) (sz lv fc pt co : Option O), (∀ k ∈ ks, 1 ≤ k) → out.length + ks.length ≤ 60 →
    ∃ sz' lv' fc' pt' co', forF (.nm 1) (evSs Γ szB) (ks.map fun k => DL.D.int (k : Nat)) ⟨afS (.lst (ns.map rowD)) t sz out lv fc pt co, p⟩ = .ok .nx ⟨afS (.lst (ns.map rowD)) t sz' (out ++ ks.map (lvO ns)) lv' fc' pt' co', p⟩
  | [], out, sz, lv, fc, pt, co, _, _ => ⟨sz, lv, fc, pt, co, by rw [List.map_nil, List.map_nil, List.append_nil]; rfl⟩
  | k :: ks, out, sz, lv, fc, pt, co, hk, hl => by
    rw [List.length_cons] at hl
    have l := l64
    have nd : ∀ n ∈ ns, n.Nodup := fun n hn => (hF n hn).asc.imp fun {a b} q e => by omega
    obtain ⟨w1, w2, w3, e1⟩ := af2 (Γ := Γ) (d := .lst (ns.map rowD)) (t := t) (k := k) (out := out) (p := p) ns [] fc pt co (fun n hn => (hF n hn).l3) (by rw [List.length_nil]; omega)
    obtain ⟨u1, u2, u3, u4, u5, e2⟩ := af3 (Γ := Γ) (t := t) (p := p) hF h7 ks (out ++ [lvO ns k]) (some (.frz (.int (k : Nat)))) (some (.frz (.lst ((ns.foldl (addLv k) []).map rowD)))) w1 w2 w3 (fun j hj => hk j (List.mem_cons_of_mem _ hj)) (by rw [List.length_append, List.length_singleton]; omega)
    refine ⟨u1, u2, u3, u4, u5, ?_⟩
    rw [List.map_cons, List.map_cons, List.append_cons]
    refine for_cons (ρ1 := ⟨afS (.lst (ns.map rowD)) t (some (.frz (.int (k : Nat)))) out lv fc pt co, p⟩) rfl ?_ e2
    unfold szB
    refine (ss_setO (eo_n (en_lst (ds := []) es_nil (Nat.zero_le _)))).trans ?_
    refine (ss_for (it_seq (el_lst (ed_v (i := 0) rfl))) e1).trans ?_
    have hs := ev_sortO (Γ := Γ) (ρ := ⟨afS (.lst (ns.map rowD)) t (some (.frz (.int (k : Nat)))) out (some (.own (((ns.foldl (addLv k) []).map rowD).map O.frz))) w1 w2 w3, p⟩) (i := 4) (ns := ns.foldl (addLv k) []) rfl fun n hn z => by
      rcases ((addLvs ns [] k nd List.nodup_nil).2 n).mp hn with q | ⟨m, _, q⟩
      · cases q
      · have := hk k (List.mem_cons_self ..)
        rw [z] at q
        have := q.2
        simp at this
        omega
    rw [level_eq ns k nd] at hs
    refine (ss_ok (s_appM (i := 3) (os := out) rfl hs rfl (own_hasT _) (by omega))).trans ?_
    rw [evSs]; rfl
end Law

set_option Elab.async false
set_option linter.all false
set_option maxRecDepth 100000
set_option maxHeartbeats 0
/-! KP16: law_k80: rules for the law's own levels, whole. -/
namespace DL
open PySem
variable {Γ : Gam} {ρ : Env}
theorem ss_parO {i j : Nat} {a b : E} {ss : List S} {x : D} {o : O} (h : EvD Γ a ρ x) (k : EvO Γ b ⟨ρ.sl ++ [some (.frz x)], ρ.pen⟩ o) : evSs Γ (.par i j a b :: ss) ρ = evSs Γ ss ((ρ.set i (some (.frz x))).set j (some o)) := by
  obtain ⟨s, e1⟩ := h
  unfold EvO at k
  rw [evSs, evS]
  unfold seqF
  rw [bndE (a := .nx) (ρ' := (ρ.set i (some (.frz x))).set j (some o))]
  rw [bndE e1, bndE keep_frz, bndE (show push (.frz x) ρ = .ok () ⟨ρ.sl ++ [some (.frz x)], ρ.pen⟩ from rfl), bndL, bndE k, bndE (show popL ⟨ρ.sl ++ [some (.frz x)], ρ.pen⟩ = .ok (.frz x) ρ by
    unfold popL
    simp only [getLast_app, List.dropLast_concat])]
  rfl
/-- a list of lists that a slot owns, told -/
theorem ss_retLv {i : Nat} {ns : Rows} {ks : List Nat} {ss : List S} (hi : ρ.sl[i]? = some (some (.own (ks.map (lvO ns))))) : evSs Γ (.ret (.v i) :: ss) ρ = .ok (.ret (.lst (ks.map (lvD ns)))) (ρ.set i (some (.frz (.lst (ks.map (lvD ns)))))) := by
  have hd : (O.own (ks.map (lvO ns))).d = .lst (ks.map (lvD ns)) := by rw [O.d, ds_lv]
  have ht : (O.own (ks.map (lvO ns))).hasT = false := by rw [O.hasT, ts_lv]
  have hf : ρ.freeze i = some (ρ.set i (some (.frz (.lst (ks.map (lvD ns)))))) := by
    unfold Env.freeze
    rw [hi]
    show (if (O.own (ks.map (lvO ns))).hasT = true then none else some (ρ.set i (some (.frz (O.own (ks.map (lvO ns))).d)))) = _
    rw [ht, hd]; rfl
  have he : esc ⟨some i, .own (ks.map (lvO ns))⟩ ρ = .ok (.lst (ks.map (lvD ns))) (ρ.set i (some (.frz (.lst (ks.map (lvD ns)))))) := by
    show (if (O.own (ks.map (lvO ns))).hasT = true then Res.bad else match ρ.freeze i with
      | some ρ' => Res.ok (O.own (ks.map (lvO ns))).d ρ'
      | none => Res.bad) = _
    rw [ht, hf, hd]; rfl
  rw [evSs, evS]
  unfold seqF
  rw [bndE (show bnd (ev Γ (.v i)) (fun x => bnd (esc x) fun d => DL.ret (Fl.ret d)) ρ = .ok (.ret (.lst (ks.map (lvD ns)))) (ρ.set i (some (.frz (.lst (ks.map (lvD ns)))))) by rw [ev, bndE (rd_ok hi), bndE he]; rfl)]
  rfl
end DL

set_option Elab.async false
set_option linter.all false
set_option maxRecDepth 100000
set_option maxHeartbeats 0
/-! KP17: law_k80: the law's own levels, whole. -/
namespace Law
open PySem DL
theorem law_all_faces_ok {Γ : Gam} {ns : Rows} (h : Faces ns) : Fp (defFn Γ 1 9 b_law_all_faces) [.lst (ns.map rowD)] (.lst ((lvls ns).map (lvD ns))) := by
  have l := l64
  have l7 := h.l7
  have h1 : ∀ n ∈ ns, 1 ≤ n.length := fun n hn => (h.f n hn).l1
  have h3 : ∀ n ∈ ns, n.length ≤ 3 := fun n hn => (h.f n hn).l3
  obtain ⟨t1, t3⟩ := top_bd h.ne h1 h3
  have lr : (ns.map rowD).length ≤ lineN := by rw [List.length_map]; omega
  have klen : (lvls ns).length ≤ 3 := by
    unfold lvls
    rw [List.length_map, List.length_range]; omega
  have kk : ∀ k ∈ lvls ns, 1 ≤ k := fun k hk => by
    unfold lvls at hk
    obtain ⟨j, _, rfl⟩ := List.mem_map.mp hk
    omega
  refine fp_of rfl fun p => ?_
  obtain ⟨sz, lv, fc, pt, co, e3⟩ := af3 (Γ := Γ) (t := .int (topL ns)) (p := p) h.f (by omega) (lvls ns) [] none none none none none kk (by rw [List.length_nil]; omega)
  rw [List.nil_append] at e3
  have htop : EvD Γ (.bi .max1 [.lc [5] (.nm 5) .seq [.v 0] [] (.bi .len [.v 5])]) ⟨[some (.frz (.lst (ns.map rowD))), none, none, none, none, none, none, none, none], p⟩ (.int (topL ns)) := by
    have hh := en_lens (Γ := Γ) (ρ := ⟨[some (.frz (.lst (ns.map rowD))), none, none, none, none, none, none, none, none], p⟩) (own := [5]) (v := 5) (es := [.v 0]) (kd := .seq) (ds := ns.map rowD) (f := fun x => ((rowOf x).length : Nat)) rfl (by simp) (it_seq (el_lst (ed_v (i := 0) rfl))) lr fun x hx => by
      obtain ⟨n, _, rfl⟩ := List.mem_map.mp hx
      rw [rowOf_row]
      show some (O.frz (.int (((n.map DL.D.int).length : Nat) : Int))) = _
      rw [List.length_map]
    obtain ⟨_, ne, _⟩ := h
    cases ns with
    | nil => exact absurd rfl ne
    | cons n ns =>
      refine ed_max1 (n := ((n.length : Nat) : Int)) (ns := ns.map fun m => ((m.length : Nat) : Int)) ?_
      have e : ((n :: ns).map rowD).map (fun x => DL.D.int ((rowOf x).length : Nat)) = (((n.length : Nat) : Int) :: ns.map fun m => ((m.length : Nat) : Int)).map DL.D.int := by
        rw [List.map_map, List.map_cons, List.map_cons, List.map_map]
        refine congr (congrArg List.cons ?_) (List.map_congr_left fun m _ => ?_)
        · show DL.D.int ((rowOf (rowD n)).length : Nat) = _
          rw [rowOf_row]
        · show DL.D.int ((rowOf (rowD m)).length : Nat) = _
          rw [rowOf_row]; rfl
      rw [e] at hh
      exact hh
  have hr : rngD true [.int 1, .int (topL ns + 1)] = some ((lvls ns).map fun k => DL.D.int (k : Nat)) := by
    rw [rng2 (by omega) (by omega) (by omega) (by omega)]
    unfold lvls
    rw [List.map_map]
    congr 1
    rw [show topL ns + 1 - 1 = topL ns by omega]
    refine List.map_congr_left fun k _ => ?_
    show DL.D.int (1 + (k : Nat)) = DL.D.int ((1 + k : Nat) : Int)
    rw [Int.natCast_add]; rfl
  apply Exists.intro
  refine (ss_parO htop (eo_n (en_lst (ds := []) es_nil (Nat.zero_le _)))).trans ?_
  refine (ss_for (it_rng (vs_cons ed_ci (vs_cons (ed_add (ed_v (i := 2) (d := .int (topL ns)) rfl) ed_ci) vs_nil)) hr) e3).trans ?_
  exact ss_retLv (i := 3) rfl
end Law

set_option Elab.async false
set_option linter.all false
set_option maxRecDepth 100000
set_option maxHeartbeats 0
/-! KP18: law_k80: shuffled. -/
namespace DL
open PySem
variable {Γ : Gam} {ρ : Env}
theorem ss_par2 {i j : Nat} {a b : E} {ss : List S} {x o : O} (h : EvO Γ a ρ x) (k : EvO Γ b ⟨ρ.sl ++ [some x], ρ.pen⟩ o) : evSs Γ (.par i j a b :: ss) ρ = evSs Γ ss ((ρ.set i (some x)).set j (some o)) := by
  unfold EvO at h k
  rw [evSs, evS]
  unfold seqF
  rw [bndE (a := .nx) (ρ' := (ρ.set i (some x)).set j (some o))]
  rw [bndL, bndE h, bndE (show push x ρ = .ok () ⟨ρ.sl ++ [some x], ρ.pen⟩ from rfl), bndL, bndE k, bndE (show popL ⟨ρ.sl ++ [some x], ρ.pen⟩ = .ok x ρ by
    unfold popL
    simp only [getLast_app, List.dropLast_concat])]
  rfl
theorem eraseIdx_map {α β : Type} (f : α → β) : ∀ (xs : List α) (k : Nat), (xs.map f).eraseIdx k = (xs.eraseIdx k).map f
  | [], k => by simp
  | x :: xs, 0 => by simp
  | x :: xs, k + 1 => by
    rw [List.map_cons, List.eraseIdx_cons_succ, List.eraseIdx_cons_succ, List.map_cons, eraseIdx_map f xs k]
theorem perm_pop {α : Type} (xs : List α) (k : Nat) (h : k < xs.length) : xs.Perm (xs[k] :: xs.eraseIdx k) := by
  induction xs generalizing k with
  | nil => simp at h
  | cons x xs ih =>
    cases k with
    | zero => simp
    | succ k =>
      rw [List.getElem_cons_succ, List.eraseIdx_cons_succ]
      have := ih k (by rw [List.length_cons] at h; omega)
      exact (this.cons x).trans (List.Perm.swap ..)
/-- what is popped goes to another list -/
theorem s_popTo {i j : Nat} {e : E} {s : Option Nat} {left found : List D} {k : Nat} {ρ' : Env} (ne : i ≠ j) (hi0 : ρ.sl[i]? = some (some (.own (found.map O.frz)))) (hj0 : ρ.sl[j]? = some (some (.own (left.map O.frz)))) (he : ev Γ e ρ = .ok ⟨s, .frz (.int (k : Nat))⟩ ρ') (hs : ρ'.sl = ρ.sl) (hk : k < left.length) (hl : left.length ≤ lineN) (hf : found.length < lineN) :
    evS Γ (.apop i j e) ρ = .ok .nx ((ρ'.set j (some (.own ((left.eraseIdx k).map O.frz)))).set i (some (.own ((found ++ [left[k]]).map O.frz)))) := by
  have h1 : isOwn i ρ = .ok () ρ := by unfold isOwn; rw [hi0]
  have h2 : isOwn j ρ = .ok () ρ := by unfold isOwn; rw [hj0]
  rw [evS, bndE h1, bndE h2, bndE he, bndE vInt_frz]
  have hj : ρ'.sl[j]? = some (some (.own (left.map O.frz))) := by rw [hs]; exact hj0
  have hix : L2.ixN (left.map O.frz).length (k : Nat) = some k := by
    unfold L2.ixN
    rw [if_pos (Int.natCast_nonneg k), if_pos (by rw [List.length_map]; omega), Int.toNat_natCast]
  have hg : (left.map O.frz)[k]? = some (O.frz left[k]) := by rw [List.getElem?_map, List.getElem?_eq_getElem hk]; rfl
  have hm1 : modOwn j (fun os => some (os.eraseIdx k)) ρ' = .ok .nx (ρ'.set j (some (.own ((left.eraseIdx k).map O.frz)))) := by
    unfold modOwn
    rw [hj]
    show Res.ok Fl.nx (ρ'.set j (some (.own ((left.map O.frz).eraseIdx k)))) = _
    rw [eraseIdx_map]
  have hi1 : (ρ'.set j (some (.own ((left.eraseIdx k).map O.frz)))).sl[i]? = some (some (.own (found.map O.frz))) := by
    show (ρ'.sl.set j _)[i]? = _
    rw [List.getElem?_set_ne (Ne.symm ne), hs]; exact hi0
  simp only [hj, hix, hg]
  rw [if_neg ne, if_pos (by rw [List.length_map]; exact hl), bndE hm1]
  unfold modOwn
  rw [hi1]
  show (match (if (found.map O.frz).length < lineN then some (found.map O.frz ++ [O.frz left[k]]) else none) with
    | some os' => Res.ok Fl.nx ((ρ'.set j (some (.own ((left.eraseIdx k).map O.frz)))).set i (some (O.own os')))
    | none => Res.bad) = _
  rw [if_pos (by rw [List.length_map]; exact hf), List.map_append]; rfl
/-- a return of what a slot owns -/
theorem ss_retOwn {i : Nat} {ds : List D} {ss : List S} (hi : ρ.sl[i]? = some (some (.own (ds.map O.frz)))) : ∃ sl, evSs Γ (.ret (.v i) :: ss) ρ = .ok (.ret (.lst ds)) ⟨sl, ρ.pen⟩ := by
  have hd := own_d ds
  have ht := own_hasT ds
  have hf : ρ.freeze i = some (ρ.set i (some (.frz (.lst ds)))) := by
    unfold Env.freeze
    rw [hi]
    show (if (O.own (ds.map O.frz)).hasT = true then none else some (ρ.set i (some (.frz (O.own (ds.map O.frz)).d)))) = _
    rw [ht, hd]; rfl
  have he : esc ⟨some i, .own (ds.map O.frz)⟩ ρ = .ok (.lst ds) (ρ.set i (some (.frz (.lst ds)))) := by
    show (if (O.own (ds.map O.frz)).hasT = true then Res.bad else match ρ.freeze i with
      | some ρ' => Res.ok (O.own (ds.map O.frz)).d ρ'
      | none => Res.bad) = _
    rw [ht, hf, hd]; rfl
  refine ⟨(ρ.set i (some (.frz (.lst ds)))).sl, ?_⟩
  rw [evSs, evS]
  unfold seqF
  rw [bndE (show bnd (ev Γ (.v i)) (fun x => bnd (esc x) fun d => DL.ret (Fl.ret d)) ρ = .ok (.ret (.lst ds)) (ρ.set i (some (.frz (.lst ds)))) by rw [ev, bndE (rd_ok hi), bndE he]; rfl)]
  rfl
/-- shuffled: the same things -/
def shufBody (g : Nat) : List S := [
  .par 3 4 (.bi .list [.v 1]) (.lst []),
  .fr (.nm 2) (.rng false) [.bi .len [.v 1]] [.apop 4 3 (.call g [.v 0, .bi .len [.v 3]])],
  .ret (.v 4)]
abbrev shS (v1 : D) (v2 : Option O) (left found : List D) : List (Option O) := [some (.frz .pen), some (.frz v1), v2, some (.own (left.map O.frz)), some (.own (found.map O.frz))]
theorem sh_loop {g : Nat} {dr : Fn} (hf : Γ.fn g = some dr) (F : DrawF dr) {v1 : D} : ∀ (ds left found : List D) (v2 : Option O) (k : Nat) (p : Pen), ds.length = left.length → found.length + left.length ≤ 1000 → k + ds.length ≤ 1000000 → Inv k p →
    ∃ found' v2' p', forF (.nm 2) (evSs Γ [.apop 4 3 (.call g [.v 0, .bi .len [.v 3]])]) ds ⟨shS v1 v2 left found, p⟩ = .ok .nx ⟨shS v1 v2' [] found', p'⟩ ∧ Inv (k + ds.length) p' ∧ found'.Perm (found ++ left)
  | [], left, found, v2, k, p, h, _, _, I => by
    have : left = [] := List.length_eq_zero_iff.mp h.symm
    subst this
    exact ⟨found, v2, p, rfl, I, by rw [List.append_nil]⟩
  | d :: ds, left, found, v2, k, p, h, hl, hk, I => by
    rw [List.length_cons] at h hk
    have l6 : (1000 : Nat) ≤ lineN := by decide
    obtain ⟨r, p1, e1, I1, i, rfl, i0, i1⟩ := F (left.length : Nat) (by omega) (by omega) k (envOf Γ.own ⟨shS v1 (some (.frz d)) left found, p⟩) (by omega) I.env
    have hi : i.toNat < left.length := by omega
    have hc : ev Γ (.call g [.v 0, .bi .len [.v 3]]) ⟨shS v1 (some (.frz d)) left found, p⟩ = .ok ⟨none, .frz (.int (i.toNat : Nat))⟩ ⟨shS v1 (some (.frz d)) left found, backP Γ.own ⟨shS v1 (some (.frz d)) left found, p⟩ p1⟩ := by
      have ha : EvDs Γ [.v 0, .bi .len [.v 3]] ⟨shS v1 (some (.frz d)) left found, p⟩ [.pen, .int (left.length : Nat)] := es_cons (ed_v (i := 0) rfl) (es_cons (ed_lenV (i := 3) rfl) es_nil)
      rw [ev, bndE ha, hf, callFn_ok e1, Int.toNat_of_nonneg i0]
    have hs := s_popTo (Γ := Γ) (ρ := ⟨shS v1 (some (.frz d)) left found, p⟩) (i := 4) (j := 3) (left := left) (found := found) (by decide) rfl rfl hc rfl hi (by omega) (by omega)
    have e2 : evSs Γ [.apop 4 3 (.call g [.v 0, .bi .len [.v 3]])] ⟨shS v1 (some (.frz d)) left found, p⟩ = .ok .nx ⟨shS v1 (some (.frz d)) (left.eraseIdx i.toNat) (found ++ [left[i.toNat]]), backP Γ.own ⟨shS v1 (some (.frz d)) left found, p⟩ p1⟩ := by
      refine (ss_ok hs).trans ?_
      rw [evSs]; rfl
    have el : (left.eraseIdx i.toNat).length = left.length - 1 := List.length_eraseIdx_of_lt hi
    obtain ⟨found', v2', p', e3, I3, pm⟩ := sh_loop hf F (v1 := v1) ds (left.eraseIdx i.toNat) (found ++ [left[i.toNat]]) (some (.frz d)) (k + 1) _ (by omega) (by rw [List.length_append, List.length_singleton]; omega) (by omega) (I1.back (own := Γ.own) (ρ := ⟨shS v1 (some (.frz d)) left found, p⟩))
    refine ⟨found', v2', p', for_cons rfl e2 e3, by rw [List.length_cons, show k + (ds.length + 1) = k + 1 + ds.length by omega]; exact I3, pm.trans ?_⟩
    rw [List.append_assoc]
    exact List.Perm.append_left found (perm_pop left i.toNat hi).symm
def ShufF (fn : Fn) : Prop := ∀ xs : List D, xs.length ≤ 1000 → Spec fn [.pen, .lst xs] xs.length (fun d => ∃ ys, d = .lst ys ∧ ys.Perm xs)
theorem rng_ints {n : Nat} (h : n ≤ 100000) : rngD false [.int (n : Nat)] = some ((List.range n).map fun (k : Nat) => D.int (0 + k)) := by
  have := rng1 (j := (n : Nat)) (by omega) (by omega)
  rwa [Int.toNat_natCast] at this
theorem shufF_of {g : Nat} {dr : Fn} (hf : Γ.fn g = some dr) (F : DrawF dr) : ShufF (defFn Γ 2 5 (shufBody g)) := fun xs hl => by
  refine spec_of rfl fun k p hk I => ?_
  have l6 : (1000 : Nat) ≤ lineN := by decide
  obtain ⟨found, v2, p', e, I', pm⟩ := sh_loop (Γ := Γ) hf F (v1 := .lst xs) ((List.range xs.length).map fun (k : Nat) => D.int (0 + k)) xs [] none k p (by simp) (by simpa using hl) (by simpa using hk) I
  obtain ⟨sl, er⟩ := ss_retOwn (Γ := Γ) (ρ := ⟨shS (.lst xs) v2 [] found, p'⟩) (i := 4) (ds := found) (ss := []) rfl
  refine ⟨.ret (.lst found), ⟨sl, p'⟩, ?_, _, rfl, by simpa using I', found, rfl, by simpa using pm⟩
  refine (ss_par2 (x := .own (xs.map O.frz)) (o := .own ([].map O.frz)) (eo_n (en_biE rfl (es_cons (ed_v (i := 1) rfl) es_nil) rfl)) (eo_n (en_lst (ds := []) es_nil (Nat.zero_le _)))).trans ?_
  refine (ss_for (it_rng (vs_cons (ed_lenL (ed_v (i := 1) (d := .lst xs) rfl)) vs_nil) (rng_ints (by omega))) e).trans ?_
  exact er
end DL

set_option Elab.async false
set_option linter.all false
set_option maxRecDepth 100000
set_option maxHeartbeats 0
/-! KP19: law_k80: drawn faces. -/
namespace DL
open PySem
variable {Γ : Gam} {ρ : Env}
theorem cut_hi {α : Type} (xs : List α) (k : Nat) : cutL xs none (some (k : Nat)) = xs.take k := by
  unfold cutL
  rw [HT.sIx_none, HT.sIx_nat, List.drop_zero, Nat.sub_zero]
  rcases Nat.le_total k xs.length with h | h
  · rw [Nat.min_eq_left h]
  · rw [Nat.min_eq_right h, List.take_of_length_le h, List.take_of_length_le (Nat.le_refl _)]
theorem evs_oneN {e : E} {ds : List D} {ρ' : Env} (h : ev Γ e ρ = .ok ⟨none, .own (ds.map O.frz)⟩ ρ') : evs Γ [e] ρ = .ok [.lst ds] ρ' := by
  rw [evs, bndE h, bndE esc_own, bndE (show evs Γ [] ρ' = .ok [] ρ' from es_nil)]; rfl
def leI (x y : Int) : Bool := decide (x ≤ y)
def srtI (n : List Int) : List Int := n.mergeSort leI
theorem srtI_p (n : List Int) : (srtI n).Perm n := List.mergeSort_perm n leI
theorem srtI_asc (n : List Int) : (srtI n).Pairwise (· ≤ ·) := by
  have h := List.pairwise_mergeSort (le := leI) (fun a b c h1 h2 => decide_eq_true (Int.le_trans (of_decide_eq_true h1) (of_decide_eq_true h2))) (fun a b => by
    unfold leI
    rcases Int.le_total a b with h | h
    · rw [decide_eq_true h]; rfl
    · rw [decide_eq_true h, Bool.or_true]) n
  exact h.imp fun h => of_decide_eq_true h
theorem sortD_ints (n : List Int) : sortD (n.map D.int) = (srtI n).map D.int := by
  unfold sortD srtI
  rw [List.map_mergeSort]
  intro a _ b _
  have e : PySem.W.dataLt (D.int b).py (D.int a).py = decide (b < a) := PySem.W.dataLt_int b a
  rw [e]
  unfold leI
  by_cases h : b < a
  · rw [decide_eq_true h, decide_eq_false (by omega)]; rfl
  · rw [decide_eq_false h, decide_eq_true (by omega)]; rfl
theorem alikeD_ints : ∀ n : List Int, alikeD (n.map D.int) = true
  | [] => rfl
  | i :: n => by
    rw [List.map_cons]
    simp only [alikeD, Bool.and_eq_true, List.all_eq_true, Bool.not_eq_true']
    refine ⟨⟨⟨⟨rfl, rfl⟩, fun e he => ?_⟩, rfl⟩, alikeD_ints n⟩
    obtain ⟨m, _, rfl⟩ := List.mem_map.mp he
    exact ⟨rfl, rfl⟩
theorem sortableD_ints (n : List Int) : sortableD (n.map D.int) = true := by
  unfold sortableD
  rw [Bool.or_eq_true]
  refine .inr (List.all_eq_true.mpr fun d hd => ?_)
  obtain ⟨i, _, rfl⟩ := List.mem_map.mp hd
  rfl
/-- what is a permutation of ints -/
theorem perm_ints {ys : List D} {n : List Int} (h : ys.Perm (n.map D.int)) : ∃ m : List Int, ys = m.map D.int ∧ m.Perm n := by
  refine ⟨ys.map (fun | .int i => i | _ => 0), ?_, ?_⟩
  · have key : ∀ ys : List D, (∀ y ∈ ys, ∃ i, y = .int i) → ys = (ys.map (fun | .int i => i | _ => 0)).map D.int := by
      intro ys
      induction ys with
      | nil => intro _; rfl
      | cons y ys ih =>
        intro hy
        obtain ⟨i, rfl⟩ := hy y (List.mem_cons_self ..)
        rw [List.map_cons, List.map_cons, ← ih fun z hz => hy z (List.mem_cons_of_mem _ hz)]
    refine key ys fun y hy => ?_
    obtain ⟨i, _, rfl⟩ := List.mem_map.mp (h.mem_iff.mp hy)
    exact ⟨i, rfl⟩
  · have h2 := h.map (fun | D.int i => i | _ => (0 : Int))
    rw [List.map_map] at h2
    have e : n.map ((fun | D.int i => i | _ => (0 : Int)) ∘ D.int) = n := List.map_id n
    rw [e] at h2
    exact h2
theorem er_addL {k c : Nat} {a b : E} {i : Int} {R : D → Prop} (ha : EvD Γ a ρ (.int i)) (hb : EvR Γ k c b ρ (fun d => ∃ j : Int, d = .int j ∧ R (.int (i + j)))) : EvR Γ k c (.bin .Add a b) ρ R := by
  obtain ⟨t, e2⟩ := ha
  obtain ⟨s, d, p', e1, I, j, rfl, r⟩ := hb
  refine ⟨none, _, p', ?_, I, r⟩
  rw [ev, bndE e2, bndE esc_frz, bndE e1, bndE esc_frz]; rfl
/-- drawn rows, sorted -/
def fcsBody (g h : Nat) : List S := [
  .set 4 (.lst []),
  .fr (.nm 5) (.rng false) [.v 2] [.set 6 (.bin .Add (.c (.int 1)) (.call g [.v 0, .v 3])), .app 4 (.bi .tuple [.bi .sorted [.slc (.call h [.v 0, .bi (.listR false) [.v 1]]) (.no) (.v 6)]])],
  .ret (.v 4)]
abbrev fcS (c m t : Int) (acc : Rows) (v5 v6 : Option O) : List (Option O) := [some (.frz .pen), some (.frz (.int c)), some (.frz (.int m)), some (.frz (.int t)), some (.own ((acc.map rowD).map O.frz)), v5, v6]
/-- some of the ints below c, ascending -/
structure Below (c t : Nat) (n : List Int) : Prop where
  l1 : 1 ≤ n.length
  lt : n.length ≤ t
  asc : n.Pairwise (· < ·)
  lo : ∀ x ∈ n, 0 ≤ x
  hi : ∀ x ∈ n, x < c
theorem ints_rng (c : Nat) : (List.range c).map (fun (k : Nat) => D.int (0 + k)) = ((List.range c).map fun (k : Nat) => (k : Int)).map D.int := by
  rw [List.map_map]
  refine List.map_congr_left fun k _ => ?_
  show D.int (0 + k) = D.int k
  rw [Int.zero_add]
theorem below_of {c t s : Nat} {m : List Int} (hc : 1 ≤ c) (hs : 1 ≤ s) (hst : s ≤ t) (pm : m.Perm ((List.range c).map fun (k : Nat) => (k : Int))) : Below c t (srtI (m.take s)) := by
  have nd : m.Nodup := pm.nodup_iff.mpr (List.Pairwise.map _ (fun a b h e => h (by omega)) List.nodup_range)
  have ml : m.length = c := by rw [pm.length_eq]; simp
  have pl := (srtI_p (m.take s)).length_eq
  have tl : (m.take s).length = min s m.length := List.length_take
  have nd2 : (srtI (m.take s)).Nodup := (srtI_p _).nodup_iff.mpr (nd.sublist (List.take_sublist s m))
  have mem : ∀ x ∈ srtI (m.take s), 0 ≤ x ∧ x < c := fun x hx => by
    have h1 := (pm.mem_iff).mp (List.mem_of_mem_take ((srtI_p _).mem_iff.mp hx))
    obtain ⟨k, hk, rfl⟩ := List.mem_map.mp h1
    have := List.mem_range.mp hk
    omega
  refine ⟨by omega, by omega, ?_, fun x hx => (mem x hx).1, fun x hx => (mem x hx).2⟩
  exact ((srtI_asc (m.take s)).and nd2).imp fun ⟨h1, h2⟩ => by omega
theorem fc_loop {g h : Nat} {dr sh : Fn} (hg : Γ.fn g = some dr) (F : DrawF dr) (hh : Γ.fn h = some sh) (Sf : ShufF sh) {c t : Nat} (hc : 1 ≤ c) (hc9 : c ≤ 900) (ht : 1 ≤ t) (ht9 : t ≤ 900) {mm : Int} : ∀ (ds : List D) (acc : Rows) (v5 v6 : Option O) (k : Nat) (p : Pen), acc.length + ds.length ≤ 1000 → k + ds.length * (c + 1) ≤ 1000000 → Inv k p →
    ∃ ns v5' v6' p', forF (.nm 5) (evSs Γ [.set 6 (.bin .Add (.c (.int 1)) (.call g [.v 0, .v 3])), .app 4 (.bi .tuple [.bi .sorted [.slc (.call h [.v 0, .bi (.listR false) [.v 1]]) (.no) (.v 6)]])]) ds ⟨fcS c mm t acc v5 v6, p⟩ = .ok .nx ⟨fcS c mm t (acc ++ ns) v5' v6', p'⟩ ∧ Inv (k + ds.length * (c + 1)) p' ∧ ns.length = ds.length ∧ ∀ n ∈ ns, Below c t n
  | [], acc, v5, v6, k, p, _, _, I => ⟨[], v5, v6, p, by rw [List.append_nil]; rfl, by simpa using I, rfl, fun n hn => by cases hn⟩
  | d :: ds, acc, v5, v6, k, p, hl, hk, I => by
    rw [List.length_cons] at hl hk
    have l6 : (1000 : Nat) ≤ lineN := by decide
    have hk1 : k + (c + 1) + ds.length * (c + 1) ≤ 1000000 := by
      rw [Nat.succ_mul] at hk; omega
    -- the size
    obtain ⟨s1, r, p1, e1, I1, i, rfl, i0, i1⟩ := er_call (ρ := ⟨fcS c mm t acc (some (.frz d)) v6, p⟩) (k := k) (es := [.v 0, .v 3]) hg (es_cons (ed_v (i := 0) (d := .pen) rfl) (es_cons (ed_v (i := 3) (d := .int (t : Nat)) rfl) es_nil)) (F (t : Nat) (by omega) (by omega)) (by omega) I
    have hset : evS Γ (.set 6 (.bin .Add (.c (.int 1)) (.call g [.v 0, .v 3]))) ⟨fcS c mm t acc (some (.frz d)) v6, p⟩ = .ok .nx ⟨fcS c mm t acc (some (.frz d)) (some (.frz (.int (1 + i)))), p1⟩ := by
      have h0 : ev Γ (.bin .Add (.c (.int 1)) (.call g [.v 0, .v 3])) ⟨fcS c mm t acc (some (.frz d)) v6, p⟩ = .ok ⟨none, .frz (.int (1 + i))⟩ ⟨fcS c mm t acc (some (.frz d)) v6, p1⟩ := by
        rw [ev, ev, bndE (show DL.frz (Cn.d (.int 1)) ⟨fcS c mm t acc (some (.frz d)) v6, p⟩ = .ok ⟨none, .frz (.int 1)⟩ ⟨fcS c mm t acc (some (.frz d)) v6, p⟩ from rfl), bndE esc_frz, bndE e1, bndE esc_frz]; rfl
      rw [evS, bndE h0]; rfl
    -- shuffled
    have hrc : ((List.range c).map fun (k : Nat) => D.int (0 + k)).length ≤ lineN := by rw [List.length_map, List.length_range]; omega
    have harg : EvX Γ (.bi (.listR false) [.v 1]) ⟨fcS c mm t acc (some (.frz d)) (some (.frz (.int (1 + i)))), p1⟩ (.lst ((List.range c).map fun (k : Nat) => D.int (0 + k))) := by
      refine ex_own ?_
      unfold EvN
      rw [ev, if_neg (by decide), bndE (show evv Γ [.v 1] _ = .ok [.int (c : Nat)] _ from vs_cons (ed_v (i := 1) rfl) vs_nil)]
      show lft (((rngD false [.int (c : Nat)]).bind fun xs => if xs.length ≤ lineN then some (O.own (xs.map O.frz)) else none).map fun o => (⟨none, o⟩ : Val)) _ = _
      rw [rng_ints (by omega)]
      show lft ((if _ then some _ else none).map _) _ = _
      rw [if_pos hrc]; rfl
    obtain ⟨s2, r2, p2, e2, I2, ys, rfl, pm⟩ := er_call (ρ := ⟨fcS c mm t acc (some (.frz d)) (some (.frz (.int (1 + i)))), p1⟩) (k := k + 1) (es := [.v 0, .bi (.listR false) [.v 1]]) hh (es_cons (ed_v (i := 0) (d := .pen) rfl) (es_consX harg es_nil)) (Sf ((List.range c).map fun (k : Nat) => D.int (0 + k)) (by rw [List.length_map, List.length_range]; omega)) (by rw [List.length_map, List.length_range]; omega) I1
    rw [List.length_map, List.length_range] at I2
    rw [ints_rng] at pm
    obtain ⟨m, rfl, pm2⟩ := perm_ints pm
    have hi : (1 + i) = ((1 + i.toNat : Nat) : Int) := by omega
    have bel := below_of (t := t) hc (s := 1 + i.toNat) (by omega) (by omega) pm2
    have happ : evS Γ (.app 4 (.bi .tuple [.bi .sorted [.slc (.call h [.v 0, .bi (.listR false) [.v 1]]) (.no) (.v 6)]])) ⟨fcS c mm t acc (some (.frz d)) (some (.frz (.int (1 + i)))), p1⟩ = .ok .nx ⟨fcS c mm t (acc ++ [srtI (m.take (1 + i.toNat))]) (some (.frz d)) (some (.frz (.int (1 + i)))), p2⟩ := by
      have h1 : ev Γ (.slc (.call h [.v 0, .bi (.listR false) [.v 1]]) (.no) (.v 6)) ⟨fcS c mm t acc (some (.frz d)) (some (.frz (.int (1 + i)))), p1⟩ = .ok ⟨none, .own (((m.take (1 + i.toNat)).map D.int).map O.frz)⟩ ⟨fcS c mm t acc (some (.frz d)) (some (.frz (.int (1 + i)))), p2⟩ := by
        rw [ev, bndE e2, bndE esc_frz, bndE (show prt (E.isNo .no) (ev Γ .no) _ = .ok none _ from rfl), bndE (show prt (E.isNo (.v 6)) (ev Γ (.v 6)) ⟨fcS c mm t acc (some (.frz d)) (some (.frz (.int (1 + i)))), p2⟩ = .ok (some (1 + i)) _ by
          unfold prt
          rw [if_neg (by decide), ev, bndE (rd_ok rfl)]; rfl)]
        show lft ((some (O.own ((cutL (m.map D.int) none (some (1 + i))).map O.frz))).map fun o => (⟨none, o⟩ : Val)) _ = _
        rw [hi, cut_hi, ← List.map_take]; rfl
      have h2 : ev Γ (.bi .sorted [.slc (.call h [.v 0, .bi (.listR false) [.v 1]]) (.no) (.v 6)]) ⟨fcS c mm t acc (some (.frz d)) (some (.frz (.int (1 + i)))), p1⟩ = .ok ⟨none, .own (((srtI (m.take (1 + i.toNat))).map D.int).map O.frz)⟩ ⟨fcS c mm t acc (some (.frz d)) (some (.frz (.int (1 + i)))), p2⟩ := by
        rw [ev, if_pos (show B.sorted.esc = true from rfl), bndE (evs_oneN h1)]
        show lft ((if (alikeD ((m.take (1 + i.toNat)).map D.int) && sortableD ((m.take (1 + i.toNat)).map D.int)) = true then some (O.own ((sortD ((m.take (1 + i.toNat)).map D.int)).map O.frz)) else none).map fun o => (⟨none, o⟩ : Val)) _ = _
        rw [alikeD_ints, sortableD_ints, sortD_ints]; rfl
      have h3 : ev Γ (.bi .tuple [.bi .sorted [.slc (.call h [.v 0, .bi (.listR false) [.v 1]]) (.no) (.v 6)]]) ⟨fcS c mm t acc (some (.frz d)) (some (.frz (.int (1 + i)))), p1⟩ = .ok ⟨none, .frz (rowD (srtI (m.take (1 + i.toNat))))⟩ ⟨fcS c mm t acc (some (.frz d)) (some (.frz (.int (1 + i)))), p2⟩ := by
        rw [ev, if_pos (show B.tuple.esc = true from rfl), bndE (evs_oneN h2)]; rfl
      refine (s_appM (i := 4) (os := (acc.map rowD).map O.frz) rfl h3 rfl rfl (by rw [List.length_map, List.length_map]; omega)).trans ?_
      show Res.ok Fl.nx _ = _
      unfold fcS
      rw [List.map_append, List.map_append]; rfl
    obtain ⟨ns, v5', v6', p', e4, I4, hns, hB⟩ := fc_loop hg F hh Sf hc hc9 ht ht9 (mm := mm) ds (acc ++ [srtI (m.take (1 + i.toNat))]) (some (.frz d)) (some (.frz (.int (1 + i)))) (k + (c + 1)) p2 (by rw [List.length_append, List.length_singleton]; omega) hk1 (I2.mono (by omega))
    refine ⟨srtI (m.take (1 + i.toNat)) :: ns, v5', v6', p', ?_, ?_, by rw [List.length_cons, List.length_cons, hns], fun n hn => ?_⟩
    · rw [List.append_cons]
      refine for_cons (ρ1 := ⟨fcS c mm t acc (some (.frz d)) v6, p⟩) rfl ?_ e4
      refine (ss_ok hset).trans ((ss_ok happ).trans ?_)
      rw [evSs]; rfl
    · rw [List.length_cons, Nat.succ_mul, show k + (ds.length * (c + 1) + (c + 1)) = k + (c + 1) + ds.length * (c + 1) by omega]
      exact I4
    · rcases List.mem_cons.mp hn with rfl | hn
      · exact bel
      · exact hB n hn
theorem faces_spec {g h : Nat} {dr sh : Fn} (hg : Γ.fn g = some dr) (F : DrawF dr) (hh : Γ.fn h = some sh) (Sf : ShufF sh) {c m t : Nat} (hc : 1 ≤ c) (hc9 : c ≤ 900) (ht : 1 ≤ t) (ht9 : t ≤ 900) (hm : m ≤ 900) : Spec (defFn Γ 4 7 (fcsBody g h)) [.pen, .int (c : Nat), .int (m : Nat), .int (t : Nat)] (m * (c + 1)) (fun d => ∃ ns : Rows, d = .lst (ns.map rowD) ∧ ns.length = m ∧ ∀ n ∈ ns, Below c t n) := by
  refine spec_of rfl fun k p hk I => ?_
  have hl : ((List.range m).map fun (k : Nat) => D.int (0 + k)).length = m := by rw [List.length_map, List.length_range]
  obtain ⟨ns, v5, v6, p', e, I', hns, hB⟩ := fc_loop (Γ := Γ) hg F hh Sf hc hc9 ht ht9 (mm := (m : Nat)) ((List.range m).map fun (k : Nat) => D.int (0 + k)) [] none none k p (by rw [hl, List.length_nil]; omega) (by rw [hl]; exact hk) I
  rw [List.nil_append] at e
  obtain ⟨sl, er⟩ := ss_retOwn (Γ := Γ) (ρ := ⟨fcS c (m : Nat) t ns v5 v6, p'⟩) (i := 4) (ds := ns.map rowD) (ss := []) rfl
  refine ⟨.ret (.lst (ns.map rowD)), ⟨sl, p'⟩, ?_, _, rfl, by rw [hl] at I'; exact I', ns, rfl, by rw [hns, hl], hB⟩
  refine (ss_setO (eo_n (en_lst (ds := []) es_nil (Nat.zero_le _)))).trans ?_
  refine (ss_for (it_rng (vs_cons (ed_v (i := 2) (d := .int (m : Nat)) rfl) vs_nil) (rng_ints (by omega))) e).trans ?_
  exact er
end DL

set_option Elab.async false
set_option linter.all false
set_option maxRecDepth 100000
set_option maxHeartbeats 0
/-! KP20: law_k80: texts of rows; rules for the law. -/
namespace DL
open PySem
variable {Γ : Gam} {ρ : Env}
theorem log_lt {b : Nat} (hb : 1 ≤ b) {i : Int} (h : i.natAbs < 2 ^ b) : i.natAbs.log2 < b := by
  by_cases h0 : i.natAbs = 0
  · rw [h0]
    show 0 < b
    omega
  · exact (Nat.log2_lt h0).mpr h
theorem short_ints {b : Nat} (hb : 1 ≤ b) (hb2 : b ≤ 1920) : ∀ n : List Int, (∀ c ∈ n, c.natAbs < 2 ^ b) → PyData.leavesShortAll 1921 (D.pys (n.map D.int)) = true ∧ PyData.showableAll (D.pys (n.map D.int)) = true ∧ PyData.weightAll (D.pys (n.map D.int)) ≤ n.length * (b + 1)
  | [], _ => ⟨rfl, rfl, by simp [D.pys, PyData.weightAll]⟩
  | i :: n, h => by
    obtain ⟨h1, h2, h3⟩ := short_ints hb hb2 n fun c hc => h c (List.mem_cons_of_mem _ hc)
    have hi := log_lt hb (h i (List.mem_cons_self ..))
    have hs : (PyData.int i).shown.length ≤ 1921 := by
      rw [PyData.shown_int]
      exact PyProof.Rows.int_text_len_1921 (by omega)
    have w : (if (i == 0) = true then 0 else i.natAbs.log2 + 1) ≤ b := by split <;> omega
    simp only [List.map_cons, D.pys, D.py, PyData.leavesShortAll, PyData.leavesShort, PyData.showableAll, PyData.showable, PyData.weightAll, PyData.weight, h1, h2, decide_eq_true hs, decide_eq_true (show i.natAbs.log2 < 1920 by omega), Bool.and_true, List.length_cons, Nat.succ_mul]
    exact ⟨trivial, trivial, by omega⟩
theorem short_rows {b l : Nat} (hb : 1 ≤ b) (hb2 : b ≤ 1920) : ∀ ns : Rows, (∀ n ∈ ns, n.length ≤ l ∧ ∀ c ∈ n, c.natAbs < 2 ^ b) → PyData.leavesShortAll 1921 (D.pys (ns.map rowD)) = true ∧ PyData.showableAll (D.pys (ns.map rowD)) = true ∧ PyData.weightAll (D.pys (ns.map rowD)) ≤ ns.length * (l * (b + 1) + 1) ∧ D.shows (ns.map rowD) = true ∧ PyData.depthAll (D.pys (ns.map rowD)) ≤ 3
  | [], _ => ⟨rfl, rfl, by simp [D.pys, PyData.weightAll], rfl, by simp [D.pys, PyData.depthAll]⟩
  | n :: ns, h => by
    obtain ⟨h1, h2, h3, h4, h5⟩ := short_rows hb hb2 ns fun c hc => h c (List.mem_cons_of_mem _ hc)
    obtain ⟨hl, hc⟩ := h n (List.mem_cons_self ..)
    obtain ⟨k1, k2, k3⟩ := short_ints hb hb2 n hc
    have m : n.length * (b + 1) ≤ l * (b + 1) := Nat.mul_le_mul_right _ hl
    have hn : D.shows (n.map D.int) = true := by
      have : ∀ n : List Int, D.shows (n.map D.int) = true := by
        intro n
        induction n with
        | nil => rfl
        | cons i n ih => rw [List.map_cons, D.shows, ih]; rfl
      exact this n
    have hd := depth_ints n
    have e : (rowD n).py = .tuple (D.pys (n.map D.int)) := by unfold rowD; rw [D.py]
    simp only [List.map_cons, D.pys, e, PyData.leavesShortAll, PyData.leavesShort, PyData.showableAll, PyData.showable, PyData.weightAll, PyData.weight, PyData.depthAll, PyData.depth, D.shows, h1, h2, h4, k1, k2, Bool.and_true, List.length_cons, Nat.succ_mul]
    refine ⟨trivial, trivial, by omega, ?_, by omega⟩
    unfold rowD
    rw [D.show]; exact hn
theorem okr_rows {b l : Nat} (hb : 1 ≤ b) (hb2 : b ≤ 1920) {ns : Rows} (h : ∀ n ∈ ns, n.length ≤ l ∧ ∀ c ∈ n, c.natAbs < 2 ^ b) (hw : ns.length * (l * (b + 1) + 1) ≤ 8000) : okRepr (.tup (ns.map rowD)) = true := by
  obtain ⟨h1, h2, h3, h4, h5⟩ := short_rows hb hb2 ns h
  have hs := PyData.shown_le 1921 (by decide) (D.tup (ns.map rowD)).py (by simp only [D.py, PyData.leavesShort]; exact h1)
  have hd : (D.tup (ns.map rowD)).py.depth ≤ deepN := by
    simp only [D.py, PyData.depth]
    have : (8 : Nat) ≤ deepN := by decide
    omega
  have hw2 : (D.tup (ns.map rowD)).py.weight ≤ 8000 := by
    simp only [D.py, PyData.weight]; omega
  have hsh : (D.tup (ns.map rowD)).py.showable = true := by simp only [D.py, PyData.showable]; exact h2
  have hso : (D.tup (ns.map rowD)).show = true := by rw [D.show]; exact h4
  have hlen : (D.tup (ns.map rowD)).py.shown.length + 64 ≤ lineN := by
    have m := Nat.mul_le_mul_left (1921 + 2) hw2
    unfold lineN
    omega
  unfold okRepr
  rw [hso, hsh, decide_eq_true hd, decide_eq_true hlen]; rfl
theorem ed_repr {e : E} {d : D} (h : EvW Γ e ρ d) (hr : okRepr d = true) : EvD Γ (.bi .repr [e]) ρ (.str d.py.shown) := ed_bi rfl (vs_consW h vs_nil) (by
  show (if okRepr d = true then some (O.frz (.str d.py.shown)) else none) = _
  rw [if_pos hr])
theorem c_nes {x : Str} : cmpO .NotEq (.str x) (.frz (.str x)) = some false := by
  show (if okEq (.str x) && okEq (.str x) then some (!PyData.eqv (PyData.str x) (PyData.str x)) else none) = _
  have h : okEq (.str x) = true := rfl
  rw [h]
  simp [PyData.eqv]
theorem c_eqs {x : Str} : cmpO .Eq (.str x) (.frz (.str x)) = some true := by
  show (if okEq (.str x) && okEq (.str x) then some (PyData.eqv (PyData.str x) (PyData.str x)) else none) = _
  have h : okEq (.str x) = true := rfl
  rw [h]
  simp [PyData.eqv]
/-- two texts that are alike -/
theorem eb_same {e f : E} {d : D} (h : EvW Γ e ρ d) (k : EvW Γ f ρ d) (hr : okRepr d = true) : EvB Γ (.tv (.cmp .NotEq (.bi .repr [e]) (.bi .repr [f]))) ρ false := eb_cmp (ed_repr h hr) (ed_repr k hr) c_nes
theorem okr_bl {t : Bool} : okRepr (.bl t) = true := by cases t <;> decide +kernel
/-- two texts that are alike, the first one drawn -/
theorem er_same {k c : Nat} {e f : E} {d : D} (h : EvR Γ k c e ρ (· = d)) (w : ∀ p, EvW Γ f ⟨ρ.sl, p⟩ d) (hr : okRepr d = true) : ∃ p', evT Γ (.tv (.cmp .NotEq (.bi .repr [e]) (.bi .repr [f]))) ρ = .ok false ⟨ρ.sl, p'⟩ ∧ Inv (k + c) p' := by
  obtain ⟨s, x, p', e1, I, rfl⟩ := h
  refine ⟨p', ?_, I⟩
  have h1 : ev Γ (.bi .repr [e]) ρ = .ok ⟨none, .frz (.str x.py.shown)⟩ ⟨ρ.sl, p'⟩ := by
    have h0 : evv Γ [e] ρ = .ok [x] ⟨ρ.sl, p'⟩ := by
      rw [evv, bndE e1, bndE vw_frz, bndE (show evv Γ [] ⟨ρ.sl, p'⟩ = .ok [] ⟨ρ.sl, p'⟩ from vs_nil)]; rfl
    rw [ev, if_neg (by decide), bndE h0]
    show lft (((if okRepr x = true then some (O.frz (.str x.py.shown)) else none)).map fun o => (⟨none, o⟩ : Val)) _ = _
    rw [if_pos hr]; rfl
  obtain ⟨s2, e2⟩ := ed_repr (w p') hr
  have h2 : ev Γ (.cmp .NotEq (.bi .repr [e]) (.bi .repr [f])) ρ = .ok ⟨none, .frz (.bl false)⟩ ⟨ρ.sl, p'⟩ := by
    rw [ev, bndE h1, bndE vw_frz, bndE e2]
    show bnd (lft (cmpO .NotEq (.str x.py.shown) (.frz (.str x.py.shown)))) _ _ = _
    rw [c_nes]; rfl
  rw [evT, bndE h2]; rfl
/-- expressions that draw, one behind the other -/
theorem rs_consR {k c c' : Nat} {e : E} {es : List E} {R : D → Prop} {R' : D → List D → Prop} (h : EvR Γ k c e ρ R) (t : ∀ d p', R d → Inv (k + c) p' → EvRs Γ (k + c) c' es ⟨ρ.sl, p'⟩ (R' d)) : EvRs Γ k (c + c') (e :: es) ρ (fun ds => ∃ d ds', ds = d :: ds' ∧ R d ∧ R' d ds') := by
  obtain ⟨s, d, p', e1, I, r⟩ := h
  obtain ⟨ds, p2, e2, I2, r2⟩ := t d p' r I
  refine ⟨d :: ds, p2, ?_, by rw [← Nat.add_assoc]; exact I2, d, ds, rfl, r, r2⟩
  rw [evs, bndE e1, bndE esc_frz, bndE e2]; rfl
theorem rs_ds {k : Nat} {es : List E} {ds : List D} (h : EvDs Γ es ρ ds) (I : Inv k ρ.pen) : EvRs Γ k 0 es ρ (· = ds) := ⟨ds, ρ.pen, h, I, rfl⟩
theorem rs_mono {k c c' : Nat} {es : List E} {R R' : List D → Prop} (h : EvRs Γ k c es ρ R) (hc : c ≤ c') (r : ∀ d, R d → R' d) : EvRs Γ k c' es ρ R' := by
  obtain ⟨ds, p', e1, I, q⟩ := h
  exact ⟨ds, p', e1, I.mono (by omega), r _ q⟩
end DL

set_option Elab.async false
set_option linter.all false
set_option maxRecDepth 100000
set_option maxHeartbeats 0
/-! KP21: law_k80: the errors. -/
namespace DL
open PySem
variable {Γ : Gam} {ρ : Env}
/-- the def raises, and leaves the pen -/
def Fe (fn : Fn) (ds : List D) (g : Nat) (ns : List Str) (xs : List D) : Prop := ∀ p, fn ds p = .err g ns xs p
theorem fe_of {np n : Nat} {body : List S} {ds : List D} {g : Nat} {ns : List Str} {xs : List D} (hl : ds.length = np) (h : ∀ p, ∃ sl, evSs Γ body ⟨ds.map (fun d => some (.frz d)) ++ List.replicate (n - ds.length) none, p⟩ = .err g ns xs ⟨sl, p⟩) : Fe (defFn Γ np n body) ds g ns xs := fun p => by
  obtain ⟨sl, e⟩ := h p
  unfold defFn runDef
  rw [if_pos hl, e]
theorem bnd_err {α β : Type} {m : M α} {f : α → M β} {g : Nat} {ns : List Str} {xs : List D} {ρ' : Env} (h : m ρ = .err g ns xs ρ') : bnd m f ρ = .err g ns xs ρ' := by unfold bnd; rw [h]
theorem seq_err {m n : M Fl} {g : Nat} {ns : List Str} {xs : List D} {ρ' : Env} (h : m ρ = .err g ns xs ρ') : seqF m n ρ = .err g ns xs ρ' := bnd_err h
theorem ss_err {s : S} {ss : List S} {g : Nat} {ns : List Str} {xs : List D} {ρ' : Env} (h : evS Γ s ρ = .err g ns xs ρ') : evSs Γ (s :: ss) ρ = .err g ns xs ρ' := by rw [evSs]; exact seq_err h
theorem ss_rse {g : Nat} {es : List E} {ds : List D} {ns : List Str} {ss : List S} (h : EvDs Γ es ρ ds) (hx : Γ.exf g = some ns) (hl : ns.length = ds.length) : evSs Γ (.rse g es :: ss) ρ = .err g ns ds ρ := by
  refine ss_err ?_
  rw [evS, bndE h]
  simp only [hx]
  rw [if_pos hl]
theorem ss_if_rse {t : E} {g : Nat} {es : List E} {ds : List D} {ns : List Str} {ss b : List S} (ht : EvB Γ t ρ true) (h : EvDs Γ es ρ ds) (hx : Γ.exf g = some ns) (hl : ns.length = ds.length) : evSs Γ (.iff t [.rse g es] b :: ss) ρ = .err g ns ds ρ := by
  refine ss_err ?_
  rw [evS, bndE ht, if_pos rfl]
  exact ss_rse h hx hl
/-- a call that raises -/
theorem evs_callE {g h : Nat} {es es' : List E} {ds : List D} {fn : Fn} {ns : List Str} {xs : List D} (hf : Γ.fn g = some fn) (he : EvDs Γ es ρ ds) (F : Fe fn ds h ns xs) : ev Γ (.call g es) ρ = .err h ns xs ρ := by
  rw [ev, bndE he]
  show callFn Γ.own (Γ.fn g) ds ρ = _
  rw [hf]
  unfold callFn
  simp only [F (envOf Γ.own ρ)]
  show Res.err h ns xs ({ ρ with pen := backP Γ.own ρ (envOf Γ.own ρ) } : Env) = _
  rw [backP_envOf]
end DL
namespace Law
open PySem DL
def bads : List DL.D := [.non, .tup [], .tup [.tup [.int 1, .int 0]], .tup [.tup [.int 0, .int 1], .tup [.int 0]], .int 5, .tup [.tup [.int 100]]]
def odds : List DL.D := [.non, .tup [], .tup [.int 1, .int 0], .tup [.int 0, .int 0], .tup [.int 100], .int 5, .tup [.bl true]]
def farD : DL.D := .tup [.int 98, .int 99]
def isfF : Fn := defFn (G 2) 1 3 bis_face
def wfF : Fn := defFn (G 10) 2 4 bwith_face
def wofF : Fn := defFn (G 11) 2 7 bwithout_face
theorem odd_ok : ∀ odd ∈ odds, Fp fn9 [odd] odd ∧ Fp isfF [odd] (.bl false) := by
  unfold odds
  refine all_cons ⟨fun p => ?_, fun p => ?_⟩ (all_cons ⟨fun p => ?_, fun p => ?_⟩ (all_cons ⟨fun p => ?_, fun p => ?_⟩ (all_cons ⟨fun p => ?_, fun p => ?_⟩ (all_cons ⟨fun p => ?_, fun p => ?_⟩ (all_cons ⟨fun p => ?_, fun p => ?_⟩ (all_cons ⟨fun p => ?_, fun p => ?_⟩ all_nil)))))) <;> kernel_rfl
theorem far_ok : Fp fn9 [farD] farD ∧ Fp isfF [farD] (.bl true) := ⟨fun p => by kernel_rfl, fun p => by kernel_rfl⟩
/-- what is no book -/
def b2 : Rows := [[0, 1], [0]]
theorem b2_faces : Faces b2 := ⟨all_cons ⟨by decide, by decide, by decide, by decide, by decide⟩ (all_cons ⟨by decide, by decide, by decide, by decide, by decide⟩ all_nil), by decide, by decide⟩
theorem b2_no : grt b2 ≠ b2 := fun e => by
  have h : [0] ∈ grt b2 := by rw [e]; decide
  have := ((mem_grt b2 [0]).mp h).2 [0, 1] (by decide) (by decide)
  revert this
  decide
def bfF : Fn := defFn (G 9) 1 2 bbook_from
theorem bf_bad : ∀ bad ∈ bads, Fe bfF [bad] 4 ["faces"] [bad] := by
  unfold bads
  refine all_cons (fun p => ?_) (all_cons (fun p => ?_) (all_cons (fun p => ?_) (all_cons (fe_of rfl fun p => ?_) (all_cons (fun p => ?_) (all_cons (fun p => ?_) all_nil)))))
  · kernel_rfl
  · kernel_rfl
  · kernel_rfl
  · have h9 := (in_rows b2_faces).1
    have hi := is_book_ok b2_faces
    rw [decide_eq_false b2_no] at hi
    apply Exists.intro
    refine (ss_set (d := .tup (b2.map rowD)) (ed_call (g := 9) rfl (es_cons (ed_v (i := 0) (d := .tup (b2.map rowD)) rfl) es_nil) h9)).trans ?_
    exact ss_if_rse (ρ := ⟨[some (.frz (.tup (b2.map rowD))), some (.frz (.tup (b2.map rowD)))], p⟩) (eb_not (c := false) (eb_bl (ed_call (g := 16) rfl (es_cons (ed_v (i := 1) rfl) es_nil) hi))) (es_cons (ed_v (i := 0) rfl) es_nil) rfl rfl
  · kernel_rfl
  · kernel_rfl
theorem bad_with : ∀ bad ∈ bads, ∀ odd, Fe wfF [bad, odd] 4 ["faces"] [bad] := fun bad hb odd => by
  refine fe_of rfl fun p => ?_
  apply Exists.intro
  refine ss_err ?_
  rw [evS]
  exact bnd_err (evs_callE (es' := []) (g := 17) (fn := bfF) rfl (es_cons (ed_v (i := 0) rfl) es_nil) (bf_bad bad hb))
theorem bad_without : ∀ bad ∈ bads, ∀ odd, Fe wofF [bad, odd] 4 ["faces"] [bad] := fun bad hb odd => by
  refine fe_of rfl fun p => ?_
  apply Exists.intro
  refine ss_err ?_
  rw [evS, ev, evs]
  exact bnd_err (bnd_err (bnd_err (evs_callE (es' := []) (g := 17) (fn := bfF) rfl (es_cons (ed_v (i := 0) rfl) es_nil) (bf_bad bad hb))))
theorem odd_with {ns : Rows} (h : Faces ns) (hb : grt ns = ns) {odd : DL.D} (h1 : Fp fn9 [odd] odd) (h2 : Fp isfF [odd] (.bl false)) : Fe wfF [.tup (ns.map rowD), odd] 4 ["faces"] [odd] := by
  refine fe_of rfl fun p => ?_
  apply Exists.intro
  refine (ss_par (x := .tup (ns.map rowD)) (y := odd) (ed_call (g := 17) rfl (es_cons (ed_v (i := 0) rfl) es_nil) (book_from_ok h hb (in_rows h).1)) (ed_call (g := 9) rfl (es_cons (ed_v (i := 1) rfl) es_nil) h1)).trans ?_
  exact ss_if_rse (ρ := ⟨[some (.frz (.tup (ns.map rowD))), some (.frz odd), some (.frz (.tup (ns.map rowD))), some (.frz odd)], p⟩) (eb_not (c := false) (eb_bl (ed_call (fn := isfF) (g := 10) rfl (es_cons (ed_v (i := 3) rfl) es_nil) h2))) (es_cons (ed_v (i := 1) rfl) es_nil) rfl rfl
theorem odd_without {ns : Rows} (h : Faces ns) (hb : grt ns = ns) {odd : DL.D} (h1 : Fp fn9 [odd] odd) (h2 : Fp isfF [odd] (.bl false)) : Fe wofF [.tup (ns.map rowD), odd] 4 ["faces"] [odd] := by
  refine fe_of rfl fun p => ?_
  apply Exists.intro
  have two : EvD (G 11) (.tup [.call 17 [.v 0], .call 9 [.v 1]]) ⟨[some (.frz (.tup (ns.map rowD))), some (.frz odd), none, none, none, none, none], p⟩ (.tup [.tup (ns.map rowD), odd]) := ed_tup (es_cons (ed_call (g := 17) rfl (es_cons (ed_v (i := 0) rfl) es_nil) (book_from_ok h hb (in_rows h).1)) (es_cons (ed_call (g := 9) rfl (es_cons (ed_v (i := 1) rfl) es_nil) h1) es_nil)) (show 2 ≤ lineN by decide)
  refine (ss_sett (ρ' := ⟨[some (.frz (.tup (ns.map rowD))), some (.frz odd), none, none, some (.frz (.tup (ns.map rowD))), some (.frz odd), none], p⟩) two rfl).trans ?_
  exact ss_if_rse (eb_or (c := true) (d := true) (eb_not (c := false) (eb_bl (ed_call (fn := isfF) (g := 10) rfl (es_cons (ed_v (i := 5) rfl) es_nil) h2))) (fun z => nomatch z) rfl) (es_cons (ed_v (i := 1) rfl) es_nil) rfl rfl
theorem far_without {ns : Rows} (h : Faces ns) (hb : grt ns = ns) (h8 : ∀ n ∈ ns, ∀ c ∈ n, c < 98) : Fe wofF [.tup (ns.map rowD), farD] 4 ["faces"] [farD] := by
  have l := l64
  have l7 := h.l7
  refine fe_of rfl fun p => ?_
  apply Exists.intro
  have two : EvD (G 11) (.tup [.call 17 [.v 0], .call 9 [.v 1]]) ⟨[some (.frz (.tup (ns.map rowD))), some (.frz farD), none, none, none, none, none], p⟩ (.tup [.tup (ns.map rowD), farD]) := ed_tup (es_cons (ed_call (g := 17) rfl (es_cons (ed_v (i := 0) rfl) es_nil) (book_from_ok h hb (in_rows h).1)) (es_cons (ed_call (g := 9) rfl (es_cons (ed_v (i := 1) rfl) es_nil) far_ok.1) es_nil)) (show 2 ≤ lineN by decide)
  refine (ss_sett (ρ' := ⟨[some (.frz (.tup (ns.map rowD))), some (.frz farD), none, none, some (.frz (.tup (ns.map rowD))), some (.frz farD), none], p⟩) two rfl).trans ?_
  refine ss_if_rse (eb_or (c := false) (d := true) (eb_not (c := true) (eb_bl (ed_call (fn := isfF) (g := 10) rfl (es_cons (ed_v (i := 5) rfl) es_nil) far_ok.2))) (fun _ => eb_not (c := false) (eb_bl ?_)) rfl) (es_cons (ed_v (i := 1) rfl) es_nil) rfl rfl
  have hh := ed_anyC (Γ := G 11) (ρ := ⟨[some (.frz (.tup (ns.map rowD))), some (.frz farD), none, none, some (.frz (.tup (ns.map rowD))), some (.frz farD), none], p⟩) (own := [6]) (tg := .nm 6) (kd := .seq) (es := [.v 4]) (elt := .call 12 [.v 5, .v 6]) (ds := ns.map rowD) (q := fun x => inR [98, 99] (rowOf x)) (it_seq (el_tup (ed_v (i := 4) rfl))) (by rw [List.length_map]; omega) (by decide) (by simp) fun x hx X => by
    obtain ⟨n, hn, rfl⟩ := List.mem_map.mp hx
    rw [rowOf_row]
    exact ⟨[some (.frz (.tup (ns.map rowD))), some (.frz farD), none, none, some (.frz (.tup (ns.map rowD))), some (.frz farD), some (.frz (rowD n))], rfl, rfl, ed_call (fn := defFn (G 4) 2 3 bis_within) rfl (es_cons (ed_v (i := 5) (d := rowD [98, 99]) rfl) (es_cons (ed_v (i := 6) rfl) es_nil)) (within_ok [98, 99] n (show 2 ≤ lineN by decide))⟩
  have e1 : (ns.map rowD).any (fun x => inR [98, 99] (rowOf x)) = false := by
    rw [List.any_eq_false]
    intro x hx
    obtain ⟨n, hn, rfl⟩ := List.mem_map.mp hx
    rw [rowOf_row]
    intro q
    have := of_decide_eq_true (List.all_eq_true.mp q 98 (List.mem_cons_self ..))
    have := h8 n hn 98 this
    omega
  rw [e1] at hh
  exact hh
theorem book_of_none : Fe (defFn (G 6) 1 1 bbook_of) [.tup []] 4 ["faces"] [.tup []] := fun p => by kernel_rfl
end Law

set_option Elab.async false
set_option linter.all false
set_option maxRecDepth 100000
set_option maxHeartbeats 0
/-! KP22: law_k80: too many cells. -/
namespace Law
open PySem DL
theorem faces_from_many {Γ Γ2 Γ3 : Gam} {fn9 : Fn} {d : DL.D} {ns : Rows} (hf9 : Γ.fn 9 = some fn9) (h9 : Fp fn9 [d] (.tup (ns.map rowD))) (h10 : Γ.fn 10 = some (defFn Γ2 1 3 bis_face)) (h8 : Γ2.fn 8 = some (defFn Γ3 1 1 wholeB)) (k1 : Γ2.cst 1 = some (.int 5)) (k0 : Γ.cst 0 = some (.int 24)) (hx7 : Γ.exf 7 = some (["what", "many", "limit"] : List Str))
    (hF : ∀ n ∈ ns, Face n) (ne : ns ≠ []) (h7 : ns.length ≤ 40) {m : Int} {ms : List Int} (hms : (lvls ns).map (fun k => (((onceL (ns.flatMap (combL k))).length : Nat) : Int)) = m :: ms) (hm : 24 < maxL m ms) : Fe (defFn Γ 1 10 bfaces_from) [d] 7 ["what", "many", "limit"] [.str "cells", .int (maxL m ms), .int 24] := by
  have h1 : ∀ n ∈ ns, 1 ≤ n.length := fun n hn => (hF n hn).l1
  have h3 : ∀ n ∈ ns, n.length ≤ 3 := fun n hn => (hF n hn).l3
  obtain ⟨t1, t3⟩ := top_bd ne h1 h3
  have lr : (ns.map rowD).length ≤ lineN := by
    rw [List.length_map]
    have := l64
    omega
  have kne : lvls ns ≠ [] := by
    unfold lvls
    have : (topL ns).toNat ≠ 0 := by omega
    intro e
    rw [List.map_eq_nil_iff, List.range_eq_nil] at e
    exact this e
  have klen : (lvls ns).length ≤ 3 := by
    unfold lvls
    rw [List.length_map, List.length_range]; omega
  have kk : ∀ k ∈ lvls ns, 1 ≤ k ∧ k ≤ 1000 := fun k hk => by
    unfold lvls at hk
    obtain ⟨j, hj, rfl⟩ := List.mem_map.mp hk
    have := List.mem_range.mp hj
    omega
  refine fe_of rfl fun p => ?_
  obtain ⟨v4, v6, v7, v8, e3⟩ := ff3 (Γ := Γ) (d := d) (v2 := some (.frz (.int (topL ns)))) (p := p) h3 (by omega) (lvls ns) [] none none none none kk (by rw [List.length_nil]; omega)
  rw [List.nil_append] at e3
  have em : EvD Γ (.bi .max1 [.lc [9] (.nm 9) .seq [.v 3] [] (.bi .len [.v 9])]) ⟨[some (.frz d), some (.frz (.tup (ns.map rowD))), some (.frz (.int (topL ns))), some (.frz (.lst ((lvls ns).map (lvD ns)))), v4, none, v6, v7, v8, none], p⟩ (.int (maxL m ms)) := by
    have h := en_lens (Γ := Γ) (ρ := ⟨[some (.frz d), some (.frz (.tup (ns.map rowD))), some (.frz (.int (topL ns))), some (.frz (.lst ((lvls ns).map (lvD ns)))), v4, none, v6, v7, v8, none], p⟩) (own := [9]) (v := 9) (es := [.v 3]) (kd := .seq) (ds := (lvls ns).map (lvD ns)) (f := fun x => (kids x).length) rfl (by simp) (it_seq (el_lst (ed_v (i := 3) rfl))) (by
      rw [List.length_map]
      have := l64
      omega) fun x hx => by
      obtain ⟨k, _, rfl⟩ := List.mem_map.mp hx
      rfl
    refine ed_max1 ?_
    have e : ((lvls ns).map (lvD ns)).map (fun x => DL.D.int ((kids x).length : Nat)) = (m :: ms).map DL.D.int := by
      rw [← hms, List.map_map, List.map_map]
      refine List.map_congr_left fun k _ => ?_
      show DL.D.int (((lvl ns k).map rowD).length : Nat) = DL.D.int ((onceL (ns.flatMap (combL k))).length : Nat)
      rw [List.length_map]
      unfold lvl rowsS
      rw [(srt_p _).length_eq]
    rw [e] at h
    exact h
  apply Exists.intro
  -- made
  refine (ss_set (ed_call hf9 (es_cons (ed_v (i := 0) rfl) es_nil) h9)).trans ?_
  refine (ss_if_no (eb_or (c := false) (d := false) (eb_not (c := true) (eb_bl (ed_isa (ed_v (i := 1) rfl) rfl))) (fun _ => eb_or (c := false) (d := false) (eb_bl (ed_cmp (ed_len (ed_v (i := 1) rfl)) ed_ci ?_)) (fun _ => eb_not (c := true) (eb_bl ?_)) rfl) rfl)).trans ?_
  · show some ((((ns.map rowD).length : Nat) : Int) == 0) = some false
    rw [List.length_map]
    have : ns.length ≠ 0 := fun e => ne (List.length_eq_zero_iff.mp e)
    congr 1
    rw [beq_eq_false_iff_ne]
    omega
  · have h := ed_allC (Γ := Γ) (ρ := ⟨[some (.frz d), some (.frz (.tup (ns.map rowD))), none, none, none, none, none, none, none, none], p⟩) (own := [7]) (tg := .nm 7) (kd := .seq) (es := [.v 1]) (elt := .call 10 [.v 7]) (ds := ns.map rowD) (q := fun _ => true) (it_seq (el_tup (ed_v (i := 1) rfl))) lr (by decide) (by simp) fun x hx X => by
      obtain ⟨n, hn, rfl⟩ := List.mem_map.mp hx
      exact ⟨[some (.frz d), some (.frz (.tup (ns.map rowD))), none, none, none, none, none, some (.frz (rowD n)), none, none], rfl, rfl, ed_call h10 (es_cons (ed_v (i := 7) rfl) es_nil) (face_ok h8 k1 (hF n hn))⟩
    have e : (ns.map rowD).all (fun _ => true) = true := by simp
    rw [e] at h
    exact h
  -- top
  have htop : EvD Γ (.bi .max1 [.lc [7] (.nm 7) .seq [.v 1] [] (.bi .len [.v 7])]) ⟨[some (.frz d), some (.frz (.tup (ns.map rowD))), none, none, none, none, none, none, none, none], p⟩ (.int (topL ns)) := by
    have h := en_lens (Γ := Γ) (ρ := ⟨[some (.frz d), some (.frz (.tup (ns.map rowD))), none, none, none, none, none, none, none, none], p⟩) (own := [7]) (v := 7) (es := [.v 1]) (kd := .seq) (ds := ns.map rowD) (f := fun x => ((rowOf x).length : Nat)) rfl (by simp) (it_seq (el_tup (ed_v (i := 1) rfl))) lr fun x hx => by
      obtain ⟨n, _, rfl⟩ := List.mem_map.mp hx
      rw [rowOf_row]
      show some (O.frz (.int (((n.map D.int).length : Nat) : Int))) = _
      rw [List.length_map]
    cases ns with
    | nil => exact absurd rfl ne
    | cons n ns =>
      refine ed_max1 (n := ((n.length : Nat) : Int)) (ns := ns.map fun m => ((m.length : Nat) : Int)) ?_
      have e : ((n :: ns).map rowD).map (fun x => DL.D.int ((rowOf x).length : Nat)) = (((n.length : Nat) : Int) :: ns.map fun m => ((m.length : Nat) : Int)).map DL.D.int := by
        rw [List.map_map, List.map_cons, List.map_cons, List.map_map]
        refine congr (congrArg List.cons ?_) (List.map_congr_left fun m _ => ?_)
        · show DL.D.int ((rowOf (rowD n)).length : Nat) = _
          rw [rowOf_row]
        · show DL.D.int ((rowOf (rowD m)).length : Nat) = _
          rw [rowOf_row]; rfl
      rw [e] at h
      exact h
  refine (ss_set htop).trans ?_
  refine (ss_setO (eo_n (en_lst (ds := []) es_nil (Nat.zero_le _)))).trans ?_
  -- the levels
  have hr : rngD true [.int 1, .int (topL ns + 1)] = some ((lvls ns).map fun k => DL.D.int (k : Nat)) := by
    rw [rng2 (by omega) (by omega) (by omega) (by omega)]
    unfold lvls
    rw [List.map_map]
    congr 1
    rw [show topL ns + 1 - 1 = topL ns by omega]
    refine List.map_congr_left fun k _ => ?_
    show DL.D.int (1 + (k : Nat)) = DL.D.int ((1 + k : Nat) : Int)
    rw [Int.natCast_add]; rfl
  refine (ss_for (it_rng (vs_cons ed_ci (vs_cons (ed_add (ed_v (i := 2) (d := .int (topL ns)) rfl) ed_ci) vs_nil)) hr) e3).trans ?_
  -- the most cells of a size
  have hi1 := it_own (Γ := Γ) (ρ := ⟨ffS d (.tup (ns.map rowD)) (some (.frz (.int (topL ns)))) ((lvls ns).map (lvO ns)) v4 v6 v7 v8, p⟩) (i := 3) (ns := ns) rfl kne
  refine (set_shift (bi_shift rfl (lc_shift hi1 (it_seq (el_lst (ed_v (i := 3) rfl)))))).trans ?_
  refine (ss_set em).trans ?_
  refine ss_if_rse (ρ := ⟨[some (.frz d), some (.frz (.tup (ns.map rowD))), some (.frz (.int (topL ns))), some (.frz (.lst ((lvls ns).map (lvD ns)))), v4, some (.frz (.int (maxL m ms))), v6, v7, v8, none], p⟩) (eb_bl (ed_cmp (x := .int (maxL m ms)) (ed_v (i := 5) rfl) (ed_kst k0) ?_)) (es_cons ed_c (es_cons (ed_v (i := 5) rfl) (es_cons (ed_kst k0) es_nil))) hx7 rfl
  show some (decide ((24 : Int) < maxL m ms)) = some true
  rw [decide_eq_true hm]

def great : Rows := (List.range 26).map fun (k : Nat) => [(2 * k : Nat), (2 * k + 1 : Nat)]
theorem great_face : ∀ n ∈ great, Face n := fun n hn => by
  obtain ⟨k, hk, rfl⟩ := List.mem_map.mp hn
  have := List.mem_range.mp hk
  refine ⟨by simp, by simp, by simp; omega, fun c hc => ?_, fun c hc => ?_⟩ <;>
  · simp only [List.mem_cons, List.not_mem_nil, or_false] at hc
    omega
theorem great_in : Fp fn9 [.lst (great.map rowD)] (.tup (great.map rowD)) := by
  have l := l64
  obtain ⟨q1, q2, q3⟩ := okIn_rows (k := 9) (ns := great) (by show 26 ≤ lineN; omega) fun n hn => by
    have := (great_face n hn).l3
    omega
  have r2 := inT_rec (lam := fun _ => none) (C := C) (f := din_tuples) (T := tb 1) rfl rfl rfl 12 _ q2
  rw [inT_lst, inT_rows] at r2
  exact r2
theorem ff_great : Fe (defFn (G 3) 1 10 bfaces_from) [.lst (great.map rowD)] 7 ["what", "many", "limit"] [.str "cells", .int 52, .int 24] :=
  faces_from_many (Γ := G 3) (Γ2 := G 2) (Γ3 := G 0) (fn9 := fn9) rfl great_in rfl rfl rfl rfl rfl great_face (by decide) (by decide) (m := 52) (ms := [26]) (by decide +kernel) (by decide)
theorem book_of_great : Fe (defFn (G 6) 1 1 bbook_of) [.lst (great.map rowD)] 7 ["what", "many", "limit"] [.str "cells", .int 52, .int 24] := by
  refine fe_of rfl fun p => ?_
  apply Exists.intro
  refine ss_err ?_
  rw [evS]
  exact bnd_err (evs_callE (es' := []) (g := 11) rfl (es_cons (ed_v (i := 0) rfl) es_nil) ff_great)
end Law

set_option Elab.async false
set_option linter.all false
set_option maxRecDepth 100000
set_option maxHeartbeats 0
/-! KP23: law_k80: the tries. -/
namespace DL
open PySem
variable {Γ : Gam} {ρ : Env}
/-- a lambda whose text raises -/
theorem lam_err {n : Nat} {e : E} {q : Pen} {g : Nat} {ns : List Str} {xs : List D} (h : ev Γ e ⟨(List.range n).map fun j => ((q.env[j]?).join).map O.frz, q⟩ = .err g ns xs ⟨(List.range n).map fun j => ((q.env[j]?).join).map O.frz, q⟩) : lamFn Γ n e [] q = .err g ns xs q := by
  unfold lamFn
  show (match bnd (ev Γ e) esc ⟨(List.range n).map fun j => ((q.env[j]?).join).map O.frz, q⟩ with
    | .ok d ρ => Res.ok d ρ.pen
    | .err g ns xs ρ => .err g ns xs ρ.pen
    | .bad => .bad) = _
  rw [bnd_err h]
/-- what a call that raises is told as -/
theorem fault_ok {hs : List (Nat × HB)} {ss : List S} {k g : Nat} {fl : Fn} {ns fs : List Str} {xs : List D} {due : D} {q : Pen} {hb : HB} (ho : Γ.own = none) (hl : Γ.lam k = some fl) (he : fl [] q = .err g ns xs q) (hx : Γ.exf g = some fs) (hh : hs.lookup g = some hb) (hd : hb.d ns xs = some due) :
    defFn Γ 1 2 (.try_ [.ex (.callc 0)] hs :: ss) [.clo k] q = .ok due q := by
  have h1 : ev Γ (.callc 0) ⟨[some (.frz (.clo k)), none], q⟩ = .err g ns xs ⟨[some (.frz (.clo k)), none], q⟩ := by
    rw [ev, bndE (show rd 0 ⟨[some (.frz (.clo k)), none], q⟩ = .ok ⟨some 0, .frz (.clo k)⟩ ⟨[some (.frz (.clo k)), none], q⟩ from rfl)]
    show (if (Γ.own.isNone && (Γ.lam k).isSome) = true then callFn Γ.own (Γ.lam k) [] else DL.bad) ⟨[some (.frz (.clo k)), none], q⟩ = _
    rw [ho, hl]
    show callFn none (some fl) [] ⟨[some (.frz (.clo k)), none], q⟩ = _
    unfold callFn
    have e2 : envOf none ⟨[some (.frz (.clo k)), none], q⟩ = q := rfl
    simp only [e2, he]
    rfl
  have h2 : evSs Γ [.ex (.callc 0)] ⟨[some (.frz (.clo k)), none], q⟩ = .err g ns xs ⟨[some (.frz (.clo k)), none], q⟩ := by
    refine ss_err ?_
    rw [evS]; exact bnd_err h1
  have h3 : evS Γ (.try_ [.ex (.callc 0)] hs) ⟨[some (.frz (.clo k)), none], q⟩ = .ok (.ret due) ⟨[some (.frz (.clo k)), none], q⟩ := by
    rw [evS]
    unfold hndF
    rw [h2]
    simp only [hx, hh, hd]
    rfl
  unfold defFn runDef
  show (if 1 = 1 then _ else Res.bad) = _
  rw [if_pos rfl]
  show (match evSs Γ (.try_ [.ex (.callc 0)] hs :: ss) ⟨[some (.frz (.clo k)), none], q⟩ with
    | .ok (.ret d) ρ => Res.ok d ρ.pen
    | .ok .nx ρ => .ok .non ρ.pen
    | .ok _ _ => .bad
    | .err g ns xs ρ => .err g ns xs ρ.pen
    | .bad => .bad) = _
  rw [evSs]
  unfold seqF
  rw [bndE h3]; rfl
/-- all tries raise what is due -/
def dueBody (g : Nat) : List S := [.ret (.bi .all [.lc [1, 2] (.tp [1, 2]) .seq [.v 0] [] (.cmp .Eq (.bi .repr [.call g [.v 1]]) (.bi .repr [.v 2]))])]
theorem due_ok {g : Nat} {fn : Fn} {q : Pen} {ts : List (Nat × D)} (ho : Γ.own = none) (hf : Γ.fn g = some fn) (hl : ts.length ≤ 1000) (h : ∀ t ∈ ts, fn [.clo t.1] q = .ok t.2 q ∧ okRepr t.2 = true) : defFn Γ 1 3 (dueBody g) [.lst (ts.map fun t => .tup [.clo t.1, t.2])] q = .ok (.bl true) q := by
  have l6 : (1000 : Nat) ≤ lineN := by decide
  have hh := ed_allC (Γ := Γ) (ρ := ⟨[some (.frz (.lst (ts.map fun t => .tup [.clo t.1, t.2]))), none, none], q⟩) (own := [1, 2]) (tg := .tp [1, 2]) (kd := .seq) (es := [.v 0]) (elt := .cmp .Eq (.bi .repr [.call g [.v 1]]) (.bi .repr [.v 2])) (ds := ts.map fun t => .tup [.clo t.1, t.2]) (q := fun _ => true) (it_seq (el_lst (ed_v (i := 0) rfl))) (by rw [List.length_map]; omega) (by decide) (by simp) fun x hx X => by
    obtain ⟨t, ht, rfl⟩ := List.mem_map.mp hx
    obtain ⟨h1, h2⟩ := h t ht
    refine ⟨[some (.frz (.lst (ts.map fun t => .tup [.clo t.1, t.2]))), some (.frz (.clo t.1)), some (.frz t.2)], rfl, rfl, ?_⟩
    refine ed_cmp (ed_repr (ew_d (d := t.2) ?_) h2) (ed_repr (ew_d (ed_v (i := 2) rfl)) h2) c_eqs
    refine ⟨none, ?_⟩
    rw [ev, bndE (es_cons (ed_v (i := 1) (d := .clo t.1) rfl) es_nil), ho, hf]
    exact callFn_ok (own := none) h1
  have e : (ts.map fun t => D.tup [.clo t.1, t.2]).all (fun _ => true) = true := by simp
  rw [e] at hh
  unfold defFn runDef
  show (if 1 = 1 then _ else Res.bad) = _
  rw [if_pos rfl]
  show (match evSs Γ (dueBody g) ⟨[some (.frz (.lst (ts.map fun t => .tup [.clo t.1, t.2]))), none, none], q⟩ with
    | .ok (.ret d) ρ => Res.ok d ρ.pen
    | .ok .nx ρ => .ok .non ρ.pen
    | .ok _ _ => .bad
    | .err g ns xs ρ => .err g ns xs ρ.pen
    | .bad => .bad) = _
  unfold dueBody
  rw [ss_ret hh]
end DL
namespace Law
open PySem DL
def Gf : Gam := mkG D.T1 D.lam C
def Gd : Gam := mkG ((26, defFn Gf 1 2 b_law_fault) :: D.T1) D.lam C
def Gl : Gam := mkG D.T1 (fun _ => none) C
abbrev gD (g : Rows) : DL.D := .tup (g.map rowD)
abbrev grD : DL.D := .lst (great.map rowD)
abbrev fD (d : DL.D) : DL.D := .tup [.str "faces", d]
abbrev mD : DL.D := .tup [.str "many", .str "cells", .int 52, .int 24]
def triesL (bad odd : DL.D) : List (Nat × DL.D) := [(0, fD bad), (1, fD odd), (2, fD bad), (3, fD odd), (4, fD farD), (5, fD (.tup [])), (6, mD)]
theorem okr_f : (bads ++ odds ++ [farD, .tup []]).all (fun d => okRepr (fD d)) = true := by decide +kernel
theorem okr_m : okRepr mD = true := by decide +kernel
theorem all_faults {g : Rows} (h : Faces g) (hb : grt g = g) (h8 : ∀ n ∈ g, ∀ c ∈ n, c < 98) {bad odd : DL.D} (hbad : bad ∈ bads) (hodd : odd ∈ odds) {q : Pen} (hq : q.env = [some bad, some odd, some (gD g), some farD, some grD]) : ∀ t ∈ triesL bad odd, defFn Gf 1 2 b_law_fault [.clo t.1] q = .ok t.2 q ∧ okRepr t.2 = true := by
  have sl : ((List.range 5).map fun j => ((q.env[j]?).join).map O.frz) = [some (.frz bad), some (.frz odd), some (.frz (gD g)), some (.frz farD), some (.frz grD)] := by rw [hq]; rfl
  obtain ⟨o1, o2⟩ := odd_ok odd hodd
  have okr : ∀ d ∈ bads ++ odds ++ [farD, .tup []], okRepr (fD d) = true := fun d hd => List.all_eq_true.mp okr_f d hd
  unfold triesL
  refine all_cons ⟨?_, okr bad (by simp [hbad])⟩ (all_cons ⟨?_, okr odd (by simp [hodd])⟩ (all_cons ⟨?_, okr bad (by simp [hbad])⟩ (all_cons ⟨?_, okr odd (by simp [hodd])⟩ (all_cons ⟨?_, okr farD (by simp)⟩ (all_cons ⟨?_, okr (.tup []) (by simp)⟩ (all_cons ⟨?_, okr_m⟩ all_nil))))))
  · refine fault_ok (Γ := Gf) (k := 0) (g := 4) (ns := ["faces"]) (fl := lamFn Gl 5 (.call 18 [.v 0, .v 1])) rfl rfl (lam_err (xs := [bad]) ?_) rfl rfl rfl
    rw [sl]
    exact evs_callE (es' := []) (g := 18) (fn := wfF) rfl (es_cons (ed_v (i := 0) rfl) (es_cons (ed_v (i := 1) rfl) es_nil)) (bad_with bad hbad odd)
  · refine fault_ok (Γ := Gf) (k := 1) (g := 4) (ns := ["faces"]) (fl := lamFn Gl 5 (.call 18 [.v 2, .v 1])) rfl rfl (lam_err (xs := [odd]) ?_) rfl rfl rfl
    rw [sl]
    exact evs_callE (es' := []) (g := 18) (fn := wfF) rfl (es_cons (ed_v (i := 2) rfl) (es_cons (ed_v (i := 1) rfl) es_nil)) (odd_with h hb o1 o2)
  · refine fault_ok (Γ := Gf) (k := 2) (g := 4) (ns := ["faces"]) (fl := lamFn Gl 5 (.call 19 [.v 0, .v 1])) rfl rfl (lam_err (xs := [bad]) ?_) rfl rfl rfl
    rw [sl]
    exact evs_callE (es' := []) (g := 19) (fn := wofF) rfl (es_cons (ed_v (i := 0) rfl) (es_cons (ed_v (i := 1) rfl) es_nil)) (bad_without bad hbad odd)
  · refine fault_ok (Γ := Gf) (k := 3) (g := 4) (ns := ["faces"]) (fl := lamFn Gl 5 (.call 19 [.v 2, .v 1])) rfl rfl (lam_err (xs := [odd]) ?_) rfl rfl rfl
    rw [sl]
    exact evs_callE (es' := []) (g := 19) (fn := wofF) rfl (es_cons (ed_v (i := 2) rfl) (es_cons (ed_v (i := 1) rfl) es_nil)) (odd_without h hb o1 o2)
  · refine fault_ok (Γ := Gf) (k := 4) (g := 4) (ns := ["faces"]) (fl := lamFn Gl 5 (.call 19 [.v 2, .v 3])) rfl rfl (lam_err (xs := [farD]) ?_) rfl rfl rfl
    rw [sl]
    exact evs_callE (es' := []) (g := 19) (fn := wofF) rfl (es_cons (ed_v (i := 2) rfl) (es_cons (ed_v (i := 3) rfl) es_nil)) (far_without h hb h8)
  · refine fault_ok (Γ := Gf) (k := 5) (g := 4) (ns := ["faces"]) (fl := lamFn Gl 5 (.call 14 [.tup []])) rfl rfl (lam_err (xs := [.tup []]) ?_) rfl rfl rfl
    rw [sl]
    exact evs_callE (es' := []) (g := 14) (fn := defFn (G 6) 1 1 bbook_of) rfl (es_cons (ed_tup es_nil (Nat.zero_le _)) es_nil) book_of_none
  · refine fault_ok (Γ := Gf) (k := 6) (g := 7) (ns := ["what", "many", "limit"]) (fl := lamFn Gl 5 (.call 14 [.v 4])) rfl rfl (lam_err (xs := [.str "cells", .int 52, .int 24]) ?_) rfl rfl rfl
    rw [sl]
    exact evs_callE (es' := []) (g := 14) (fn := defFn (G 6) 1 1 bbook_of) rfl (es_cons (ed_v (i := 4) rfl) es_nil) book_of_great
theorem all_due {g : Rows} (h : Faces g) (hb : grt g = g) (h8 : ∀ n ∈ g, ∀ c ∈ n, c < 98) {bad odd : DL.D} (hbad : bad ∈ bads) (hodd : odd ∈ odds) {q : Pen} (hq : q.env = [some bad, some odd, some (gD g), some farD, some grD]) : defFn Gd 1 3 b_law_are_due [.lst ((triesL bad odd).map fun t => .tup [.clo t.1, t.2])] q = .ok (.bl true) q :=
  due_ok (Γ := Gd) (g := 26) rfl rfl (by show 7 ≤ 1000; decide) (all_faults h hb h8 hbad hodd hq)
abbrev lS (s2 s3 s4 s5 s6 s7 s8 s9 s10 s11 s12 s13 s14 : Option O) : List (Option O) := [none, some (.frz .pen), s2, s3, s4, s5, s6, s7, s8, s9, s10, s11, s12, s13, s14, none, none, none, none]
theorem tail_ok {g : Rows} (h : Faces g) (hb : grt g = g) (h8 : ∀ n ∈ g, ∀ c ∈ n, c < 98) {bad odd : DL.D} (hbad : bad ∈ bads) (hodd : odd ∈ odds) (s2 s4 s5 s6 s7 s8 s9 : Option O) (p : Pen) :
    ∃ ρ', evSs D.gam (blaw.drop 15) ⟨lS s2 (some (.frz (gD g))) s4 s5 s6 s7 s8 s9 (some (.frz bad)) (some (.frz odd)) none none none, p⟩ = .ok (.ret (.bl true)) ρ' := by
  have e1 : evSs D.gam (blaw.drop 15) ⟨lS s2 (some (.frz (gD g))) s4 s5 s6 s7 s8 s9 (some (.frz bad)) (some (.frz odd)) none none none, p⟩ = evSs D.gam [.ret (.call 27 [.v 13])] ⟨lS s2 (some (.frz (gD g))) s4 s5 s6 s7 s8 s9 (some (.frz bad)) (some (.frz odd)) (some (.frz farD)) (some (.own (((triesL bad odd).map fun t => DL.D.tup [.clo t.1, t.2]).map O.frz))) (some (.frz grD)), p⟩ := by kernel_rfl
  rw [e1]
  have e2 : evs D.gam [.v 13] ⟨lS s2 (some (.frz (gD g))) s4 s5 s6 s7 s8 s9 (some (.frz bad)) (some (.frz odd)) (some (.frz farD)) (some (.own (((triesL bad odd).map fun t => DL.D.tup [.clo t.1, t.2]).map O.frz))) (some (.frz grD)), p⟩ = .ok [.lst ((triesL bad odd).map fun t => DL.D.tup [.clo t.1, t.2])] ⟨lS s2 (some (.frz (gD g))) s4 s5 s6 s7 s8 s9 (some (.frz bad)) (some (.frz odd)) (some (.frz farD)) (some (.frz (.lst ((triesL bad odd).map fun t => DL.D.tup [.clo t.1, t.2])))) (some (.frz grD)), p⟩ := by
    rw [evs, ev, bndE (rd_ok rfl), bndE (esc_slot rfl), evs]; rfl
  have h27 := all_due h hb h8 hbad hodd (q := envOf D.gam.own ⟨lS s2 (some (.frz (gD g))) s4 s5 s6 s7 s8 s9 (some (.frz bad)) (some (.frz odd)) (some (.frz farD)) (some (.frz (.lst ((triesL bad odd).map fun t => DL.D.tup [.clo t.1, t.2])))) (some (.frz grD)), p⟩) rfl
  have e3 : ev D.gam (.call 27 [.v 13]) ⟨lS s2 (some (.frz (gD g))) s4 s5 s6 s7 s8 s9 (some (.frz bad)) (some (.frz odd)) (some (.frz farD)) (some (.own (((triesL bad odd).map fun t => DL.D.tup [.clo t.1, t.2]).map O.frz))) (some (.frz grD)), p⟩ = callFn D.gam.own (D.gam.fn 27) [.lst ((triesL bad odd).map fun t => DL.D.tup [.clo t.1, t.2])] ⟨lS s2 (some (.frz (gD g))) s4 s5 s6 s7 s8 s9 (some (.frz bad)) (some (.frz odd)) (some (.frz farD)) (some (.frz (.lst ((triesL bad odd).map fun t => DL.D.tup [.clo t.1, t.2])))) (some (.frz grD)), p⟩ := by rw [ev, bndE e2]
  exact ⟨_, ss_retM (e3.trans (callFn_ok (fn := defFn Gd 1 3 b_law_are_due) h27))⟩
end Law

set_option Elab.async false
set_option linter.all false
set_option maxRecDepth 100000
set_option maxHeartbeats 0
/-! KP24: law_k80: more rules. -/
namespace DL
open PySem
variable {Γ : Gam} {ρ : Env}
theorem ok_ifR_no {t : E} {a ss : List S} {k c : Nat} {Q : Fl → Env → Prop} (h : ∃ p', evT Γ t ρ = .ok false ⟨ρ.sl, p'⟩ ∧ Inv (k + c) p') (q : ∀ p', Inv (k + c) p' → Ok (evSs Γ ss) ⟨ρ.sl, p'⟩ Q) : Ok (evSs Γ (.iff t a [] :: ss)) ρ Q :=
  ok_ifR (k := k) (c' := c) h fun p' I => ok_seq (ok_nil (Γ := Γ) ⟨rfl, q p' I⟩)
theorem ok_step {s : S} {ss : List S} {ρ' : Env} {Q : Fl → Env → Prop} (h : evS Γ s ρ = .ok .nx ρ') (q : Ok (evSs Γ ss) ρ' Q) : Ok (evSs Γ (s :: ss)) ρ Q := ok_pure (ss_ok h) q
/-- xs + ys of lists -/
theorem en_addL {a b : E} {xs ys : List D} (ha : EvX Γ a ρ (.lst xs)) (hb : EvX Γ b ρ (.lst ys)) (hl : xs.length + ys.length ≤ lineN) : EvN Γ (.bin .Add a b) ρ (.own ((xs ++ ys).map O.frz)) := by
  unfold EvX at ha hb
  unfold EvN
  rw [ev, bndL, bndE ha, bndL, bndE hb]
  show lft ((if xs.length + ys.length ≤ lineN then some (O.own ((xs ++ ys).map O.frz)) else none).map fun o => (⟨none, o⟩ : Val)) _ = _
  rw [if_pos hl]; rfl
/-- x + y of tuples -/
theorem ed_addT {a b : E} {xs ys : List D} (ha : EvD Γ a ρ (.tup xs)) (hb : EvD Γ b ρ (.tup ys)) (hl : xs.length + ys.length ≤ lineN) : EvD Γ (.bin .Add a b) ρ (.tup (xs ++ ys)) := ed_bin ha hb (by
  show (if xs.length + ys.length ≤ lineN then _ else none) = _
  rw [if_pos hl])
theorem ed_cutHi {a b : E} {xs : List D} {k : Nat} (ha : EvD Γ a ρ (.tup xs)) (hb : EvD Γ b ρ (.int (k : Nat))) (hn : b.isNo = false) : EvD Γ (.slc a .no b) ρ (.tup (xs.take k)) := by
  obtain ⟨s, e1⟩ := ha
  obtain ⟨t, e2⟩ := hb
  refine ⟨none, ?_⟩
  rw [ev, bndE e1, bndE esc_frz, bndE (show prt (E.isNo .no) (ev Γ .no) ρ = .ok none ρ from rfl), bndE (show prt (E.isNo b) (ev Γ b) ρ = .ok (some (k : Nat)) ρ by
    unfold prt
    rw [hn, if_neg (by decide), bndE e2, bndE vInt_frz]; rfl)]
  show lft ((some (O.frz (.tup (cutL xs none (some (k : Nat)))))).map fun o => (⟨none, o⟩ : Val)) _ = _
  rw [cut_hi]; rfl
theorem ed_revT {a : E} {xs : List D} (ha : EvD Γ a ρ (.tup xs)) : EvD Γ (.rev a) ρ (.tup xs.reverse) := by
  obtain ⟨s, e1⟩ := ha
  refine ⟨none, ?_⟩
  rw [ev, bndE e1, bndE esc_frz]; rfl
theorem ed_tup1 {e : E} {d : D} (h : EvD Γ e ρ d) (hd : ∃ xs, itemsD d = some xs) : ∃ xs, itemsD d = some xs ∧ EvD Γ (.bi .tuple [e]) ρ (.tup xs) := by
  obtain ⟨xs, hx⟩ := hd
  refine ⟨xs, hx, ed_of_n (en_biE rfl (es_cons h es_nil) ?_)⟩
  show (itemsD d).map _ = _
  rw [hx]; rfl
/-- tuple(xs), list(xs) of what is frozen -/
theorem ed_tupL {e : E} {xs : List D} (h : EvD Γ e ρ (.lst xs)) : EvD Γ (.bi .tuple [e]) ρ (.tup xs) := ed_of_n (en_biE rfl (es_cons h es_nil) rfl)
theorem ed_tupT {e : E} {xs : List D} (h : EvD Γ e ρ (.tup xs)) : EvD Γ (.bi .tuple [e]) ρ (.tup xs) := ed_of_n (en_biE rfl (es_cons h es_nil) rfl)
theorem en_listL {e : E} {xs : List D} (h : EvD Γ e ρ (.lst xs)) : EvN Γ (.bi .list [e]) ρ (.own (xs.map O.frz)) := en_biE rfl (es_cons h es_nil) rfl
theorem en_listT {e : E} {xs : List D} (h : EvD Γ e ρ (.tup xs)) : EvN Γ (.bi .list [e]) ρ (.own (xs.map O.frz)) := en_biE rfl (es_cons h es_nil) rfl
/-- xs = xs + e, where slot i owns xs and e is frozen -/
theorem s_growD {i : Nat} {ds fs : List D} {e : E} (hi : ρ.sl[i]? = some (some (.own (ds.map O.frz)))) (h : EvD Γ e (ρ.set i (some (.frz (.lst ds)))) (.lst fs)) (hl : ds.length + fs.length ≤ lineN) : evS Γ (.set i (.bin .Add (.v i) e)) ρ = .ok .nx (ρ.set i (some (.own ((ds ++ fs).map O.frz)))) := by
  obtain ⟨s, e2⟩ := h
  have h1 : ev Γ (.bin .Add (.v i) e) ρ = .ok ⟨none, .own ((ds ++ fs).map O.frz)⟩ (ρ.set i (some (.frz (.lst ds)))) := by
    rw [ev, ev, bndE (rd_ok hi), bndE (esc_slot hi), bndE e2, bndE esc_frz]
    show lft ((if ds.length + fs.length ≤ lineN then some (O.own ((ds ++ fs).map O.frz)) else none).map fun o => (⟨none, o⟩ : Val)) _ = _
    rw [if_pos hl]; rfl
  rw [evS, bndE h1]
  show Res.ok Fl.nx _ = _
  congr 1
  unfold Env.set
  simp [List.set_set]
/-- a pick of what a slot holds -/
theorem er_pick {g i k : Nat} {fn : Fn} {xs : List D} (hf : Γ.fn g = some fn) (F : PickF fn) (hi : ρ.sl[i]? = some (some (.frz .pen))) {e : E} (he : EvX Γ e ρ (.lst xs)) (ne : xs ≠ []) (hl : xs.length ≤ 100000) (hk : k + 1 ≤ 1000000) (I : Inv k ρ.pen) : EvR Γ k 1 (.call g [.v i, e]) ρ (· ∈ xs) :=
  er_call hf (es_cons (ed_v hi) (es_consX he es_nil)) (F xs ne (by omega)) hk I
/-- xs + [x], where x is drawn -/
theorem s_addR {i k c : Nat} {a e : E} {xs : List D} {R : D → Prop} (ha : EvD Γ a ρ (.lst xs)) (he : EvR Γ k c e ρ R) (hl : xs.length + 1 ≤ lineN) : ∃ d p', evS Γ (.set i (.bin .Add a (.lst [e]))) ρ = .ok .nx ⟨ρ.sl.set i (some (.own ((xs ++ [d]).map O.frz))), p'⟩ ∧ Inv (k + c) p' ∧ R d := by
  obtain ⟨s, e1⟩ := ha
  obtain ⟨s2, d, p', e2, I, r⟩ := he
  refine ⟨d, p', ?_, I, r⟩
  have h0 : evs Γ [e] ρ = .ok [d] ⟨ρ.sl, p'⟩ := by rw [evs, bndE e2, bndE esc_frz, bndE (show evs Γ [] ⟨ρ.sl, p'⟩ = .ok [] ⟨ρ.sl, p'⟩ from es_nil)]; rfl
  have h1 : ev Γ (.lst [e]) ρ = .ok ⟨none, .own ([d].map O.frz)⟩ ⟨ρ.sl, p'⟩ := by
    rw [ev, bndE h0, if_pos (show [d].length ≤ lineN by show 1 ≤ lineN; decide)]; rfl
  have h2 : ev Γ (.bin .Add a (.lst [e])) ρ = .ok ⟨none, .own ((xs ++ [d]).map O.frz)⟩ ⟨ρ.sl, p'⟩ := by
    rw [ev, bndE e1, bndE esc_frz, bndE h1, bndE esc_own]
    show lft ((if xs.length + [d].length ≤ lineN then some (O.own ((xs ++ [d]).map O.frz)) else none).map fun o => (⟨none, o⟩ : Val)) _ = _
    rw [if_pos (show xs.length + [d].length ≤ lineN from hl)]; rfl
  rw [evS, bndE h2]; rfl
/-- an item of what is drawn -/
theorem er_ix0 {k c : Nat} {a : E} {R : D → Prop} (ha : EvR Γ k c a ρ (fun d => ∃ x xs, d = .lst (x :: xs) ∧ R x)) : EvR Γ k c (.ix a (.c (.int 0))) ρ R := by
  obtain ⟨s, d, p', e1, I, x, xs, rfl, r⟩ := ha
  refine ⟨none, x, p', ?_, I, r⟩
  obtain ⟨t, e2⟩ := ed_ci (Γ := Γ) (ρ := ⟨ρ.sl, p'⟩) (i := 0)
  rw [ev, bndE e1, bndE esc_frz, bndE e2, bndE vInt_frz]
  have : ixD (.lst (x :: xs)) 0 = some x := by
    show (if (0 : Int) ≤ 0 then (if (0 : Int) < ((x :: xs).length : Int) then some (0 : Int).toNat else none) else _).bind (fun j => (x :: xs)[j]?) = some x
    rw [if_pos (by decide), if_pos (by rw [List.length_cons]; omega)]; rfl
  rw [this]; rfl
/-- lists of lists -/
theorem ds_lists (ns : Rows) : O.ds (ns.map fun n => O.own ((n.map D.int).map O.frz)) = ns.map rowL ∧ O.hasTs (ns.map fun n => O.own ((n.map D.int).map O.frz)) = false := by
  induction ns with
  | nil => exact ⟨rfl, rfl⟩
  | cons n ns ih =>
    constructor
    · rw [List.map_cons, O.ds, ih.1, own_d]; rfl
    · rw [List.map_cons, O.hasTs, ih.2, own_hasT]; rfl
theorem in_row {lam : Nat → Option Fn} {C : Cc} {f : FD} {T : List (Nat × Fn)} (h1 : f.ps.length = 1) (h2 : f.N.length = 2) (h3 : f.ss = inTB f.g) {n : List Int} (hn : n.length ≤ lineN) : Fp (rfn lam C f T 12) [rowD n] (rowD n) ∧ Fp (rfn lam C f T 12) [rowL n] (rowD n) := by
  obtain ⟨q1, q2⟩ := okIn_row (k := 10) hn
  have main := inT_rec (lam := lam) (C := C) (f := f) (T := T) h1 h2 h3 12
  have r1 := main _ q1
  have r2 := main _ q2
  rw [inT_row] at r1
  rw [inT_rowL] at r2
  exact ⟨r1, r2⟩
/-- the pen at the start -/
theorem inv_pen0 (ns : List Int) : Inv 0 (pen0 ns) := by
  have : 0 ≤ foldP ns ∧ foldP ns < 999999797 := by
    unfold foldP
    have key : ∀ (ns : List Int) (f : Int), 0 ≤ f ∧ f < 999999797 → 0 ≤ ns.foldl (fun f c => (f * 79 + c) % 999999797) f ∧ ns.foldl (fun f c => (f * 79 + c) % 999999797) f < 999999797 := by
      intro ns
      induction ns with
      | nil => intro f h; exact h
      | cons n ns ih => intro f h; exact ih _ ⟨Int.emod_nonneg _ (by decide), Int.emod_lt_of_pos _ (by decide)⟩
    exact key ns 0 ⟨by decide, by decide⟩
  exact ⟨by show (0 : Int) ≤ 0; decide, by show (0 : Int) ≤ 0; decide, this.1, by have := this.2; show foldP ns < 2147483549; omega, by show (0 : Int) ≤ 0; decide, by show (0 : Int) ≤ 0; decide⟩
end DL

set_option Elab.async false
set_option linter.all false
set_option maxRecDepth 100000
set_option maxHeartbeats 0
/-! KP25: law_k80: the law, step by step. -/
namespace DL
open PySem
variable {Γ : Gam} {ρ : Env}
theorem ss_ifT_no {t : E} {a ss : List S} {ρ' : Env} (h : evT Γ t ρ = .ok false ρ') : evSs Γ (.iff t a [] :: ss) ρ = evSs Γ ss ρ' := by
  refine ss_ok ?_
  rw [evS, bndE h, if_neg (by decide), evSs]; rfl
theorem ss_setR {i k c : Nat} {e : E} {ss : List S} {R : D → Prop} (h : EvR Γ k c e ρ R) : ∃ d p', evSs Γ (.set i e :: ss) ρ = evSs Γ ss ⟨ρ.sl.set i (some (.frz d)), p'⟩ ∧ Inv (k + c) p' ∧ R d := by
  obtain ⟨s, d, p', e1, I, r⟩ := h
  refine ⟨d, p', ss_ok ?_, I, r⟩
  rw [evS, bndE e1, bndE keep_frz]; rfl
end DL
namespace Law
open PySem DL
theorem dc : DrawC 43669 2147483549 8123 53 2305843009213693951 19 1024 := ⟨rfl, by decide, by decide, by decide, by decide, by decide, by decide⟩
theorem kDraw : DrawF (defFn (G 12) 2 5 b_law_draw) := drawF_of dc
theorem kPick : PickF (defFn (G 13) 2 2 b_law_pick) := pickF_of (Γ := G 13) (g := 21) rfl kDraw
theorem kShuf : ShufF (defFn (G 14) 2 5 b_law_shuffled) := shufF_of (Γ := G 14) (g := 21) rfl kDraw
theorem kFaces {c m t : Nat} (hc : 1 ≤ c) (hc9 : c ≤ 900) (ht : 1 ≤ t) (ht9 : t ≤ 900) (hm : m ≤ 900) : Spec (defFn (G 15) 4 7 b_law_faces) [.pen, .int (c : Nat), .int (m : Nat), .int (t : Nat)] (m * (c + 1)) (fun d => ∃ ns : Rows, d = .lst (ns.map rowD) ∧ ns.length = m ∧ ∀ n ∈ ns, Below c t n) := faces_spec (Γ := G 15) (g := 21) (h := 23) rfl kDraw rfl kShuf hc hc9 ht ht9 hm
theorem below_face {c : Nat} (hc : c ≤ 8) {n : List Int} (h : Below c 3 n) : Face n ∧ ∀ x ∈ n, x < 8 := by
  have hx : ∀ x ∈ n, x < 8 := fun x hx => by
    have := h.hi x hx
    omega
  exact ⟨⟨h.l1, h.lt, h.asc, h.lo, fun x h => by have := hx x h; omega⟩, hx⟩
/-- the law's faces -/
structure FF (fs : Rows) : Prop where
  f : Faces fs
  l6 : fs.length ≤ 6
  h8 : ∀ n ∈ fs, ∀ c ∈ n, c < 8
theorem FF.g {fs : Rows} (h : FF fs) : FF (grt fs) := ⟨h.f.grt, by
  have h1 : (grt fs).length ≤ (rowsS fs).length := List.length_filter_le _ _
  have := rowsS_len fs
  have := h.l6
  omega, fun n hn => h.h8 n ((mem_grt fs n).mp hn).1⟩
abbrev RUN (i : Nat) (ρ : DL.Env) : Res DL.Env Fl := evSs D.gam (blaw.drop i) ρ
abbrev fsD (fs : Rows) : Option O := some (.frz (.lst (fs.map rowD)))
abbrev bkD (fs : Rows) : Option O := some (.frz (gD (grt fs)))
theorem k28 {fs : Rows} (h : ∀ n ∈ fs, n ≠ [] ∧ n.length ≤ lineN) (hl : fs.length < 64) : Fp (defFn (G 17) 1 6 b_law_greatest) [.lst (fs.map rowD)] (gD (grt fs)) := law_greatest_ok (Γ := G 17) rfl hl (fun n hn => (h n hn).1) fun n hn => (h n hn).2
theorem stepA (ns : List Int) : ∃ fs p, FF fs ∧ Inv 41 p ∧ RUN 0 (lawSt D.d ns) = RUN 3 ⟨lS (fsD fs) (bkD fs) none none none none none none none none none none none, p⟩ := by
  have I0 : Inv 0 (lawSt D.d ns).pen := inv_pen0 ns
  have l := l64
  -- the faces
  have ha : EvRs D.gam 0 2 [.v 1, .bin .Add (.c (.int 3)) (.call 21 [.v 1, .c (.int 4)]), .bin .Add (.c (.int 1)) (.call 21 [.v 1, .c (.int 5)]), .c (.int 3)] (lawSt D.d ns) (fun ds => ∃ c m : Nat, ds = [.pen, .int (c : Nat), .int (m : Nat), .int (3 : Nat)] ∧ 3 ≤ c ∧ c ≤ 6 ∧ 1 ≤ m ∧ m ≤ 5) := by
    refine rs_mono (rs_cons (ex_d (ed_v (i := 1) (d := .pen) rfl)) (rs_consR (k := 0) (c := 1) (c' := 1) (R := fun d => ∃ c : Nat, d = .int (c : Nat) ∧ 3 ≤ c ∧ c ≤ 6) (R' := fun _ ds => ∃ m : Nat, ds = [.int (m : Nat), .int (3 : Nat)] ∧ 1 ≤ m ∧ m ≤ 5) ?_ fun d p' _ I => ?_)) (Nat.le_refl _) ?_
    · refine er_addL ed_ci (er_mono (er_call (g := 21) rfl (es_cons (ed_v (i := 1) (d := .pen) rfl) (es_cons (ed_ci (i := 4)) es_nil)) (kDraw 4 (by decide) (by decide)) (by decide) I0) (Nat.le_refl _) ?_)
      rintro d ⟨i, rfl, i0, i1⟩
      refine ⟨i, rfl, 3 + i.toNat, ?_, by omega, by omega⟩
      congr 1
      omega
    · refine rs_mono (rs_consR (k := 1) (c := 1) (c' := 0) (R := fun d => ∃ m : Nat, d = .int (m : Nat) ∧ 1 ≤ m ∧ m ≤ 5) (R' := fun _ ds => ds = [.int (3 : Nat)]) ?_ fun d p' _ I => rs_ds (es_cons ed_ci es_nil) I) (Nat.le_refl _) ?_
      · refine er_addL ed_ci (er_mono (er_call (g := 21) rfl (es_cons (ed_v (i := 1) (d := .pen) rfl) (es_cons (ed_ci (i := 5)) es_nil)) (kDraw 5 (by decide) (by decide)) (by decide) I) (Nat.le_refl _) ?_)
        rintro d ⟨i, rfl, i0, i1⟩
        refine ⟨i, rfl, 1 + i.toNat, ?_, by omega, by omega⟩
        congr 1
        omega
      · rintro ds ⟨d, ds', rfl, ⟨m, rfl, h1, h2⟩, rfl⟩
        exact ⟨m, rfl, h1, h2⟩
    · rintro ds ⟨ds', rfl, d, ds'', rfl, ⟨c, rfl, h1, h2⟩, m, rfl, h3, h4⟩
      exact ⟨c, m, rfl, h1, h2, h3, h4⟩
  have hc := er_callR (g := 24) (Γ := D.gam) (fn := defFn (G 15) 4 7 b_law_faces) (c' := 38) (R' := fun d => ∃ ns : Rows, d = .lst (ns.map rowD) ∧ ns ≠ [] ∧ ns.length ≤ 5 ∧ ∀ n ∈ ns, Face n ∧ ∀ x ∈ n, x < 8) rfl ha (fun ds hd => by
    obtain ⟨c, m, rfl, h1, h2, h3, h4⟩ := hd
    refine (kFaces (c := c) (m := m) (t := 3) (by omega) (by omega) (by decide) (by decide) (by omega)).mono ?_ ?_
    · have : m * (c + 1) ≤ 5 * 7 := Nat.mul_le_mul h4 (by omega)
      omega
    · rintro d ⟨ns, rfl, hl, hB⟩
      exact ⟨ns, rfl, fun e => by rw [e] at hl; simp at hl; omega, by omega, fun n hn => below_face (by omega) (hB n hn)⟩) (by decide)
  obtain ⟨d, p1, e1, I1, fs0, rfl, ne, l5, hF⟩ := ss_setR (i := 2) (ss := blaw.drop 1) hc
  -- one told twice
  have hp := er_pick (Γ := D.gam) (g := 22) (i := 1) (k := 40) (fn := defFn (G 13) 2 2 b_law_pick) (ρ := ⟨lS (fsD fs0) none none none none none none none none none none none none, p1⟩) (xs := fs0.map rowD) (e := .v 2) rfl kPick rfl (ex_d (ed_v (i := 2) rfl)) (by
    intro e
    exact ne (List.map_eq_nil_iff.mp e)) (by rw [List.length_map]; omega) (by decide) I1
  obtain ⟨d, p2, e2, I2, hd⟩ := s_addR (Γ := D.gam) (i := 2) (a := .v 2) (xs := fs0.map rowD) (ed_v (i := 2) rfl) hp (by rw [List.length_map]; omega)
  obtain ⟨n, hn, rfl⟩ := List.mem_map.mp hd
  have ef : fs0.map rowD ++ [rowD n] = (fs0 ++ [n]).map rowD := by rw [List.map_append]; rfl
  rw [ef] at e2
  have F : FF (fs0 ++ [n]) := ⟨⟨fun m hm => by
    rcases List.mem_append.mp hm with q | q
    · exact (hF m q).1
    · rw [List.mem_singleton.mp q]; exact (hF n hn).1, by simp, by rw [List.length_append, List.length_singleton]; omega⟩, by rw [List.length_append, List.length_singleton]; omega, fun m hm => by
    rcases List.mem_append.mp hm with q | q
    · exact (hF m q).2
    · rw [List.mem_singleton.mp q]; exact (hF n hn).2⟩
  have h28 := k28 (fs := fs0 ++ [n]) (fun m hm => ⟨F.f.nn m hm, F.f.ln m hm⟩) (by have := F.l6; omega)
  refine ⟨fs0 ++ [n], p2, F, I2, ?_⟩
  refine e1.trans ((ss_ok e2).trans (ss_ok ?_))
  rw [evS, bndE (ev_callO (g := 28) (i := 2) rfl rfl h28)]
  rfl
theorem book3 {fs : Rows} (F : FF fs) (s4 s5 s6 s7 s8 s9 s10 s11 s12 s13 s14 : Option O) (p : Pen) (I : Inv 41 p) : ∃ p', Inv 42 p' ∧ RUN 3 ⟨lS (fsD fs) (bkD fs) s4 s5 s6 s7 s8 s9 s10 s11 s12 s13 s14, p⟩ = RUN 4 ⟨lS (fsD fs) (bkD fs) s4 s5 s6 s7 s8 s9 s10 s11 s12 s13 s14, p'⟩ := by
  have l := l64
  have l6 := F.l6
  have okr : okRepr (gD (grt fs)) = true := okr_rows (b := 3) (l := 3) (by decide) (by decide) (fun n hn => ⟨(F.g.f.f n hn).l3, fun c hc => by
    have := F.g.h8 n hn c hc
    have := (F.g.f.f n hn).lo c hc
    omega⟩) (by have := F.g.l6; omega)
  have lc := en_lc (Γ := D.gam) (ρ := ⟨lS (fsD fs) (bkD fs) s4 s5 s6 s7 s8 s9 s10 s11 s12 s13 s14, p⟩) (own := [18]) (tg := .nm 18) (kd := .seq) (es := [.v 2]) (ifs := []) (elt := .bi .list [.v 18]) (ds := fs.map rowD) (P := fun _ => true) (f := fun d => .own ((kids d).map O.frz)) (it_seq (el_lst (ed_v (i := 2) rfl))) (by rw [List.length_map]; omega) (by decide) (by simp) fun x hx X => by
    obtain ⟨n, hn, rfl⟩ := List.mem_map.mp hx
    exact ⟨[none, some (.frz .pen), fsD fs, bkD fs, s4, s5, s6, s7, s8, s9, s10, s11, s12, s13, s14, none, none, none, some (.frz (rowD n))], rfl, rfl, tq_nil, fun _ => ⟨eo_n (en_listT (ed_v (i := 18) rfl)), own_hasT _⟩⟩
  rw [filter_true, List.map_map] at lc
  have e3 : EvX D.gam (.lc [18] (.nm 18) .seq [.v 2] [] (.bi .list [.v 18])) ⟨lS (fsD fs) (bkD fs) s4 s5 s6 s7 s8 s9 s10 s11 s12 s13 s14, p⟩ (.lst (fs.map rowL)) := by
    obtain ⟨q1, q2⟩ := ds_lists fs
    have := ex_n (o := .own (fs.map fun n => O.own ((n.map DL.D.int).map O.frz))) lc (by rw [O.hasT]; exact q2)
    rw [O.d, q1] at this
    exact this
  have hl : EvX D.gam (.lst [.v 2, .bi .tuple [.v 2], .lc [18] (.nm 18) .seq [.v 2] [] (.bi .list [.v 18])]) ⟨lS (fsD fs) (bkD fs) s4 s5 s6 s7 s8 s9 s10 s11 s12 s13 s14, p⟩ (.lst [.lst (fs.map rowD), .tup (fs.map rowD), .lst (fs.map rowL)]) := ex_lst (es_cons (ed_v (i := 2) rfl) (es_cons (ed_tupL (ed_v (i := 2) rfl)) (es_consX e3 es_nil))) (show 3 ≤ lineN by decide)
  have hp := er_pick (Γ := D.gam) (g := 22) (i := 1) (k := 41) (fn := defFn (G 13) 2 2 b_law_pick) (ρ := ⟨lS (fsD fs) (bkD fs) s4 s5 s6 s7 s8 s9 s10 s11 s12 s13 s14, p⟩) rfl kPick rfl hl (by simp) (by show 3 ≤ 100000; decide) (by decide) I
  have hb := er_callR (Γ := D.gam) (g := 14) (fn := defFn (G 6) 1 1 bbook_of) (c' := 0) (R' := (· = gD (grt fs))) rfl (rs_one hp) (fun ds hd => by
    obtain ⟨d, rfl, hd⟩ := hd
    obtain ⟨r1, r2, r3⟩ := in_rows F.f
    refine fp_spec (book_of_ok F.f ?_)
    simp only [List.mem_cons, List.not_mem_nil, or_false] at hd
    rcases hd with rfl | rfl | rfl
    · exact r2
    · exact r1
    · exact r3) (by decide)
  obtain ⟨p', et, I'⟩ := er_same hb (fun q => ew_d (ed_v (i := 3) rfl)) okr
  exact ⟨p', I', ss_ifT_no et⟩
/-- is_book of a list -/
theorem is_book_lst (xs : List DL.D) : Fp (defFn (G 8) 1 2 bis_book) [.lst xs] (.bl false) := fun p => by kernel_rfl
theorem book4 {fs : Rows} (F : FF fs) (s4 s5 s6 s7 s8 s9 s10 s11 s12 s13 s14 : Option O) (p : Pen) : RUN 4 ⟨lS (fsD fs) (bkD fs) s4 s5 s6 s7 s8 s9 s10 s11 s12 s13 s14, p⟩ = RUN 5 ⟨lS (fsD fs) (bkD fs) s4 s5 s6 s7 s8 s9 s10 s11 s12 s13 s14, p⟩ := by
  have h := is_book_ok F.g.f
  rw [decide_eq_true (grt_grt fs)] at h
  refine ss_if_no (eb_or (c := false) (d := false) (eb_bl (ed_cmp (x := .bl true) (y := .bl true) (ed_call (g := 16) rfl (es_cons (ed_v (i := 3) rfl) es_nil) h) ed_c rfl)) (fun _ => eb_bl (ed_cmp (x := .bl false) (y := .bl false) (ed_call (g := 16) rfl (es_consX (ex_own (en_listT (ed_v (i := 3) rfl))) es_nil) (is_book_lst _)) ed_c rfl)) rfl)
end Law

set_option Elab.async false
set_option linter.all false
set_option maxRecDepth 100000
set_option maxHeartbeats 0
/-! KP26: law_k80: the law, further. -/
namespace Law
open PySem DL
def isbF : Fn := defFn (G 8) 1 2 bis_book
def Lap (g : Rows) (v : DL.D) : Prop := ∃ b, Fp isbF [v] (.bl b) ∧ cmpO .Eq v (.frz (gD g)) = some b
theorem lap_rows {ns g : Rows} (h : Faces ns) (e : grt ns = g) : Lap g (.tup (ns.map rowD)) := by
  refine ⟨decide (ns = g), ?_, cmp_eq_rows ns g⟩
  have := is_book_ok h
  rw [e] at this
  have e2 : decide (g = ns) = decide (ns = g) := decide_eq_decide.mpr eq_comm
  rw [e2] at this
  exact this
theorem isface_rows {g : Rows} (ne : g ≠ []) (hl : g.length ≤ 60) : Fp isfF [.tup (g.map rowD)] (.bl false) := by
  have l := l64
  have hl2 : (g.map rowD).length = g.length := List.length_map _
  have hg : g.length ≠ 0 := fun e => ne (List.length_eq_zero_iff.mp e)
  refine fp_of rfl fun p => ?_
  apply Exists.intro
  by_cases h5 : g.length ≤ 5
  · refine (ss_if_no (eb_or (c := false) (d := false) (eb_not (c := true) (eb_bl (ed_isa (ed_v (i := 0) (d := .tup (g.map rowD)) rfl) rfl))) (fun _ => eb_not (c := true) (eb_bl (ed_cmp2 (t := true) (u := true) ed_ci (ed_len (ed_v (i := 0) rfl)) ?_ (fun _ => ed_kst rfl) (fun _ => ?_) (fun z => nomatch z)))) rfl)).trans ?_
    · show some (decide ((1 : Int) ≤ ((g.map rowD).length : Nat))) = _
      rw [hl2, decide_eq_true (by omega)]
    · show some (decide (((g.map rowD).length : Int) ≤ 5)) = _
      rw [hl2, decide_eq_true (by omega)]
    · have h := ed_allC (Γ := G 2) (ρ := ⟨[some (.frz (.tup (g.map rowD))), none, none], p⟩) (own := [2]) (tg := .nm 2) (kd := .seq) (es := [.v 0]) (elt := .and (.call 8 [.v 2]) (.cmp2 .LtE .LtE (.c (.int 0)) (.v 2) (.c (.int 99)))) (ds := g.map rowD) (q := fun _ => false) (it_seq (el_tup (ed_v rfl))) (by rw [hl2]; omega) (by decide) (by simp) fun d hd X => by
        obtain ⟨n, _, rfl⟩ := List.mem_map.mp hd
        refine ⟨[some (.frz (.tup (g.map rowD))), none, some (.frz (rowD n))], rfl, rfl, ?_⟩
        exact ed_and (t := false) (x := .bl false) (ed_call (g := 8) (fn := defFn (G 0) 1 1 wholeB) rfl (es_cons (ed_v rfl) es_nil) (whole_ok (d := rowD n) rfl)) rfl (fun z => nomatch z) (fun _ => rfl)
      have e : (g.map rowD).all (fun _ => false) = false := by
        cases g with
        | nil => exact absurd rfl ne
        | cons n g => rfl
      rw [e] at h
      exact ss_if_ret (eb_not (c := false) (eb_bl h)) (ss_ret ed_c)
  · refine ss_if_ret (eb_or (c := false) (d := true) (eb_not (c := true) (eb_bl (ed_isa (ed_v (i := 0) (d := .tup (g.map rowD)) rfl) rfl))) (fun _ => eb_not (c := false) (eb_bl (ed_cmp2 (t := true) (u := false) ed_ci (ed_len (ed_v (i := 0) rfl)) ?_ (fun _ => ed_kst rfl) (fun _ => ?_) (fun z => nomatch z)))) rfl) (ss_ret ed_c)
    · show some (decide ((1 : Int) ≤ ((g.map rowD).length : Nat))) = _
      rw [hl2, decide_eq_true (by omega)]
    · show some (decide (((g.map rowD).length : Int) ≤ 5)) = _
      rw [hl2, decide_eq_false (by omega)]
theorem lap_book {g : Rows} (F : FF g) : Lap g (.tup [gD g]) := by
  have l6 := F.l6
  refine ⟨false, ?_, ?_⟩
  · refine fp_of rfl fun p => ?_
    apply Exists.intro
    refine ss_if_ret (eb_or (c := false) (d := true) (eb_not (c := true) (eb_bl (ed_isa (ed_v (i := 0) (d := .tup [gD g]) rfl) rfl))) (fun _ => eb_or (c := false) (d := true) (eb_bl (ed_cmp (ed_len (ed_v (i := 0) rfl)) ed_ci rfl)) (fun _ => eb_not (c := false) (eb_bl ?_)) rfl) rfl) (ss_ret ed_c)
    have hh := ed_allC (Γ := G 8) (ρ := ⟨[some (.frz (.tup [gD g])), none], p⟩) (own := [1]) (tg := .nm 1) (kd := .seq) (es := [.v 0]) (elt := .call 10 [.v 1]) (ds := [gD g]) (q := fun _ => false) (it_seq (el_tup (ed_v (i := 0) rfl))) (show 1 ≤ lineN by decide) (by decide) (by simp) fun x hx X => by
      rw [List.mem_singleton.mp hx]
      exact ⟨[some (.frz (.tup [gD g])), some (.frz (gD g))], rfl, rfl, ed_call (fn := isfF) rfl (es_cons (ed_v (i := 1) rfl) es_nil) (isface_rows F.f.ne (by omega))⟩
    exact hh
  · have d3 := depth_rows g
    have pl := plains_rows g
    have ok2 : okEq (.tup [gD g]) = true := by
      have hd : (DL.D.tup [gD g]).py.depth ≤ deepN := by
        have : (8 : Nat) ≤ deepN := by decide
        simp only [D.py, D.pys, PyData.depth, PyData.depthAll]
        omega
      have hp : (DL.D.tup [gD g]).plain = true := by
        simp only [D.plain, D.plains, pl, Bool.and_true]
      unfold okEq
      rw [hp, decide_eq_true hd]; rfl
    show (if okEq (.tup [gD g]) && okEq (gD g) then some (PyData.eqv (DL.D.tup [gD g]).py (gD g).py) else none) = _
    rw [ok2, (okEq_rows g).2]
    have nn := F.f.nn
    have ne := F.f.ne
    have e : PyData.eqv (DL.D.tup [gD g]).py (gD g).py = false := by
      cases g with
      | nil => exact absurd rfl ne
      | cons n g =>
        cases n with
        | nil => exact absurd rfl (nn [] (List.mem_cons_self ..))
        | cons i n =>
          simp [gD, rowD, D.py, D.pys, PyData.eqv, PyData.eqvAll]
    rw [e]; rfl
theorem laps {g : Rows} (F : FF g) : Lap g (.tup (([] : Rows).map rowD)) ∧ Lap g .non ∧ Lap g (.tup (([[1, 0]] : Rows).map rowD)) ∧ Lap g (.tup ((g ++ g.take 1).map rowD)) = Lap g (.tup ((g ++ g.take 1).map rowD)) := by
  refine ⟨⟨false, fun p => by kernel_rfl, ?_⟩, ⟨false, fun p => by kernel_rfl, ?_⟩, ⟨false, fun p => by kernel_rfl, ?_⟩, rfl⟩
  · rw [cmp_eq_rows, decide_eq_false (fun e => F.f.ne e.symm)]
  · show (if okEq .non && okEq (gD g) then some (PyData.eqv DL.D.non.py (gD g).py) else none) = _
    rw [(okEq_rows g).2]
    have e : PyData.eqv DL.D.non.py (gD g).py = false := by simp only [D.py, PyData.eqv]
    rw [e]; rfl
  · rw [cmp_eq_rows, decide_eq_false (fun e => ?_)]
    have h := (F.f.f [1, 0] (by rw [← e]; exact List.mem_singleton.mpr rfl)).asc
    simp at h
theorem lap_twice {g : Rows} (F : FF g) (hb : grt g = g) : Lap g (.tup ((g ++ g.take 1).map rowD)) := by
  refine lap_rows ⟨fun n hn => ?_, ?_, ?_⟩ ?_
  · rcases List.mem_append.mp hn with q | q
    · exact F.f.f n q
    · exact F.f.f n (List.mem_of_mem_take q)
  · intro e
    exact F.f.ne (List.append_eq_nil_iff.mp e).1
  · have := F.l6
    rw [List.length_append, List.length_take]; omega
  · refine (grt_congr fun x => ?_).trans hb
    rw [List.mem_append]
    exact ⟨fun q => q.elim id List.mem_of_mem_take, .inl⟩
theorem lap_rev {g : Rows} (F : FF g) (hb : grt g = g) : Lap g (.tup (g.reverse.map rowD)) := by
  refine lap_rows ⟨fun n hn => F.f.f n (List.mem_reverse.mp hn), ?_, ?_⟩ ?_
  · intro e
    exact F.f.ne (List.reverse_eq_nil_iff.mp e)
  · have := F.l6
    rw [List.length_reverse]; omega
  · exact (grt_congr fun x => List.mem_reverse).trans hb
theorem lap_loop {g : Rows} {f : Option O} {s5 s6 s7 s8 s9 s10 s11 s12 s13 s14 : Option O} {p : Pen} : ∀ (vs : List DL.D) (s4 : Option O), (∀ v ∈ vs, Lap g v) → ∃ s4', forF (.nm 4) (evSs D.gam [.iff (.tv (.cmp .NotEq (.bi .repr [.call 16 [.v 4]]) (.bi .repr [.cmp .Eq (.v 4) (.v 3)]))) [.ret (.c (.bl false))] []]) vs ⟨lS f (some (.frz (gD g))) s4 s5 s6 s7 s8 s9 s10 s11 s12 s13 s14, p⟩ = .ok .nx ⟨lS f (some (.frz (gD g))) s4' s5 s6 s7 s8 s9 s10 s11 s12 s13 s14, p⟩
  | [], s4, _ => ⟨s4, rfl⟩
  | v :: vs, s4, h => by
    obtain ⟨s4', e⟩ := lap_loop (g := g) (f := f) (s5 := s5) (s6 := s6) (s7 := s7) (s8 := s8) (s9 := s9) (s10 := s10) (s11 := s11) (s12 := s12) (s13 := s13) (s14 := s14) (p := p) vs (some (.frz v)) fun w hw => h w (List.mem_cons_of_mem _ hw)
    obtain ⟨b, h1, h2⟩ := h v (List.mem_cons_self ..)
    refine ⟨s4', for_cons (ρ1 := ⟨lS f (some (.frz (gD g))) (some (.frz v)) s5 s6 s7 s8 s9 s10 s11 s12 s13 s14, p⟩) rfl ?_ e⟩
    refine (ss_if_no (eb_same (d := .bl b) (ew_d (ed_call (g := 16) (fn := isbF) rfl (es_cons (ed_v (i := 4) rfl) es_nil) h1)) (ew_d (ed_cmp (ed_v (i := 4) rfl) (ed_v (i := 3) rfl) h2)) okr_bl)).trans ?_
    rw [evSs]; rfl
theorem book5 {fs : Rows} (F : FF fs) (s4 s5 s6 s7 s8 s9 s10 s11 s12 s13 s14 : Option O) (p : Pen) : ∃ s4', RUN 5 ⟨lS (fsD fs) (bkD fs) s4 s5 s6 s7 s8 s9 s10 s11 s12 s13 s14, p⟩ = RUN 6 ⟨lS (fsD fs) (bkD fs) s4' s5 s6 s7 s8 s9 s10 s11 s12 s13 s14, p⟩ := by
  have l := l64
  have l6 := F.g.l6
  have hb := grt_grt fs
  obtain ⟨q1, q2, q3, _⟩ := laps F.g
  obtain ⟨s4', e⟩ := lap_loop (g := grt fs) (f := fsD fs) (s5 := s5) (s6 := s6) (s7 := s7) (s8 := s8) (s9 := s9) (s10 := s10) (s11 := s11) (s12 := s12) (s13 := s13) (s14 := s14) (p := p) [.tup (fs.map rowD), .tup ((grt fs ++ (grt fs).take 1).map rowD), .tup ((grt fs).reverse.map rowD), .tup (([] : Rows).map rowD), .non, .tup (([[1, 0]] : Rows).map rowD), .tup [gD (grt fs)]] s4 (all_cons (lap_rows F.f rfl) (all_cons (lap_twice F.g hb) (all_cons (lap_rev F.g hb) (all_cons q1 (all_cons q2 (all_cons q3 (all_cons (lap_book F.g) all_nil)))))))
  refine ⟨s4', ss_for (it_seq (el_n (en_lst (es_cons (ed_tupL (ed_v (i := 2) rfl)) (es_cons ?_ (es_cons ?_ (es_cons (ed_tup es_nil (Nat.zero_le _)) (es_cons ed_c (es_cons (ed_tup (es_cons (ed_tup (es_cons ed_ci (es_cons ed_ci es_nil)) (show 2 ≤ lineN by decide)) es_nil) (show 1 ≤ lineN by decide)) (es_cons (ed_tup (es_cons (ed_v (i := 3) rfl) es_nil) (show 1 ≤ lineN by decide)) es_nil))))))) (show 7 ≤ lineN by decide)))) e⟩
  · have h := ed_addT (Γ := D.gam) (ρ := ⟨lS (fsD fs) (bkD fs) s4 s5 s6 s7 s8 s9 s10 s11 s12 s13 s14, p⟩) (ed_v (i := 3) (d := gD (grt fs)) rfl) (ed_cutHi (k := 1) (ed_v (i := 3) (d := gD (grt fs)) rfl) ed_ci rfl) (by
      rw [List.length_take, List.length_map]; omega)
    rw [← List.map_take, ← List.map_append] at h
    exact h
  · have h := ed_revT (Γ := D.gam) (ρ := ⟨lS (fsD fs) (bkD fs) s4 s5 s6 s7 s8 s9 s10 s11 s12 s13 s14, p⟩) (ed_v (i := 3) (d := gD (grt fs)) rfl)
    rw [← List.map_reverse] at h
    exact h
end Law

set_option Elab.async false
set_option linter.all false
set_option maxRecDepth 100000
set_option maxHeartbeats 0
/-! KP27: law_k80: the law, to the tries. -/
namespace Law
open PySem DL
theorem row_ok {fs : Rows} (F : ∀ n ∈ fs, Face n ∧ ∀ c ∈ n, c < 8) : ∀ n ∈ fs, n.length ≤ 3 ∧ ∀ c ∈ n, c.natAbs < 2 ^ 3 := fun n hn => ⟨(F n hn).1.l3, fun c hc => by
  have := (F n hn).2 c hc
  have := (F n hn).1.lo c hc
  omega⟩
theorem book6 {g : DL.D} (f s4 s5 s6 s7 s8 s9 s10 s11 s12 s13 s14 : Option O) (p : Pen) (I : Inv 42 p) : ∃ m p', (Face m ∧ ∀ c ∈ m, c < 8) ∧ Inv 60 p' ∧ RUN 6 ⟨lS f (some (.frz g)) s4 s5 s6 s7 s8 s9 s10 s11 s12 s13 s14, p⟩ = RUN 7 ⟨lS f (some (.frz g)) s4 (some (.frz (rowD m))) s6 s7 s8 s9 s10 s11 s12 s13 s14, p'⟩ := by
  have hc := er_call (Γ := D.gam) (g := 24) (k := 42) (ρ := ⟨lS f (some (.frz g)) s4 s5 s6 s7 s8 s9 s10 s11 s12 s13 s14, p⟩) (es := [.v 1, .c (.int 8), .c (.int 1), .c (.int 3)]) rfl (es_cons (ed_v (i := 1) (d := .pen) rfl) (es_cons (ed_ci (i := ((8 : Nat) : Int))) (es_cons (ed_ci (i := ((1 : Nat) : Int))) (es_cons (ed_ci (i := ((3 : Nat) : Int))) es_nil)))) (kFaces (c := 8) (m := 1) (t := 3) (by decide) (by decide) (by decide) (by decide) (by decide)) (by decide) I
  have hx := er_ix0 (R := fun d => ∃ m, d = rowD m ∧ Face m ∧ ∀ c ∈ m, c < 8) (er_mono hc (c' := 18) (by decide) (by
    rintro d ⟨ns, rfl, hl, hB⟩
    match ns, hl with
    | [m], _ => exact ⟨rowD m, [], rfl, m, rfl, below_face (by decide) (hB m (List.mem_singleton.mpr rfl))⟩))
  obtain ⟨d, p', e, I', m, rfl, hm⟩ := ss_setR (i := 5) (ss := blaw.drop 7) hx
  exact ⟨m, p', hm, I', e⟩
theorem book7 {fs : Rows} (F : FF fs) {m : List Int} (hm : Face m ∧ ∀ c ∈ m, c < 8) (s4 s6 s7 s8 s9 s10 s11 s12 s13 s14 : Option O) (p : Pen) (I : Inv 60 p) : ∃ p', Inv 61 p' ∧ RUN 7 ⟨lS (fsD fs) (bkD fs) s4 (some (.frz (rowD m))) s6 s7 s8 s9 s10 s11 s12 s13 s14, p⟩ = RUN 8 ⟨lS (fsD fs) (bkD fs) s4 (some (.frz (rowD m))) s6 s7 s8 s9 s10 s11 s12 s13 s14, p'⟩ := by
  have l := l64
  have l6 := F.g.l6
  have hb := grt_grt fs
  have FS := F.g.f.snoc l6 hm.1
  have okr : okRepr (gD (grt (grt fs ++ [m]))) = true := okr_rows (b := 3) (l := 3) (by decide) (by decide) (row_ok fun n hn => by
    have h1 := ((mem_grt _ n).mp hn).1
    rcases List.mem_append.mp h1 with q | q
    · exact ⟨F.g.f.f n q, F.g.h8 n q⟩
    · rw [List.mem_singleton.mp q]; exact hm) (by
      have := FS.grt.l7
      omega)
  have hlm : m.length ≤ lineN := by have := hm.1.l3; omega
  have hl : ∀ q : Pen, EvX D.gam (.bi .list [.v 5]) ⟨lS (fsD fs) (bkD fs) s4 (some (.frz (rowD m))) s6 s7 s8 s9 s10 s11 s12 s13 s14, q⟩ (rowL m) := fun q => ex_own (en_listT (ed_v (i := 5) rfl))
  have hp := er_pick (Γ := D.gam) (g := 22) (i := 1) (k := 60) (fn := defFn (G 13) 2 2 b_law_pick) (ρ := ⟨lS (fsD fs) (bkD fs) s4 (some (.frz (rowD m))) s6 s7 s8 s9 s10 s11 s12 s13 s14, p⟩) (e := .lst [.v 3, .bi .list [.v 3]]) (xs := [gD (grt fs), .lst ((grt fs).map rowD)]) rfl kPick rfl (ex_lst (es_cons (ed_v (i := 3) rfl) (es_consX (ex_own (en_listT (ed_v (i := 3) rfl))) es_nil)) (show 2 ≤ lineN by decide)) (by simp) (by show 2 ≤ 100000; decide) (by decide) I
  have hw := er_callR (Γ := D.gam) (g := 18) (fn := defFn (G 10) 2 4 bwith_face) (c' := 0) (R' := (· = gD (grt (grt fs ++ [m])))) rfl (rs_consR hp fun d p' _ I' => (⟨[rowL m], p', by
      have h := hl p'
      unfold EvX at h
      rw [evs, bndL, bndE h, evs]; rfl, I', rfl⟩ : EvRs D.gam 61 0 [.bi .list [.v 5]] ⟨lS (fsD fs) (bkD fs) s4 (some (.frz (rowD m))) s6 s7 s8 s9 s10 s11 s12 s13 s14, p'⟩ (· = [rowL m]))) (fun ds hd => by
    obtain ⟨d, ds', rfl, hd, rfl⟩ := hd
    obtain ⟨r1, r2, r3⟩ := in_rows F.g.f
    have rm := (in_row (lam := fun _ => none) (C := C) (f := din_tuples) (T := tb 1) rfl rfl rfl hlm).2
    refine fp_spec (with_face_ok F.g.f l6 hb ?_ hm.1 rm)
    simp only [List.mem_cons, List.not_mem_nil, or_false] at hd
    rcases hd with rfl | rfl
    · exact r1
    · exact r2) (by decide)
  have h28 : ∀ q : Pen, EvW D.gam (.call 28 [.bin .Add (.bi .list [.v 3]) (.lst [.v 5])]) ⟨lS (fsD fs) (bkD fs) s4 (some (.frz (rowD m))) s6 s7 s8 s9 s10 s11 s12 s13 s14, q⟩ (gD (grt (grt fs ++ [m]))) := fun q => by
    have h := ex_own (en_addL (Γ := D.gam) (ρ := ⟨lS (fsD fs) (bkD fs) s4 (some (.frz (rowD m))) s6 s7 s8 s9 s10 s11 s12 s13 s14, q⟩) (ex_own (en_listT (ed_v (i := 3) (d := gD (grt fs)) rfl))) (ex_lst (es_cons (ed_v (i := 5) (d := rowD m) rfl) es_nil) (show 1 ≤ lineN by decide)) (by
      rw [List.length_map, List.length_singleton]; omega))
    have e : (grt fs).map rowD ++ [rowD m] = (grt fs ++ [m]).map rowD := by rw [List.map_append]; rfl
    rw [e] at h
    exact ew_d (ed_call (g := 28) rfl (es_consX h es_nil) (k28 (fun n hn => ⟨FS.nn n hn, FS.ln n hn⟩) (by have := FS.l7; omega)))
  obtain ⟨p', et, I'⟩ := er_same hw h28 okr
  exact ⟨p', I', ss_ifT_no et⟩
/-- all parts of the book's faces -/
def parts (g : Rows) : Rows := (lvls g).flatMap (lvl g)
theorem parts_len {g : Rows} (h : Faces g) : (parts g).length < 64 := by
  have h3 : ∀ n ∈ g, n.length ≤ 3 := fun n hn => (h.f n hn).l3
  have kl : (lvls g).length ≤ 3 := by
    unfold lvls
    rw [List.length_map, List.length_range]
    have := (top_bd h.ne (fun n hn => (h.f n hn).l1) h3).2
    omega
  have sum : ∀ ks : List Nat, (ks.flatMap (lvl g)).length ≤ 21 * ks.length := by
    intro ks
    induction ks with
    | nil => simp
    | cons k ks ih =>
      rw [List.flatMap_cons, List.length_append, List.length_cons]
      have := lvl_len g k h3
      have := h.l7
      omega
  have := sum (lvls g)
  unfold parts
  omega
theorem parts_mem {g : Rows} {r : List Int} (h : r ∈ parts g) : ∃ n ∈ g, r.Sublist n ∧ 1 ≤ r.length := by
  obtain ⟨k, hk, q⟩ := List.mem_flatMap.mp h
  obtain ⟨n, hn, s, e⟩ := (mem_lvl g k r).mp q
  unfold lvls at hk
  obtain ⟨j, _, rfl⟩ := List.mem_map.mp hk
  exact ⟨n, hn, s, by omega⟩
theorem parts_face {g : Rows} (F : FF g) {r : List Int} (h : r ∈ parts g) : (Face r ∧ ∀ c ∈ r, c < 8) ∧ ∃ n ∈ g, inR r n = true := by
  obtain ⟨n, hn, s, l1⟩ := parts_mem h
  have f := F.f.f n hn
  have sub := s.subset
  refine ⟨⟨⟨l1, Nat.le_trans s.length_le f.l3, f.asc.sublist s, fun c hc => f.lo c (sub hc), fun c hc => f.hi c (sub hc)⟩, fun c hc => F.h8 n hn c (sub hc)⟩, n, hn, ?_⟩
  exact List.all_eq_true.mpr fun c hc => decide_eq_true (sub hc)
theorem parts_ne {g : Rows} (h : Faces g) : parts g ≠ [] := by
  have h3 : ∀ n ∈ g, n.length ≤ 3 := fun n hn => (h.f n hn).l3
  have h1 : ∀ n ∈ g, 1 ≤ n.length := fun n hn => (h.f n hn).l1
  obtain ⟨t1, t3⟩ := top_bd h.ne h1 h3
  have k1 : 1 ∈ lvls g := by
    unfold lvls
    exact List.mem_map.mpr ⟨0, List.mem_range.mpr (by omega), rfl⟩
  obtain ⟨n, hn⟩ := List.exists_mem_of_ne_nil g h.ne
  have ln := h1 n hn
  cases n with
  | nil => simp at ln
  | cons c n => exact List.ne_nil_of_mem (List.mem_flatMap.mpr ⟨1, k1, (mem_lvl g 1 [c]).mpr ⟨c :: n, hn, List.singleton_sublist.mpr (List.mem_cons_self ..), rfl⟩⟩)
theorem parts_loop {g : Rows} {f b s4 s5 s8 s9 s10 s11 s12 s13 s14 : Option O} {p : Pen} : ∀ (ks : List Nat) (acc : Rows) (s7 : Option O), (acc ++ ks.flatMap (lvl g)).length ≤ 1000 → ∃ s7', forF (.nm 7) (evSs D.gam [.set 6 (.bin .Add (.v 6) (.v 7))]) (ks.map (lvD g)) ⟨lS f b s4 s5 (some (.own ((acc.map rowD).map O.frz))) s7 s8 s9 s10 s11 s12 s13 s14, p⟩ = .ok .nx ⟨lS f b s4 s5 (some (.own (((acc ++ ks.flatMap (lvl g)).map rowD).map O.frz))) s7' s8 s9 s10 s11 s12 s13 s14, p⟩
  | [], acc, s7, _ => ⟨s7, by rw [List.flatMap_nil, List.append_nil]; rfl⟩
  | k :: ks, acc, s7, hl => by
    have l6 : (1000 : Nat) ≤ lineN := by decide
    rw [List.flatMap_cons, ← List.append_assoc] at hl ⊢
    obtain ⟨s7', e⟩ := parts_loop (g := g) (f := f) (b := b) (s4 := s4) (s5 := s5) (s8 := s8) (s9 := s9) (s10 := s10) (s11 := s11) (s12 := s12) (s13 := s13) (s14 := s14) (p := p) ks (acc ++ lvl g k) (some (.frz (lvD g k))) hl
    refine ⟨s7', for_cons (ρ1 := ⟨lS f b s4 s5 (some (.own ((acc.map rowD).map O.frz))) (some (.frz (lvD g k))) s8 s9 s10 s11 s12 s13 s14, p⟩) rfl ?_ e⟩
    have h := s_growD (Γ := D.gam) (ρ := ⟨lS f b s4 s5 (some (.own ((acc.map rowD).map O.frz))) (some (.frz (lvD g k))) s8 s9 s10 s11 s12 s13 s14, p⟩) (i := 6) (ds := acc.map rowD) (fs := (lvl g k).map rowD) (e := .v 7) rfl (ed_v (i := 7) rfl) (by
      rw [List.length_append, List.length_append] at hl
      rw [List.length_map, List.length_map]; omega)
    rw [← List.map_append] at h
    refine (ss_ok h).trans ?_
    rw [evSs]; rfl
theorem book8 {fs : Rows} (F : FF fs) (s4 s5 s6 s7 s8 s9 s10 s11 s12 s13 s14 : Option O) (p : Pen) : ∃ s7', RUN 8 ⟨lS (fsD fs) (bkD fs) s4 s5 s6 s7 s8 s9 s10 s11 s12 s13 s14, p⟩ = RUN 10 ⟨lS (fsD fs) (bkD fs) s4 s5 (some (.own (((parts (grt fs)).map rowD).map O.frz))) s7' s8 s9 s10 s11 s12 s13 s14, p⟩ := by
  obtain ⟨s7', e⟩ := parts_loop (g := grt fs) (f := fsD fs) (b := bkD fs) (s4 := s4) (s5 := s5) (s8 := s8) (s9 := s9) (s10 := s10) (s11 := s11) (s12 := s12) (s13 := s13) (s14 := s14) (p := p) (lvls (grt fs)) [] s7 (by
    have := parts_len F.g.f
    unfold parts at this
    rw [List.nil_append]; omega)
  rw [List.nil_append] at e
  refine ⟨s7', (ss_setO (eo_n (en_lst (ds := []) es_nil (Nat.zero_le _)))).trans (ss_for (it_seq (el_lst (ed_call (g := 25) (fn := defFn (G 16) 1 9 b_law_all_faces) rfl (es_consX (ex_own (en_listT (ed_v (i := 3) (d := gD (grt fs)) rfl))) es_nil) (law_all_faces_ok F.g.f)))) e)⟩
theorem book10 {g : Rows} (h : Faces g) (f b s4 s5 s7 s8 s9 s10 s11 s12 s13 s14 : Option O) (p : Pen) (I : Inv 61 p) : ∃ r p', r ∈ parts g ∧ Inv 62 p' ∧ RUN 10 ⟨lS f b s4 s5 (some (.own (((parts g).map rowD).map O.frz))) s7 s8 s9 s10 s11 s12 s13 s14, p⟩ = RUN 11 ⟨lS f b s4 s5 (some (.frz (.lst ((parts g).map rowD)))) s7 (some (.frz (rowD r))) s9 s10 s11 s12 s13 s14, p'⟩ := by
  have pl := parts_len h
  obtain ⟨d, p1, e1, I1, hd⟩ := kPick ((parts g).map rowD) (fun e => parts_ne h (List.map_eq_nil_iff.mp e)) (by rw [List.length_map]; omega) 61 (envOf D.gam.own ⟨lS f b s4 s5 (some (.frz (.lst ((parts g).map rowD)))) s7 s8 s9 s10 s11 s12 s13 s14, p⟩) (by decide) I.env
  obtain ⟨r, hr, rfl⟩ := List.mem_map.mp hd
  refine ⟨r, backP D.gam.own ⟨lS f b s4 s5 (some (.frz (.lst ((parts g).map rowD)))) s7 s8 s9 s10 s11 s12 s13 s14, p⟩ p1, hr, I1.back, ss_ok ?_⟩
  have h0 : evs D.gam [.v 1, .v 6] ⟨lS f b s4 s5 (some (.own (((parts g).map rowD).map O.frz))) s7 s8 s9 s10 s11 s12 s13 s14, p⟩ = .ok [.pen, .lst ((parts g).map rowD)] ⟨lS f b s4 s5 (some (.frz (.lst ((parts g).map rowD)))) s7 s8 s9 s10 s11 s12 s13 s14, p⟩ := by
    have h6 : evs D.gam [.v 6] ⟨lS f b s4 s5 (some (.own (((parts g).map rowD).map O.frz))) s7 s8 s9 s10 s11 s12 s13 s14, p⟩ = .ok [.lst ((parts g).map rowD)] ⟨lS f b s4 s5 (some (.frz (.lst ((parts g).map rowD)))) s7 s8 s9 s10 s11 s12 s13 s14, p⟩ := by
      rw [evs, ev, bndE (rd_ok (i := 6) rfl), bndE (esc_slot rfl), evs]; rfl
    rw [evs, ev, bndE (rd_ok (i := 1) (o := .frz .pen) rfl), bndE esc_frz, bndE h6]; rfl
  have h1 : ev D.gam (.call 22 [.v 1, .v 6]) ⟨lS f b s4 s5 (some (.own (((parts g).map rowD).map O.frz))) s7 s8 s9 s10 s11 s12 s13 s14, p⟩ = callFn D.gam.own (D.gam.fn 22) [.pen, .lst ((parts g).map rowD)] ⟨lS f b s4 s5 (some (.frz (.lst ((parts g).map rowD)))) s7 s8 s9 s10 s11 s12 s13 s14, p⟩ := by rw [ev, bndE h0]
  rw [evS, bndE (h1.trans (callFn_ok (fn := defFn (G 13) 2 2 b_law_pick) e1))]
  rfl
theorem left_parts (g : Rows) (r : List Int) : (parts g).filter (fun x => !inR r x) = leftG g r := by
  unfold parts leftG
  have key : ∀ ks : List Nat, (ks.flatMap (lvl g)).filter (fun x => !inR r x) = ks.flatMap (offG g r) := by
    intro ks
    induction ks with
    | nil => rfl
    | cons k ks ih => rw [List.flatMap_cons, List.flatMap_cons, List.filter_append, ih]; rfl
  exact key _
theorem book11 {g : Rows} (h : Faces g) {r : List Int} (hr : r.length ≤ 3) (f b s4 s5 s7 s9 s10 s11 s12 s13 s14 : Option O) (p : Pen) : RUN 11 ⟨lS f b s4 s5 (some (.frz (.lst ((parts g).map rowD)))) s7 (some (.frz (rowD r))) s9 s10 s11 s12 s13 s14, p⟩ = RUN 12 ⟨lS f b s4 s5 (some (.frz (.lst ((parts g).map rowD)))) s7 (some (.frz (rowD r))) (some (.own (((leftG g r).map rowD).map O.frz))) s10 s11 s12 s13 s14, p⟩ := by
  have l := l64
  have pl := parts_len h
  have hl := en_lc (Γ := D.gam) (ρ := ⟨lS f b s4 s5 (some (.frz (.lst ((parts g).map rowD)))) s7 (some (.frz (rowD r))) s9 s10 s11 s12 s13 s14, p⟩) (own := [15]) (tg := .nm 15) (kd := .seq) (es := [.v 6]) (ifs := [.tnot (.tv (.bi .all [.lc [17] (.nm 17) .seq [.v 8] [] (.cmp .In (.v 17) (.v 15))]))]) (elt := .v 15) (ds := (parts g).map rowD) (P := fun x => !inR r (rowOf x)) (f := O.frz) (it_seq (el_lst (ed_v (i := 6) rfl))) (by rw [List.length_map]; omega) (by decide) (by simp) fun x hx X => by
    obtain ⟨y, _, rfl⟩ := List.mem_map.mp hx
    rw [rowOf_row]
    refine ⟨[none, some (.frz .pen), f, b, s4, s5, some (.frz (.lst ((parts g).map rowD))), s7, some (.frz (rowD r)), s9, s10, s11, s12, s13, s14, some (.frz (rowD y)), none, none, none], rfl, rfl, tq_one (eb_not (eb_bl ?_)), fun _ => ⟨eo_d (ed_v (i := 15) rfl), rfl⟩⟩
    have h3 := ed_allC (Γ := D.gam) (ρ := ⟨[none, some (.frz .pen), f, b, s4, s5, some (.frz (.lst ((parts g).map rowD))), s7, some (.frz (rowD r)), s9, s10, s11, s12, s13, s14, some (.frz (rowD y)), none, none, none] ++ X, p⟩) (own := [17]) (tg := .nm 17) (kd := .seq) (es := [.v 8]) (elt := .cmp .In (.v 17) (.v 15)) (ds := r.map DL.D.int) (q := fun d => match d with | .int c => decide (c ∈ y) | _ => false) (it_seq (el_tup (ed_v (i := 8) rfl))) (by rw [List.length_map]; omega) (by decide) (by simp) fun z hz X3 => by
      obtain ⟨c, hc, rfl⟩ := List.mem_map.mp hz
      exact ⟨[none, some (.frz .pen), f, b, s4, s5, some (.frz (.lst ((parts g).map rowD))), s7, some (.frz (rowD r)), s9, s10, s11, s12, s13, s14, some (.frz (rowD y)), none, some (.frz (.int c)), none] ++ X, rfl, rfl, ed_cmp (ed_v (i := 17) rfl) (ed_v (i := 15) rfl) (cmp_in_row c y)⟩
    rw [List.all_map] at h3
    exact h3
  have ef : ((parts g).map rowD).filter (fun x => !inR r (rowOf x)) = (leftG g r).map rowD := by
    rw [← left_parts, List.filter_map]
    congr 1
    refine List.filter_congr fun x _ => ?_
    show (!inR r (rowOf (rowD x))) = _
    rw [rowOf_row]
  rw [ef] at hl
  exact ss_setO (eo_n hl)
theorem book12 {fs : Rows} (F : FF fs) {r : List Int} (hr : r ∈ parts (grt fs)) (s4 s5 s6 s7 s10 s11 s12 s13 s14 : Option O) (p : Pen) : ∃ s9', RUN 12 ⟨lS (fsD fs) (bkD fs) s4 s5 s6 s7 (some (.frz (rowD r))) (some (.own (((leftG (grt fs) r).map rowD).map O.frz))) s10 s11 s12 s13 s14, p⟩ = RUN 13 ⟨lS (fsD fs) (bkD fs) s4 s5 s6 s7 (some (.frz (rowD r))) s9' s10 s11 s12 s13 s14, p⟩ := by
  have l := l64
  have hb := grt_grt fs
  obtain ⟨hf, n, hn, hin⟩ := parts_face F.g hr
  have h3 : ∀ n ∈ grt fs, n.length ≤ 3 := fun n hn => (F.g.f.f n hn).l3
  have rm := (in_row (lam := fun _ => none) (C := C) (f := din_tuples) (T := tb 1) rfl rfl rfl (n := r) (by have := hf.1.l3; omega)).1
  have hw : EvD D.gam (.call 19 [.v 3, .v 8]) ⟨lS (fsD fs) (bkD fs) s4 s5 s6 s7 (some (.frz (rowD r))) (some (.own (((leftG (grt fs) r).map rowD).map O.frz))) s10 s11 s12 s13 s14, p⟩ (leftD (grt fs) r) := ed_call (g := 19) (fn := defFn (G 11) 2 7 bwithout_face) rfl (es_cons (ed_v (i := 3) rfl) (es_cons (ed_v (i := 8) rfl) es_nil)) (without_face_ok F.g.f hb (in_rows F.g.f).1 hf.1 rm ⟨n, hn, hin⟩)
  have ll := left_len F.g.f r
  have lr := left_row F.g.f r
  have okr : okRepr (leftD (grt fs) r) = true := by
    unfold leftD
    split
    · decide +kernel
    · refine okr_rows (b := 3) (l := 3) (by decide) (by decide) (row_ok fun x hx => ?_) ?_
      · have hx2 := ((mem_grt _ x).mp hx).1
        rw [← left_parts] at hx2
        exact (parts_face F.g (List.mem_filter.mp hx2).1).1
      · have h1 : (grt (leftG (grt fs) r)).length ≤ (rowsS (leftG (grt fs) r)).length := List.length_filter_le _ _
        have := rowsS_len (leftG (grt fs) r)
        omega
  have ht : EvB D.gam (.tv (.cmp .NotEq (.v 9) (.lst []))) ⟨lS (fsD fs) (bkD fs) s4 s5 s6 s7 (some (.frz (rowD r))) (some (.own (((leftG (grt fs) r).map rowD).map O.frz))) s10 s11 s12 s13 s14, p⟩ (!decide (leftG (grt fs) r = [])) := by
    have hv := ew_v (Γ := D.gam) (ρ := ⟨lS (fsD fs) (bkD fs) s4 s5 s6 s7 (some (.frz (rowD r))) (some (.own (((leftG (grt fs) r).map rowD).map O.frz))) s10 s11 s12 s13 s14, p⟩) (i := 9) rfl (own_hasT ((leftG (grt fs) r).map rowD))
    rw [own_d] at hv
    unfold EvW at hv
    unfold EvB
    have hc : ev D.gam (.cmp .NotEq (.v 9) (.lst [])) ⟨lS (fsD fs) (bkD fs) s4 s5 s6 s7 (some (.frz (rowD r))) (some (.own (((leftG (grt fs) r).map rowD).map O.frz))) s10 s11 s12 s13 s14, p⟩ = .ok ⟨none, .frz (.bl (!decide (leftG (grt fs) r = [])))⟩ ⟨lS (fsD fs) (bkD fs) s4 s5 s6 s7 (some (.frz (rowD r))) (some (.own (((leftG (grt fs) r).map rowD).map O.frz))) s10 s11 s12 s13 s14, p⟩ := by
      rw [ev, bndL, bndE hv, bndE (show ev D.gam (.lst []) _ = .ok ⟨none, .own []⟩ _ from en_lst (ds := []) es_nil (Nat.zero_le _))]
      have e : cmpO .NotEq (.lst ((leftG (grt fs) r).map rowD)) (.own []) = some (!decide (leftG (grt fs) r = [])) := by
        show (if okEq (.lst ((leftG (grt fs) r).map rowD)) && okEq (.lst []) then some (!PyData.eqv (DL.D.lst ((leftG (grt fs) r).map rowD)).py (DL.D.lst []).py) else none) = _
        rw [(okEq_rows _).1]
        cases leftG (grt fs) r with
        | nil => rfl
        | cons a b => rfl
      show bnd (lft (cmpO .NotEq (.lst ((leftG (grt fs) r).map rowD)) (.own []))) _ _ = _
      rw [e]; rfl
    rw [evT, bndE hc, truth_ok rfl]
  obtain ⟨s1, e1⟩ := ed_repr (ew_d hw) okr
  by_cases hn : leftG (grt fs) r = []
  · rw [decide_eq_true hn] at ht
    have hd : leftD (grt fs) r = .non := by unfold leftD; rw [if_pos hn]
    rw [hd] at hw
    exact ⟨_, ss_if_no (eb_same (d := .non) (ew_d hw) (ew_d (ed_ife ht ed_c)) (by decide +kernel))⟩
  · rw [decide_eq_false hn] at ht
    have hd : leftD (grt fs) r = gD (grt (leftG (grt fs) r)) := by unfold leftD; rw [if_neg hn]
    rw [hd] at e1 okr
    have h28 := k28 lr ll
    have hc := ev_callO (Γ := D.gam) (g := 28) (i := 9) (ρ := ⟨lS (fsD fs) (bkD fs) s4 s5 s6 s7 (some (.frz (rowD r))) (some (.own (((leftG (grt fs) r).map rowD).map O.frz))) s10 s11 s12 s13 s14, p⟩) rfl rfl h28
    have h2 : ev D.gam (.bi .repr [.ife (.tv (.cmp .NotEq (.v 9) (.lst []))) (.call 28 [.v 9]) (.c (.non))]) ⟨lS (fsD fs) (bkD fs) s4 s5 s6 s7 (some (.frz (rowD r))) (some (.own (((leftG (grt fs) r).map rowD).map O.frz))) s10 s11 s12 s13 s14, p⟩ = .ok ⟨none, .frz (.str (gD (grt (leftG (grt fs) r))).py.shown)⟩ ⟨lS (fsD fs) (bkD fs) s4 s5 s6 s7 (some (.frz (rowD r))) (some (.frz (.lst ((leftG (grt fs) r).map rowD)))) s10 s11 s12 s13 s14, p⟩ := by
      have h0 : evv D.gam [.ife (.tv (.cmp .NotEq (.v 9) (.lst []))) (.call 28 [.v 9]) (.c (.non))] ⟨lS (fsD fs) (bkD fs) s4 s5 s6 s7 (some (.frz (rowD r))) (some (.own (((leftG (grt fs) r).map rowD).map O.frz))) s10 s11 s12 s13 s14, p⟩ = .ok [gD (grt (leftG (grt fs) r))] ⟨lS (fsD fs) (bkD fs) s4 s5 s6 s7 (some (.frz (rowD r))) (some (.frz (.lst ((leftG (grt fs) r).map rowD)))) s10 s11 s12 s13 s14, p⟩ := by
        rw [evv, bndE (ev_ife1 ht hc), bndE vw_frz, bndE (show evv D.gam [] _ = .ok [] _ from vs_nil)]; rfl
      rw [ev, if_neg (by decide), bndE h0]
      show lft (((if okRepr (gD (grt (leftG (grt fs) r))) = true then some (O.frz (.str (gD (grt (leftG (grt fs) r))).py.shown)) else none)).map fun o => (⟨none, o⟩ : Val)) _ = _
      rw [if_pos okr]; rfl
    refine ⟨some (.frz (.lst ((leftG (grt fs) r).map rowD))), ss_ifT_no (t := .tv (.cmp .NotEq (.bi .repr [.call 19 [.v 3, .v 8]]) (.bi .repr [.ife (.tv (.cmp .NotEq (.v 9) (.lst []))) (.call 28 [.v 9]) (.c (.non))]))) ?_⟩
    have h3 : ev D.gam (.cmp .NotEq (.bi .repr [.call 19 [.v 3, .v 8]]) (.bi .repr [.ife (.tv (.cmp .NotEq (.v 9) (.lst []))) (.call 28 [.v 9]) (.c (.non))])) ⟨lS (fsD fs) (bkD fs) s4 s5 s6 s7 (some (.frz (rowD r))) (some (.own (((leftG (grt fs) r).map rowD).map O.frz))) s10 s11 s12 s13 s14, p⟩ = .ok ⟨none, .frz (.bl false)⟩ ⟨lS (fsD fs) (bkD fs) s4 s5 s6 s7 (some (.frz (rowD r))) (some (.frz (.lst ((leftG (grt fs) r).map rowD)))) s10 s11 s12 s13 s14, p⟩ := by
      rw [ev, bndE e1, bndE vw_frz, bndE h2]
      show bnd (lft (cmpO .NotEq (.str (gD (grt (leftG (grt fs) r))).py.shown) (.frz (.str (gD (grt (leftG (grt fs) r))).py.shown)))) _ _ = _
      rw [c_nes]; rfl
    rw [evT, bndE h3]; rfl
theorem book13 (f b s4 s5 s6 s7 s8 s9 s10 s11 s12 s13 s14 : Option O) (p : Pen) (I : Inv 62 p) : ∃ bad odd p', bad ∈ bads ∧ odd ∈ odds ∧ RUN 13 ⟨lS f b s4 s5 s6 s7 s8 s9 s10 s11 s12 s13 s14, p⟩ = RUN 15 ⟨lS f b s4 s5 s6 s7 s8 s9 (some (.frz bad)) (some (.frz odd)) s12 s13 s14, p'⟩ := by
  have h1 := er_pick (Γ := D.gam) (g := 22) (i := 1) (k := 62) (fn := defFn (G 13) 2 2 b_law_pick) (ρ := ⟨lS f b s4 s5 s6 s7 s8 s9 s10 s11 s12 s13 s14, p⟩) (e := .lst [.c (.non), .tup [], .tup [.tup [.c (.int 1), .c (.int 0)]], .tup [.tup [.c (.int 0), .c (.int 1)], .tup [.c (.int 0)]], .c (.int 5), .tup [.tup [.c (.int 100)]]]) (xs := bads) rfl kPick rfl (ex_lst (show evs D.gam _ _ = .ok bads _ from rfl) (show 6 ≤ lineN by decide)) (by unfold bads; simp) (by show 6 ≤ 100000; decide) (by decide) I
  obtain ⟨bad, p1, e1, I1, hbad⟩ := ss_setR (i := 10) (ss := blaw.drop 14) h1
  have h2 := er_pick (Γ := D.gam) (g := 22) (i := 1) (k := 63) (fn := defFn (G 13) 2 2 b_law_pick) (ρ := ⟨lS f b s4 s5 s6 s7 s8 s9 (some (.frz bad)) s11 s12 s13 s14, p1⟩) (e := .lst [.c (.non), .tup [], .tup [.c (.int 1), .c (.int 0)], .tup [.c (.int 0), .c (.int 0)], .tup [.c (.int 100)], .c (.int 5), .tup [.c (.bl true)]]) (xs := odds) rfl kPick rfl (ex_lst (show evs D.gam _ _ = .ok odds _ from rfl) (show 7 ≤ lineN by decide)) (by unfold odds; simp) (by show 7 ≤ 100000; decide) (by decide) I1
  obtain ⟨odd, p2, e2, I2, hodd⟩ := ss_setR (i := 11) (ss := blaw.drop 15) h2
  exact ⟨bad, odd, p2, hbad, hodd, e1.trans e2⟩
end Law

set_option Elab.async false
set_option linter.all false
set_option maxRecDepth 100000
set_option maxHeartbeats 0
/-! KP80: law_k80: the law in plain words. -/
namespace Law
open PySem DL
theorem pure_ (ns : List Int) (hn : ns.length ≤ 63) (hb : ∀ z ∈ ns, Builtin.Int.intBits z ≤ 1048576) : ∃ ρ', evSs D.gam D.ss (lawSt D.d ns) = .ok (.ret (.bl true)) ρ' := by
  obtain ⟨fs, p1, F, I1, e1⟩ := stepA ns
  obtain ⟨p2, I2, e2⟩ := book3 F none none none none none none none none none none none p1 I1
  have e3 := book4 F none none none none none none none none none none none p2
  obtain ⟨s4, e4⟩ := book5 F none none none none none none none none none none none p2
  obtain ⟨m, p3, hm, I3, e5⟩ := book6 (g := gD (grt fs)) (fsD fs) s4 none none none none none none none none none none p2 I2
  obtain ⟨p4, I4, e6⟩ := book7 F hm s4 none none none none none none none none none p3 I3
  obtain ⟨s7, e7⟩ := book8 F s4 (some (.frz (rowD m))) none none none none none none none none none p4
  obtain ⟨r, p5, hr, I5, e8⟩ := book10 F.g.f (fsD fs) (bkD fs) s4 (some (.frz (rowD m))) s7 none none none none none none none p4 I4
  have hr3 := (parts_face F.g hr).1.1.l3
  have e9 := book11 F.g.f hr3 (fsD fs) (bkD fs) s4 (some (.frz (rowD m))) s7 none none none none none none p5
  obtain ⟨s9, e10⟩ := book12 F hr s4 (some (.frz (rowD m))) (some (.frz (.lst ((parts (grt fs)).map rowD)))) s7 none none none none none p5
  obtain ⟨bad, odd, p6, hbad, hodd, e11⟩ := book13 (fsD fs) (bkD fs) s4 (some (.frz (rowD m))) (some (.frz (.lst ((parts (grt fs)).map rowD)))) s7 (some (.frz (rowD r))) s9 none none none none none p5 I5
  obtain ⟨ρ', e12⟩ := tail_ok F.g.f (grt_grt fs) (fun n hn c hc => by
    have := F.g.h8 n hn c hc
    omega) hbad hodd (fsD fs) s4 (some (.frz (rowD m))) (some (.frz (.lst ((parts (grt fs)).map rowD)))) s7 (some (.frz (rowD r))) s9 p6
  exact ⟨ρ', e1.trans (e2.trans (e3.trans (e4.trans (e5.trans (e6.trans (e7.trans (e8.trans (e9.trans (e10.trans (e11.trans e12))))))))))⟩
end Law

set_option Elab.async false
set_option linter.all false
set_option maxRecDepth 100000
set_option maxHeartbeats 0
namespace Law
open PySem PySem.Spec PyProof.Rows L2 DL
theorem bind_pen : Bind1 "_law_pen" (defArgs D.penSt) (defBody D.penSt) (defScope D.penSt) := fun _ _ _ _ _ _ us hl => match us, hl with | [_], _ => rfl
theorem bind_law : Bind1 "law" D.d.params D.d.text D.d.scope := fun _ _ _ _ _ _ us hl => match us, hl with | [_], _ => rfl
theorem run (w : World) : HandSHeadRun.RunEqI R (PySem.W.view R.prog [0, ilaw]) hk ob 6000 loose w := by
  unfold HandSHeadRun.RunEqI
  kernel_rfl
end Law
open PySem PySem.W PySem.Calls PyProof.Rows Law DL
theorem PySem.Challenge.cw_shelltrees_k80_books_of_faces_holds : PySem.Challenge.rw_shelltrees_k80_books_of_faces.Holds := by
  w_on; o_law
  refine HandSHeadRun.head_imp (r := OpenLaw.row PySem.Challenge.rw_shelltrees_k80_books_of_faces) (q := PySem.W.view Law.R.prog [0, Law.ilaw]) (H := Law.hk) (ob := Law.ob) (M := 6000) (d := HandSHeadRun.topDef PySem.Challenge.pw_shelltrees_k80_books_of_faces 37) (loose := Law.loose) (kwd := []) Law.ob_eq Law.run (by kernel_rfl) (by kernel_rfl) (by kernel_rfl) (by rfl) (by first | assumption | decide +kernel) (by decide +kernel) ⟨rfl, rfl, rfl, rfl, rfl, by decide +kernel⟩ ?hw ?hc
  case hw => w_witness2
  case hc =>
    refine DL.law_walk (n := 63) rfl (by decide) (by kernel_rfl) fun w mg fa h Y G hmg => ?_
    obtain ⟨K, KX, c⟩ := Y
    exact ⟨K, KX, law_at KX G c hmg ck binds1 binds2 bind_pen bind_law binds5 (by decide) pure_⟩

