import PyProof.Rows.All
import Wide.All
import OpenK.AllK
import Wide.FinOn
import HandS.ForMost
import HandS.ForExc
import HandS.Lambda
import HandS.Nested
import HandS.TupAny
import HandS.TupMul
import HandS.TupLe
import HandS.Wide
import HandS.Deep
import HandS.IsInst
import HandS.Style
import HandS.ExcOwn
import HandS.Exc
import HandS.TupLen
import HandS.SortInts
import HandS.Conv
import HandS.Walk
import KE.GoesEnum
import KE.GoesMore
import HandS.TryMany
import HandS.ExcIs
import HandS.DictTup
import HandS.HeadHook1
import KE.KDflt
import HandS.Defaults
import HandS.Steps
import HandS.NoneIn
import HandS.SetFor
import HandS.ExcBuiltin
import PyProof.EqAt
import HandS.HeadHook4
import KE.KStateDown
import HandS.Head0
import HandS.Head1
import HandS.Head2
import HandS.HeadWalk
import PySem.Challenge.RW_slotpages_k02_disks
set_option Elab.async false
set_option linter.all false
set_option maxRecDepth 100000
/-! G0: values with tuples by value, an exact store of what can change, and the tie to the hand layer's heap. -/
namespace GL
open PySem PySem.Spec PyProof.Rows L2

/-- a value: tuples by value; what can change by its address -/
inductive D where
  | non | bl (b : Bool) | int (i : Int) | str (x : Str) | tup (ds : List D) | ref (a : Addr) | ty (n : String)

/-- what stands in the store -/
inductive GO where
  | lst (ds : List D)
  | rol (ds : List D)
  | dK (kvs : List (Key × D))
  | dT (kvs : List (List Key × D))
  | ins (cn : Str) (fs : List (Str × D))
  | clo (k : Nat) (ds : List D)
  | oth (k : Nat) (ds : List D)

abbrev GS := Addr → Option GO
def gup (G : GS) (a : Addr) (o : GO) : GS := fun b => if b = a then some o else G b
theorem gup_same {G : GS} {a : Addr} {o : GO} : gup G a o a = some o := by unfold gup; rw [if_pos rfl]
theorem gup_ne {G : GS} {a b : Addr} {o : GO} (h : b ≠ a) : gup G a o b = G b := by unfold gup; rw [if_neg h]

/-- few ints: a tuple that may be a dict's key -/
def keyish (ds : List D) : Bool := decide (ds.length ≤ 3) && ds.all fun d => match d with
  | .int _ => true
  | _ => false
/-- a tuple's object: known to the heap, or (no key) the module's own -/
def TupA (K : PySem.W.Frag) (H : Hp) (a : Addr) (xs : List V) (ds : List D) : Prop := H a = some (.tup xs) ∨ (SqT K (fun _ => none) a xs ∧ keyish ds = false)
mutual
/-- a value of the hand layer is such a value of ours -/
def Is (K : PySem.W.Frag) (H : Hp) : V → D → Prop
  | v, .non => v = .non
  | v, .bl b => v = .bl b
  | v, .int i => v = .int i
  | v, .str x => v = .str x
  | v, .ref a => v = .ref a
  | v, .ty n => v = .ty n
  | v, .tup ds => ∃ a xs, v = .ref a ∧ TupA K H a xs ds ∧ IsL K H xs ds
def IsL (K : PySem.W.Frag) (H : Hp) : List V → List D → Prop
  | vs, [] => vs = []
  | vs, d :: ds => ∃ x xs, vs = x :: xs ∧ Is K H x d ∧ IsL K H xs ds
end

/-- what never changes stands as it stood -/
def Stay : HO → Prop
  | .tup _ => True
  | .frz _ _ => True
  | .ext _ => True
  | _ => False
def Ext (H H' : Hp) : Prop := ∀ b o, Stay o → H b = some o → H' b = some o
theorem Ext.refl (H : Hp) : Ext H H := fun _ _ _ h => h
theorem Ext.trans {H H1 H2 : Hp} (a : Ext H H1) (b : Ext H1 H2) : Ext H H2 := fun c o s h => b c o s (a c o s h)
theorem Ext.new {H : Hp} {p : Addr} {o : HO} (h : H p = none) : Ext H (upd H p o) := fun b u _ e => by
  rw [upd_ne (ne_of_none e h)]
  exact e
theorem Ext.upd {H : Hp} {p : Addr} {o u : HO} (h : H p = some u) (n : ¬ Stay u) : Ext H (L2.upd H p o) := fun b w s e => by
  rw [upd_ne]
  · exact e
  · rintro rfl
    rw [h] at e
    cases e
    exact n s
theorem Ext.same {H H' : Hp} (h : ∀ b o, H b = some o → H' b = some o) : Ext H H' := fun b o _ e => h b o e
theorem Ext.tup {K : PySem.W.Frag} {H H' : Hp} {a : Addr} {xs : List V} (e : Ext H H') (h : SqT K H a xs) : SqT K H' a xs := by
  rcases h with (h | ⟨o, h⟩) | h
  · exact .inl (.inl (e _ _ trivial h))
  · exact .inl (.inr ⟨o, e _ _ trivial h⟩)
  · exact .inr h
theorem sqT_none {K : PySem.W.Frag} {H : Hp} {a : Addr} {xs : List V} (h : SqT K (fun _ => none) a xs) : SqT K H a xs := by
  rcases h with (h | ⟨o, h⟩) | h
  · cases h
  · cases h
  · exact .inr h
theorem TupA.sq {K : PySem.W.Frag} {H : Hp} {a : Addr} {xs : List V} {ds : List D} (h : TupA K H a xs ds) : SqT K H a xs := by
  rcases h with h | h
  · exact .inl (.inl h)
  · exact sqT_none h.1
mutual
theorem Is.ext {K : PySem.W.Frag} {H H' : Hp} (e : Ext H H') : ∀ (d : D) (v : V), Is K H v d → Is K H' v d
  | .non, _, h => by unfold Is at h ⊢; exact h
  | .bl _, _, h => by unfold Is at h ⊢; exact h
  | .int _, _, h => by unfold Is at h ⊢; exact h
  | .str _, _, h => by unfold Is at h ⊢; exact h
  | .ref _, _, h => by unfold Is at h ⊢; exact h
  | .ty _, _, h => by unfold Is at h ⊢; exact h
  | .tup ds, _, h => by
    unfold Is at h ⊢
    obtain ⟨a, xs, e1, h1, h2⟩ := h
    exact ⟨a, xs, e1, h1.imp (fun z => e _ _ trivial z) id, IsL.ext e ds xs h2⟩
theorem IsL.ext {K : PySem.W.Frag} {H H' : Hp} (e : Ext H H') : ∀ (ds : List D) (vs : List V), IsL K H vs ds → IsL K H' vs ds
  | [], _, h => by unfold IsL at h ⊢; exact h
  | d :: ds, _, h => by
    unfold IsL at h ⊢
    obtain ⟨x, xs, e1, h1, h2⟩ := h
    exact ⟨x, xs, e1, Is.ext e d x h1, IsL.ext e ds xs h2⟩
end
section
variable {K : PySem.W.Frag} {H H' : Hp} {v x : V} {vs xs ys : List V} {d : D} {ds es : List D}
theorem is_non : Is K H v .non ↔ v = .non := by unfold Is; exact Iff.rfl
theorem is_bl {b : Bool} : Is K H v (.bl b) ↔ v = .bl b := by unfold Is; exact Iff.rfl
theorem is_int {i : Int} : Is K H v (.int i) ↔ v = .int i := by unfold Is; exact Iff.rfl
theorem is_str {z : Str} : Is K H v (.str z) ↔ v = .str z := by unfold Is; exact Iff.rfl
theorem is_ref {a : Addr} : Is K H v (.ref a) ↔ v = .ref a := by unfold Is; exact Iff.rfl
theorem is_ty {n : String} : Is K H v (.ty n) ↔ v = .ty n := by unfold Is; exact Iff.rfl
theorem is_tup : Is K H v (.tup ds) ↔ ∃ a xs, v = .ref a ∧ TupA K H a xs ds ∧ IsL K H xs ds := by unfold Is; exact Iff.rfl
theorem isL_nil : IsL K H vs [] ↔ vs = [] := by unfold IsL; exact Iff.rfl
theorem isL_cons : IsL K H vs (d :: ds) ↔ ∃ x xs, vs = x :: xs ∧ Is K H x d ∧ IsL K H xs ds := by rw [IsL]
theorem IsL.length : ∀ {ds : List D} {vs : List V}, IsL K H vs ds → vs.length = ds.length
  | [], _, h => by rw [isL_nil.mp h]; rfl
  | _ :: _, _, h => by
    obtain ⟨x, xs, rfl, _, h2⟩ := isL_cons.mp h
    rw [List.length_cons, List.length_cons, h2.length]
theorem IsL.get : ∀ {ds : List D} {vs : List V} {i : Nat} {d : D}, IsL K H vs ds → ds[i]? = some d → ∃ v, vs[i]? = some v ∧ Is K H v d
  | [], _, _, _, _, e => by simp at e
  | _ :: _, _, 0, _, h, e => by
    obtain ⟨x, xs, rfl, h1, _⟩ := isL_cons.mp h
    simp at e
    subst e
    exact ⟨x, rfl, h1⟩
  | _ :: _, _, i + 1, _, h, e => by
    obtain ⟨x, xs, rfl, _, h2⟩ := isL_cons.mp h
    obtain ⟨v, e1, h3⟩ := h2.get (i := i) (by simpa using e)
    exact ⟨v, by simpa using e1, h3⟩
theorem IsL.append : ∀ {ds : List D} {vs : List V}, IsL K H vs ds → IsL K H xs es → IsL K H (vs ++ xs) (ds ++ es)
  | [], _, h, q => by rw [isL_nil.mp h]; exact q
  | _ :: _, _, h, q => by
    obtain ⟨x, xs, rfl, h1, h2⟩ := isL_cons.mp h
    exact isL_cons.mpr ⟨x, _, rfl, h1, h2.append q⟩
theorem IsL.one (h : Is K H x d) : IsL K H [x] [d] := isL_cons.mpr ⟨x, [], rfl, h, isL_nil.mpr rfl⟩
theorem IsL.take : ∀ {ds : List D} {vs : List V} (n : Nat), IsL K H vs ds → IsL K H (vs.take n) (ds.take n)
  | _, _, 0, _ => by simp only [List.take_zero]; exact isL_nil.mpr rfl
  | [], _, _ + 1, h => by rw [isL_nil.mp h]; simp only [List.take_nil]; exact isL_nil.mpr rfl
  | _ :: _, _, n + 1, h => by
    obtain ⟨x, xs, rfl, h1, h2⟩ := isL_cons.mp h
    simp only [List.take_succ_cons]
    exact isL_cons.mpr ⟨x, _, rfl, h1, h2.take n⟩
theorem IsL.drop : ∀ {ds : List D} {vs : List V} (n : Nat), IsL K H vs ds → IsL K H (vs.drop n) (ds.drop n)
  | _, _, 0, h => h
  | [], _, _ + 1, h => by rw [isL_nil.mp h]; simp only [List.drop_nil]; exact isL_nil.mpr rfl
  | _ :: _, _, n + 1, h => by
    obtain ⟨x, xs, rfl, h1, h2⟩ := isL_cons.mp h
    simp only [List.drop_succ_cons]
    exact h2.drop n
theorem IsL.set (hx : Is K H x d) : ∀ {ds : List D} {vs : List V} (i : Nat), IsL K H vs ds → IsL K H (vs.set i x) (ds.set i d)
  | [], _, _, h => by rw [isL_nil.mp h]; exact isL_nil.mpr rfl
  | _ :: _, _, 0, h => by
    obtain ⟨y, ys, rfl, _, h2⟩ := isL_cons.mp h
    exact isL_cons.mpr ⟨x, ys, rfl, hx, h2⟩
  | _ :: _, _, i + 1, h => by
    obtain ⟨y, ys, rfl, h1, h2⟩ := isL_cons.mp h
    exact isL_cons.mpr ⟨y, _, rfl, h1, h2.set hx i⟩
theorem IsL.reverse : ∀ {ds : List D} {vs : List V}, IsL K H vs ds → IsL K H vs.reverse ds.reverse
  | [], _, h => by rw [isL_nil.mp h]; exact isL_nil.mpr rfl
  | _ :: _, _, h => by
    obtain ⟨x, xs, rfl, h1, h2⟩ := isL_cons.mp h
    simp only [List.reverse_cons]
    exact h2.reverse.append (IsL.one h1)
theorem IsL.eraseIdx : ∀ {ds : List D} {vs : List V} (i : Nat), IsL K H vs ds → IsL K H (vs.eraseIdx i) (ds.eraseIdx i)
  | [], _, _, h => by rw [isL_nil.mp h]; exact isL_nil.mpr rfl
  | _ :: _, _, 0, h => by
    obtain ⟨y, ys, rfl, _, h2⟩ := isL_cons.mp h
    exact h2
  | _ :: _, _, i + 1, h => by
    obtain ⟨y, ys, rfl, h1, h2⟩ := isL_cons.mp h
    exact isL_cons.mpr ⟨y, _, rfl, h1, h2.eraseIdx i⟩
theorem IsL.dropLast {ds : List D} {vs : List V} (h : IsL K H vs ds) : IsL K H vs.dropLast ds.dropLast := by
  rw [List.dropLast_eq_take, List.dropLast_eq_take, h.length]
  exact h.take _
theorem IsL.rep (k : Nat) (h : IsL K H vs ds) : IsL K H (List.replicate k vs).flatten (List.replicate k ds).flatten := by
  induction k with
  | zero => exact isL_nil.mpr rfl
  | succ n ih => simp only [List.replicate_succ, List.flatten_cons]; exact h.append ih
theorem IsL.get? {i : Nat} (h : IsL K H vs ds) (e : vs[i]? = some v) : ∃ d, ds[i]? = some d ∧ Is K H v d := by
  have hl := h.length
  have hi : i < vs.length := (List.getElem?_eq_some_iff.mp e).1
  obtain ⟨v', e1, h1⟩ := h.get (i := i) (d := ds[i]'(by omega)) (by simp [hl ▸ hi])
  rw [e] at e1
  cases e1
  exact ⟨_, by simp [hl ▸ hi], h1⟩
theorem isL_ints : ∀ {ns : List Int} {vs : List V}, IsL K H vs (ns.map D.int) ↔ vs = ns.map V.int
  | [], vs => isL_nil
  | n :: ns, vs => by
    simp only [List.map_cons, isL_cons, is_int]
    constructor
    · rintro ⟨x, xs, rfl, rfl, h⟩
      rw [isL_ints.mp h]
    · rintro rfl
      exact ⟨_, _, rfl, rfl, isL_ints.mpr rfl⟩
theorem isL_strs : ∀ {ns : List Str} {vs : List V}, IsL K H vs (ns.map D.str) ↔ vs = ns.map V.str
  | [], vs => isL_nil
  | n :: ns, vs => by
    simp only [List.map_cons, isL_cons, is_str]
    constructor
    · rintro ⟨x, xs, rfl, rfl, h⟩
      rw [isL_strs.mp h]
    · rintro rfl
      exact ⟨_, _, rfl, rfl, isL_strs.mpr rfl⟩
end
/-! ### pairs of a dict, attributes -/
def IsP {κ : Type} (K : PySem.W.Frag) (H : Hp) : List (κ × V) → List (κ × D) → Prop
  | xs, [] => xs = []
  | xs, (k, d) :: ds => ∃ v r, xs = (k, v) :: r ∧ Is K H v d ∧ IsP K H r ds
section
variable {κ : Type} {K : PySem.W.Frag} {H H' : Hp}
theorem IsP.ext (e : Ext H H') : ∀ {ds : List (κ × D)} {vs : List (κ × V)}, IsP K H vs ds → IsP K H' vs ds
  | [], _, h => h
  | (k, d) :: ds, _, h => by
    obtain ⟨v, r, rfl, h1, h2⟩ := h
    exact ⟨v, r, rfl, Is.ext e d v h1, h2.ext e⟩
theorem IsP.length : ∀ {ds : List (κ × D)} {vs : List (κ × V)}, IsP K H vs ds → vs.length = ds.length
  | [], _, h => by rw [show _ = _ from h]; rfl
  | (k, d) :: ds, _, h => by
    obtain ⟨v, r, rfl, _, h2⟩ := h
    rw [List.length_cons, List.length_cons, h2.length]
theorem IsP.keys : ∀ {ds : List (κ × D)} {vs : List (κ × V)}, IsP K H vs ds → vs.map (·.1) = ds.map (·.1)
  | [], _, h => by rw [show _ = _ from h]; rfl
  | (k, d) :: ds, _, h => by
    obtain ⟨v, r, rfl, _, h2⟩ := h
    simp only [List.map_cons, h2.keys]
theorem IsP.vals : ∀ {ds : List (κ × D)} {vs : List (κ × V)}, IsP K H vs ds → IsL K H (vs.map (·.2)) (ds.map (·.2))
  | [], _, h => by rw [show _ = _ from h]; exact isL_nil.mpr rfl
  | (k, d) :: ds, _, h => by
    obtain ⟨v, r, rfl, h1, h2⟩ := h
    exact isL_cons.mpr ⟨v, _, rfl, h1, h2.vals⟩
theorem IsP.look [BEq κ] : ∀ {ds : List (κ × D)} {vs : List (κ × V)} (k : κ), IsP K H vs ds →
    (ds.lookup k = none ∧ vs.lookup k = none) ∨ ∃ d v, ds.lookup k = some d ∧ vs.lookup k = some v ∧ Is K H v d
  | [], _, k, h => by rw [show _ = _ from h]; exact .inl ⟨rfl, rfl⟩
  | (k', d) :: ds, _, k, h => by
    obtain ⟨v, r, rfl, h1, h2⟩ := h
    simp only [List.lookup_cons]
    cases e : k == k' with
    | true => exact .inr ⟨d, v, rfl, rfl, h1⟩
    | false => exact h2.look k
end
/-- an attribute stored -/
def putD (f : Str) (d : D) : List (Str × D) → List (Str × D)
  | [] => [(f, d)]
  | (g, e) :: r => if g = f then (g, d) :: r else (g, e) :: putD f d r
theorem isP_putF {K : PySem.W.Frag} {H : Hp} {f : Str} {v : V} {d : D} (hv : Is K H v d) : ∀ {ds : List (Str × D)} {fs : List (Str × V)}, IsP K H fs ds → IsP K H (putF f v fs) (putD f d ds)
  | [], _, h => by
    rw [show _ = _ from h]
    exact ⟨v, [], rfl, hv, rfl⟩
  | (g, e) :: ds, _, h => by
    obtain ⟨x, r, rfl, h1, h2⟩ := h
    unfold putF putD
    by_cases q : g = f
    · rw [if_pos q, if_pos q]
      exact ⟨v, r, rfl, hv, h2⟩
    · rw [if_neg q, if_neg q]
      exact ⟨x, _, rfl, h1, isP_putF hv h2⟩
end GL
set_option Elab.async false
set_option linter.all false
set_option maxRecDepth 100000
/-! G1: the store held by the hand layer's heap; a meaning lifted to a reading. -/
namespace GL
open PySem PySem.Spec PyProof.Rows L2

/-! ### lambdas -/
structure LamD where
  qual : Str
  params : Arguments
  body : Expr
  scope : Scope
  free : List Str
/-- the function object of a lambda -/
def lamObj (l : LamD) (cl : List (Str × Addr)) (dV doc pm : Value) (c' : Addr) (ctv : Value) : Obj :=
  { cls := .type "function", data := .func { name := "<lambda>", qualname := l.qual, params := l.params, body := .expr l.body, scope := l.scope, globals := mainGlobals, closure := cl, defaults := dV, kwdefaults := .none, doc := doc, pyModule := pm, annotations := none, code := .ref c', closureTuple := ctv, builtins := builtinsNs } }
/-- a captured variable's cell: the frame's own, or locked -/
structure Own where
  cell : Addr → V → Prop
  h0 : Hp
def NoOwn : Own := ⟨fun _ _ => False, fun _ => none⟩
def CellR (K : PySem.W.Frag) (own : Own) (H : Hp) (y : Str) (c : Addr) (d : D) : Prop :=
  (∃ v, own.cell c v ∧ Is K H v d) ∨ ∃ o u v, H c = some (.frz o (.own 0)) ∧ o.data = .cell (some u) ∧ RelV v u ∧ Is K H v d
def DflR (K : PySem.W.Frag) (H : Hp) (dV : Value) : Prop := dV = .none ∨ ∃ t xs, dV = .ref t ∧ H t = some (.tup xs) ∧ xs ≠ []
structure CloR (K : PySem.W.Frag) (own : Own) (H : Hp) (f : Addr) (l : LamD) (ds : List D) : Prop where
  ex : ∃ cl dV c' doc pm ctv, H f = some (.frz (lamObj l cl dV doc pm c' ctv) (.own 0)) ∧ H c' = some (LamX.CodeO c' l.qual) ∧ ((dV = .none ∧ l.params.defaults = []) ∨ ∃ t, dV = .ref t ∧ H t = some (.tup [.int 0]) ∧ l.params.defaults ≠ []) ∧
    (∀ (j : Nat) (y : Str) (d : D), l.free[j]? = some y → ds[j]? = some d → ∃ c, cl.lookup y = some c ∧ CellR K own H y c d) ∧ (∀ p ∈ cl, p.1 ∈ l.free) ∧ ∀ x y c, cl.lookup x = some c → cl.lookup y = some c → x = y
  len : ds.length = l.free.length

/-- what is fixed for a law: its lambdas, the tables of code objects -/
structure Gm where
  lam : Nat → Option LamD
  T : List (Addr × Str)
  C : List (Str × D) := []

def ORep (Γ : Gm) (K : PySem.W.Frag) (mg : Str → Option Value) (own : Own) (H : Hp) (a : Addr) : GO → Prop
  | .lst ds => ∃ xs, H a = some (.lst xs) ∧ IsL K H xs ds
  | .rol ds => ∃ xs, Rd H a (.lst xs) ∧ IsL K H xs ds
  | .dK kvs => ∃ ys, H a = some (.dK ys) ∧ IsP K H ys kvs
  | .dT kvs => ∃ ys, H a = some (.dT ys) ∧ IsP K H ys kvs
  | .ins cn fs => ∃ C dx ys, mg cn = some (.ref C) ∧ H a = some (.ins C dx ys) ∧ IsP K H ys fs
  | .clo k ds => ∃ l, Γ.lam k = some l ∧ CloR K own H a l ds
  | .oth _ _ => False
structure HRep (Γ : Gm) (K : PySem.W.Frag) (mg : Str → Option Value) (own : Own) (G : GS) (H : Hp) : Prop where
  obj : ∀ a o, G a = some o → ORep Γ K mg own H a o
  tabs : LamX.Tabs Γ.T H
  cst : ∀ x d, (x, d) ∈ Γ.C → ∃ u v, mg x = some u ∧ RelV v u ∧ Is K H v d
  old : Ext own.h0 H

section
variable {Γ : Gm} {K : PySem.W.Frag} {mg : Str → Option Value} {own : Own} {G : GS} {H H' : Hp} {a p : Addr}
theorem ORep.at {o : GO} (h : ORep Γ K mg own H a o) : ∃ u, H a = some u := by
  cases o with
  | lst ds => obtain ⟨xs, e, _⟩ := h; exact ⟨_, e⟩
  | rol ds =>
    obtain ⟨xs, e, _⟩ := h
    rcases e with e | ⟨o, e⟩
    · exact ⟨_, e⟩
    · exact ⟨_, e⟩
  | dK kvs => obtain ⟨xs, e, _⟩ := h; exact ⟨_, e⟩
  | dT kvs => obtain ⟨xs, e, _⟩ := h; exact ⟨_, e⟩
  | ins cn fs => obtain ⟨C, dx, ys, _, e, _⟩ := h; exact ⟨_, e⟩
  | clo k ds => obtain ⟨l, _, ⟨⟨cl, dV, c', doc, pm, ctv, e, _⟩, _⟩⟩ := h; exact ⟨_, e⟩
  | oth k ds => exact h.elim
theorem HRep.fresh (h : HRep Γ K mg own G H) (e : H p = none) : G p = none := by
  cases q : G p with
  | none => rfl
  | some o =>
    obtain ⟨u, e'⟩ := (h.obj p o q).at
    rw [e] at e'
    cases e'
theorem CellR.ext {y : Str} {c : Addr} {d : D} (e : Ext H H') (h : CellR K own H y c d) : CellR K own H' y c d := by
  rcases h with ⟨v, h1, h2⟩ | ⟨o, u, v, h1, h2, h3, h4⟩
  · exact .inl ⟨v, h1, Is.ext e d v h2⟩
  · exact .inr ⟨o, u, v, e _ _ trivial h1, h2, h3, Is.ext e d v h4⟩
theorem CloR.ext {f : Addr} {l : LamD} {ds : List D} (e : Ext H H') (h : CloR K own H f l ds) : CloR K own H' f l ds := by
  obtain ⟨⟨cl, dV, c', doc, pm, ctv, h1, h2, h3, h4, h5⟩, h6⟩ := h
  refine ⟨⟨cl, dV, c', doc, pm, ctv, e _ _ trivial h1, e _ _ trivial h2, ?_, fun j y d e1 e2 => ?_, h5⟩, h6⟩
  · rcases h3 with z | ⟨t, z, h3, h4⟩
    · exact .inl z
    · exact .inr ⟨t, z, e _ _ trivial h3, h4⟩
  · obtain ⟨c, e3, e4⟩ := h4 j y d e1 e2
    exact ⟨c, e3, e4.ext e⟩
/-- an object that stands as it stood, among what may have changed -/
theorem ORep.keep {o : GO} (h : ORep Γ K mg own H a o) (e : Ext H H') (k : ∀ u, H a = some u → H' a = some u) : ORep Γ K mg own H' a o := by
  cases o with
  | lst ds => obtain ⟨xs, q, r⟩ := h; exact ⟨xs, k _ q, r.ext e⟩
  | rol ds =>
    obtain ⟨xs, q, r⟩ := h
    refine ⟨xs, ?_, r.ext e⟩
    rcases q with q | ⟨o, q⟩
    · exact .inl (k _ q)
    · exact .inr ⟨o, k _ q⟩
  | dK kvs => obtain ⟨xs, q, r⟩ := h; exact ⟨xs, k _ q, r.ext e⟩
  | dT kvs => obtain ⟨xs, q, r⟩ := h; exact ⟨xs, k _ q, r.ext e⟩
  | ins cn fs => obtain ⟨C, dx, ys, m, q, r⟩ := h; exact ⟨C, dx, ys, m, k _ q, r.ext e⟩
  | clo n ds => obtain ⟨l, m, r⟩ := h; exact ⟨l, m, r.ext e⟩
  | oth n ds => exact h.elim
theorem cst_ext {Γ : Gm} (e : Ext H H') (h : ∀ x d, (x, d) ∈ Γ.C → ∃ u v, mg x = some u ∧ RelV v u ∧ Is K H v d) : ∀ x d, (x, d) ∈ Γ.C → ∃ u v, mg x = some u ∧ RelV v u ∧ Is K H' v d := fun x d m => by
  obtain ⟨u, v, h1, h2, h3⟩ := h x d m
  exact ⟨u, v, h1, h2, Is.ext e d v h3⟩
theorem HRep.same (h : HRep Γ K mg own G H) (e : ∀ b o, H b = some o → H' b = some o) : HRep Γ K mg own G H' :=
  ⟨fun a o q => (h.obj a o q).keep (Ext.same e) fun u => e a u, h.tabs.ext e, cst_ext (Ext.same e) h.cst, h.old.trans (Ext.same e)⟩
theorem same_new {o : HO} (h : H p = none) : ∀ b u, H b = some u → upd H p o b = some u := fun b u e => by
  rw [upd_ne (ne_of_none e h)]
  exact e
/-- a new object, told or not -/
theorem HRep.grow (h : HRep Γ K mg own G H) {o : HO} (hp : H p = none) : HRep Γ K mg own G (upd H p o) := h.same (same_new hp)
theorem HRep.new (h : HRep Γ K mg own G H) {o : HO} {u : GO} (hp : H p = none) (r : ORep Γ K mg own (upd H p o) p u) : HRep Γ K mg own (gup G p u) (upd H p o) := by
  refine ⟨fun a w q => ?_, (h.grow hp).tabs, (h.grow hp).cst, (h.grow hp).old⟩
  by_cases e : a = p
  · subst e
    rw [gup_same] at q
    cases q
    exact r
  · rw [gup_ne e] at q
    exact (h.grow hp).obj a w q
/-- an object changed -/
theorem tabs_upd {T : List (Addr × Str)} {o u : HO} (h : LamX.Tabs T H) (hp : H p = some o) (n1 : ∀ ps, o ≠ .tbl ps) (n2 : ∀ φ, o ≠ .ext φ) : LamX.Tabs T (upd H p u) := fun q hq => by
  obtain ⟨ps, h1, h2, h3⟩ := h q hq
  refine ⟨ps, ?_, h2, fun pos cv hc => ?_⟩
  · rw [upd_ne]
    · exact h1
    · intro z
      rw [z, hp] at h1
      exact n1 ps (Option.some.inj h1)
  · obtain ⟨c, e1, e2⟩ := h3 pos cv hc
    refine ⟨c, e1, ?_⟩
    rw [upd_ne]
    · exact e2
    · intro z
      rw [z, hp] at e2
      exact n2 _ (Option.some.inj e2)
theorem HRep.set (h : HRep Γ K mg own G H) {o u : HO} {w : GO} (hp : H p = some o) (s : ¬ Stay o) (n1 : ∀ ps, o ≠ .tbl ps) (r : ORep Γ K mg own (upd H p u) p w) : HRep Γ K mg own (gup G p w) (upd H p u) := by
  have e : Ext H (upd H p u) := Ext.upd hp s
  refine ⟨fun a z q => ?_, tabs_upd h.tabs hp n1 (fun φ z => s (by rw [z]; trivial)), cst_ext e h.cst, h.old.trans e⟩
  by_cases q2 : a = p
  · subst q2
    rw [gup_same] at q
    cases q
    exact r
  · rw [gup_ne q2] at q
    exact (h.obj a z q).keep e fun v hv => by rw [upd_ne q2]; exact hv
/-- less is told -/
theorem HRep.less (h : HRep Γ K mg own G H) {G' : GS} (le : ∀ a o, G' a = some o → G a = some o) : HRep Γ K mg own G' H := ⟨fun a o q => h.obj a o (le a o q), h.tabs, h.cst, h.old⟩
end

/-! ### slots -/
abbrev Rho := List (Option D)
def SRep (K : PySem.W.Frag) (H : Hp) (σ : L2.St) (ρ : Rho) : Prop := ρ.length = σ.length ∧ ∀ (i : Nat) (d : D), ρ[i]? = some (some d) → ∃ v, σ[i]? = some (some v) ∧ Is K H v d
section
variable {K : PySem.W.Frag} {H H' : Hp} {σ : L2.St} {ρ : Rho}
theorem SRep.ext (e : Ext H H') (h : SRep K H σ ρ) : SRep K H' σ ρ := ⟨h.1, fun i d q => by
  obtain ⟨v, e1, e2⟩ := h.2 i d q
  exact ⟨v, e1, Is.ext e d v e2⟩⟩
theorem SRep.set {i : Nat} {v : V} {d : D} (h : SRep K H σ ρ) (r : Is K H v d) : SRep K H (σ.set i (some v)) (ρ.set i (some d)) := by
  refine ⟨by simp [h.1], fun j e q => ?_⟩
  by_cases hj : j = i
  · subst hj
    have hl : j < ρ.length := by
      have h2 := (List.getElem?_eq_some_iff.mp q).1
      simpa using h2
    rw [List.getElem?_set_self hl] at q
    cases q
    exact ⟨v, List.getElem?_set_self (by rw [← h.1]; exact hl), r⟩
  · rw [List.getElem?_set_ne (Ne.symm hj)] at q
    obtain ⟨w, e1, e2⟩ := h.2 j e q
    exact ⟨w, by rw [List.getElem?_set_ne (Ne.symm hj)]; exact e1, e2⟩
theorem SRep.forget {i : Nat} (h : SRep K H σ ρ) : SRep K H (σ.set i none) (ρ.set i none) := by
  refine ⟨by simp [h.1], fun j e q => ?_⟩
  by_cases hj : j = i
  · subst hj
    have hl : j < ρ.length := by
      have h2 := (List.getElem?_eq_some_iff.mp q).1
      simpa using h2
    rw [List.getElem?_set_self hl] at q
    cases q
  · rw [List.getElem?_set_ne (Ne.symm hj)] at q
    obtain ⟨w, e1, e2⟩ := h.2 j e q
    exact ⟨w, by rw [List.getElem?_set_ne (Ne.symm hj)]; exact e1, e2⟩
end

/-! ### meanings -/
abbrev DK := D → GS → Prop
/-- an exception: its class's name, what it bears -/
abbrev XD := Str → List D → GS → Prop
abbrev DE := Rho → GS → DK → XD → Prop
abbrev DA := Rho → GS → (List D → GS → Prop) → XD → Prop
abbrev DT := Rho → GS → (Bool → GS → Prop) → XD → Prop
structure DEnds where
  nx : Rho → GS → Prop
  rt : DK
  bk : Rho → GS → Prop := fun _ _ => False
  ct : Rho → GS → Prop := fun _ _ => False
abbrev DS := DEnds → XD → Rho → GS → Prop
abbrev Spec := List D → GS → DK → XD → Prop

/-- an exception, as the hand layer tells it -/
def XIs (K : PySem.W.Frag) (mg : Str → Option Value) (H : Hp) (cn : Str) (p : List D) (cls : Value) (dd : Option Addr) : Prop :=
  mg cn = some cls ∧ (∃ C, cls = .ref C) ∧ ((p = [] ∧ dd = none) ∨ ∃ d a v, p = [d] ∧ dd = some a ∧ H a = some (.xd [("line", v)]) ∧ Is K H v d)

/-- what is fixed in a frame: the closures' own cells by the slots, the wish about exceptions -/
structure Fx where
  Γ : Gm
  own : L2.St → Own
  W : WX
  h0 : Hp
  g0 : GS

section
variable (F : Fx) (X : Cx)
abbrev HR (σ : L2.St) (G : GS) (H : Hp) : Prop := HRep F.Γ X.K X.mg (F.own σ) G H
/-- what is asked behind a value, an exception -/
def KOk (σ : L2.St) (H : Hp) (Q' : DK) (Q : VK) : Prop := ∀ d G v H', Ext H H' → HR F X σ G H' → Is X.K H' v d → Q' d G → Q v H'
def EOk (σ : L2.St) (H : Hp) (E : XD) : Prop := ∀ cn p G cls dd H', Ext H H' → HR F X σ G H' → XIs X.K X.mg H' cn p cls dd → E cn p G → F.W cls dd σ H'
def up (d : DE) : TE := fun σ H Q => ∃ ρ G Q' E, SRep X.K H σ ρ ∧ HR F X σ G H ∧ d ρ G Q' E ∧ KOk F X σ H Q' Q ∧ EOk F X σ H E
def upT (d : DT) : TT := fun σ H Q => ∃ ρ G Q' E, SRep X.K H σ ρ ∧ HR F X σ G H ∧ d ρ G Q' E ∧ (∀ b G H', Ext H H' → HR F X σ G H' → Q' b G → Q b H') ∧ EOk F X σ H E
def upA (d : DA) : TA := fun σ H Q => ∃ ρ G Q' E, SRep X.K H σ ρ ∧ HR F X σ G H ∧ d ρ G Q' E ∧ (∀ ds G vs H', Ext H H' → HR F X σ G H' → IsL X.K H' vs ds → Q' ds G → Q vs H') ∧ EOk F X σ H E
/-- .. of a statement: at its end the slots are told anew -/
def SOk (H : Hp) (P' : Rho → GS → Prop) (P : L2.St → Hp → Prop) : Prop := ∀ ρ G σ H', Ext H H' → SRep X.K H' σ ρ → HR F X σ G H' → P' ρ G → P σ H'
def EOkS (H : Hp) (E : XD) : Prop := ∀ cn p G cls dd σ H', Ext H H' → HR F X σ G H' → XIs X.K X.mg H' cn p cls dd → E cn p G → F.W cls dd σ H'
structure NOk (H : Hp) (D' : DEnds) (Ds : Ends) : Prop where
  nx : SOk F X H D'.nx Ds.nx
  bk : SOk F X H D'.bk Ds.bk
  ct : SOk F X H D'.ct Ds.ct
  rt : ∀ σ, KOk F X σ H D'.rt Ds.rt
def upS (d : DS) : TS := fun Ds σ H => ∃ ρ G D' E, SRep X.K H σ ρ ∧ HR F X σ G H ∧ d D' E ρ G ∧ NOk F X H D' Ds ∧ EOkS F X H E
end
section
variable {F : Fx} {X : Cx} {σ : L2.St} {H H' : Hp}
theorem KOk.ext {Q' : DK} {Q : VK} (e : Ext H H') (h : KOk F X σ H Q' Q) : KOk F X σ H' Q' Q := fun d G v H2 e2 r i q => h d G v H2 (e.trans e2) r i q
theorem EOk.ext {E : XD} (e : Ext H H') (h : EOk F X σ H E) : EOk F X σ H' E := fun cn p G cls dd H2 e2 r i q => h cn p G cls dd H2 (e.trans e2) r i q
theorem SOk.ext {P' : Rho → GS → Prop} {P : L2.St → Hp → Prop} (e : Ext H H') (h : SOk F X H P' P) : SOk F X H' P' P := fun ρ G σ H2 e2 s r q => h ρ G σ H2 (e.trans e2) s r q
theorem EOkS.ext {E : XD} (e : Ext H H') (h : EOkS F X H E) : EOkS F X H' E := fun cn p G cls dd σ H2 e2 r i q => h cn p G cls dd σ H2 (e.trans e2) r i q
theorem EOkS.at {E : XD} (h : EOkS F X H E) : EOk F X σ H E := fun cn p G cls dd H2 e2 r i q => h cn p G cls dd σ H2 e2 r i q
theorem NOk.ext {D' : DEnds} {Ds : Ends} (e : Ext H H') (h : NOk F X H D' Ds) : NOk F X H' D' Ds := ⟨h.nx.ext e, h.bk.ext e, h.ct.ext e, fun σ => (h.rt σ).ext e⟩
end
/-- another reading -/
theorem PE_imp {X : Cx} {e : Expr} {t u : TE} (h : PE X e t) (i : ∀ σ H Q, u σ H Q → t σ H Q) : PE X e u := ⟨fun pins s σ H Q I q => h.run pins s σ H Q I (i σ H Q q)⟩
theorem PT_imp {X : Cx} {e : Expr} {t u : TT} (h : PT X e t) (i : ∀ σ H Q, u σ H Q → t σ H Q) : PT X e u := ⟨fun pins s σ H Q I q => h.run pins s σ H Q I (i σ H Q q)⟩
theorem PW_imp {X : Cx} {e : Expr} {t u : TT} (h : PW X e t) (i : ∀ σ H Q, u σ H Q → t σ H Q) : PW X e u := ⟨fun wh pins s σ H Q I q => h.run wh pins s σ H Q I (i σ H Q q)⟩
theorem PA_imp {X : Cx} {es : List Expr} {t u : TA} (h : PA X es t) (i : ∀ σ H Q, u σ H Q → t σ H Q) : PA X es u := ⟨fun pos pins s σ H Q I q => h.run pos pins s σ H Q I (i σ H Q q)⟩
theorem PS_imp {X : Cx} {e : Stmt} {t u : TS} (h : PS X e t) (i : ∀ D σ H, u D σ H → t D σ H) : PS X e u := ⟨fun pins s σ H D I q => h.run pins s σ H D I (i D σ H q)⟩
theorem PSs_imp {X : Cx} {e : List Stmt} {t u : TS} (h : PSs X e t) (i : ∀ D σ H, u D σ H → t D σ H) : PSs X e u := ⟨fun pins s σ H D I q => h.run pins s σ H D I (i D σ H q)⟩
end GL
set_option Elab.async false
set_option linter.all false
set_option maxRecDepth 100000
set_option maxHeartbeats 1000000
/-! GK: cells locked for a call, and unlocked for a lambda's body. -/
namespace GL
open PySem PySem.Spec PyProof.Rows L2

open Classical in
/-- the objects of L are known as they are -/
noncomputable def lk (L : Addr → Prop) (h : Heap) (H : Hp) : Hp := fun b => if L b then (h.get? b).map (fun o => .frz o (.own 0)) else H b
open Classical in
noncomputable def unlk (L : Addr → Prop) (H : Hp) : Hp := fun b => if L b then none else H b
section
variable {L : Addr → Prop} {h h' : Heap} {H H' : Hp} {b : Addr}
theorem lk_in (e : L b) : lk L h H b = (h.get? b).map (fun o => .frz o (.own 0)) := by unfold lk; rw [if_pos e]
theorem lk_out (e : ¬ L b) : lk L h H b = H b := by unfold lk; rw [if_neg e]
theorem unlk_in (e : L b) : unlk L H b = none := by unfold unlk; rw [if_pos e]
theorem unlk_out (e : ¬ L b) : unlk L H b = H b := by unfold unlk; rw [if_neg e]
theorem unlk_some {o : HO} (e : unlk L H b = some o) : H b = some o ∧ ¬ L b := by
  by_cases q : L b
  · rw [unlk_in q] at e; cases e
  · rw [unlk_out q] at e; exact ⟨e, q⟩
/-- the locked heap holds all that the other holds -/
theorem lk_same (n : ∀ c, L c → H c = none) : ∀ b o, H b = some o → lk L h H b = some o := fun b o e => by
  rw [lk_out fun q => by rw [n b q] at e; cases e]
  exact e
variable {P : Program} {w : World} {outer : List Env} {s s' : Shared}
theorem hok_lk (n : ∀ c, L c → H c = none ∧ ∃ o, h.get? c = some o) (x : HOk P w H h) : HOk P w (lk L h H) h := fun a o e => by
  by_cases q : L a
  · rw [lk_in q] at e
    obtain ⟨_, u, hu⟩ := n a q
    rw [hu] at e
    cases e
    exact ⟨hu, u, hu⟩
  · rw [lk_out q] at e
    have s := lk_same (h := h) fun c hc => (n c hc).1
    exact (x a o e).stay (fun b u _ z => z) (fun b z => s b _ z) fun b xs z => s b _ z
theorem hok_unlk (f : ∀ c, L c → ∃ o, H c = some (.frz o (.own 0))) (x : HOk P w H h) : HOk P w (unlk L H) h := fun a o e => by
  obtain ⟨e1, _⟩ := unlk_some e
  refine (x a o e1).stay (fun b u _ z => z) (fun b z => ?_) fun b xs z => ?_
  · rw [unlk_out]
    · exact z
    · intro q
      obtain ⟨o, f1⟩ := f b q
      rw [f1] at z
      cases z
  · rw [unlk_out]
    · exact z
    · intro q
      obtain ⟨o, f1⟩ := f b q
      rw [f1] at z
      cases z
/-- what locked cells are behind a step that held them -/
theorem un_frz {fs ex : List Addr} (n : ∀ c, L c → H c = none ∧ ∃ o, h.get? c = some o) (u : Un fs ex (lk L h H) H' h h') : ∀ c, L c → ∃ o, h.get? c = some o ∧ H' c = some (.frz o (.own 0)) := fun c q => by
  obtain ⟨_, o, ho⟩ := n c q
  exact ⟨o, ho, u.frzs c o _ (by rw [lk_in q, ho] <;> rfl)⟩
/-- locked, a step, unlocked -/
theorem un_lk {fs ex : List Addr} (n : ∀ c, L c → H c = none ∧ ∃ o, h.get? c = some o) (nf : ∀ c, L c → c ∉ fs) (x : HOk P w H' h') (u : Un fs ex (lk L h H) H' h h') : Un fs ex H (unlk L H') h h' where
  keep := fun b o e1 e2 e3 e4 => by
    by_cases q : L b
    · obtain ⟨o', e5, e6⟩ := un_frz n u b q
      rw [e1] at e5
      cases e5
      exact (x b _ e6).1
    · exact u.keep b o e1 (by rw [lk_out q]; exact e2) e3 e4
  slot := fun b o e1 e2 e3 e4 => by
    by_cases q : L b
    · exact absurd e3 (nf b q)
    · exact u.slot b o e1 (by rw [lk_out q]; exact e2) e3 e4
  free := fun b o e1 e2 e4 => by
    by_cases q : L b
    · exact unlk_in q
    · rw [unlk_out q]
      exact u.free b o e1 (by rw [lk_out q]; exact e2) e4
  there := fun b o e1 e4 => u.there b o e1 e4
  tups := fun b xs e => by
    have q : ¬ L b := fun q => by rw [(n b q).1] at e; cases e
    rw [unlk_out q]
    exact u.tups b xs (by rw [lk_out q]; exact e)
  frzs := fun b o v e => by
    have q : ¬ L b := fun q => by rw [(n b q).1] at e; cases e
    rw [unlk_out q]
    exact u.frzs b o v (by rw [lk_out q]; exact e)
  tbls := fun b ps e => by
    have q : ¬ L b := fun q => by rw [(n b q).1] at e; cases e
    rw [unlk_out q]
    exact u.tbls b ps (by rw [lk_out q]; exact e)
theorem ub_frz {fs : List Addr} {B : Heap} (n : ∀ c, L c → H c = none ∧ ∃ o, h.get? c = some o) (u : UB fs (lk L h H) H' h B h') : ∀ c, L c → ∃ o, h.get? c = some o ∧ H' c = some (.frz o (.own 0)) := fun c q => by
  obtain ⟨_, o, ho⟩ := n c q
  exact ⟨o, ho, u.frzs c o _ (by rw [lk_in q, ho] <;> rfl)⟩
theorem ub_lk {fs : List Addr} {B : Heap} (n : ∀ c, L c → H c = none ∧ ∃ o, h.get? c = some o) (nf : ∀ c, L c → c ∉ fs) (x : HOk P w H' B) (u : UB fs (lk L h H) H' h B h') : UB fs H (unlk L H') h B h' where
  keep := fun b o e1 e2 e3 => by
    by_cases q : L b
    · obtain ⟨o', e5, e6⟩ := ub_frz n u b q
      rw [e1] at e5
      cases e5
      exact (x b _ e6).1
    · exact u.keep b o e1 (by rw [lk_out q]; exact e2) e3
  slot := fun b o e1 e3 => u.slot b o e1 e3
  free := fun b o e1 e2 => by
    by_cases q : L b
    · exact unlk_in q
    · rw [unlk_out q]
      exact u.free b o e1 (by rw [lk_out q]; exact e2)
  there := fun b o e1 e4 => u.there b o e1 e4
  tups := fun b xs e => by
    have q : ¬ L b := fun q => by rw [(n b q).1] at e; cases e
    rw [unlk_out q]
    exact u.tups b xs (by rw [lk_out q]; exact e)
  frzs := fun b o v e => by
    have q : ¬ L b := fun q => by rw [(n b q).1] at e; cases e
    rw [unlk_out q]
    exact u.frzs b o v (by rw [lk_out q]; exact e)
  tbls := fun b ps e => by
    have q : ¬ L b := fun q => by rw [(n b q).1] at e; cases e
    rw [unlk_out q]
    exact u.tbls b ps (by rw [lk_out q]; exact e)
/-- a run from the locked heap is one from the other -/
theorem cr_lk {Q : VK} {E : XK} {r : Result} (n : ∀ c, L c → H c = none ∧ ∃ o, s.heap.get? c = some o) (nf : ∀ c, L c → c ∉ frs outer)
    (c : CR (L2.CX P w) outer P w (lk L s.heap H) s (fun v H1 => (∀ c, L c → ∃ o, s.heap.get? c = some o ∧ H1 c = some (.frz o (.own 0))) → Q v (unlk L H1)) (fun cls d H1 => (∀ c, L c → ∃ o, s.heap.get? c = some o ∧ H1 c = some (.frz o (.own 0))) → E cls d (unlk L H1)) r s') :
    CR (L2.CX P w) outer P w H s Q E r s' := by
  cases r with
  | error e =>
    obtain ⟨a, B, H', cls, d, z, fl, hok, ub, na, os, ag, hE⟩ := c
    refine ⟨a, B, unlk L H', cls, d, z, fl, hok_unlk (fun c q => ?_) hok, ub_lk n nf hok ub, ?_, os, ag, hE (ub_frz n ub)⟩
    · obtain ⟨o, _, q⟩ := ub_frz n ub c q
      exact ⟨o, q⟩
    · by_cases q : L a
      · exact unlk_in q
      · rw [unlk_out q]; exact na
  | ok fl =>
    cases fl with
    | ret u =>
      obtain ⟨v, H', os, bare, un, hok, rv, q⟩ := c
      refine ⟨v, unlk L H', os, bare, un_lk n nf hok un, hok_unlk (fun c q => ?_) hok, rv, q (un_frz n un)⟩
      obtain ⟨o, _, q⟩ := un_frz n un c q
      exact ⟨o, q⟩
    | next => exact c.elim
    | brk => exact c.elim
    | cont => exact c.elim
theorem env0_lk {K : PySem.W.Frag} {mg : Str → Option Value} {base : Heap} {A : Around} (n : ∀ c, L c → H c = none ∧ ∃ o, s.heap.get? c = some o) (nf : ∀ c, L c → c ∉ frs outer) (nb : ∀ c, L c → base.get? c = none) (e : Env0 P w K mg base A outer s H) :
    Env0 P w K mg base A outer s (lk L s.heap H) := by
  refine ⟨e.frames, e.mod, fun b o z => ⟨(e.bs b o z).1, ?_⟩, e.bsz, e.funs, fun b hb => ?_, hok_lk n e.hok, e.bare⟩
  · rw [lk_out]
    · exact (e.bs b o z).2
    · intro q
      rw [nb b q] at z
      cases z
  · rw [lk_out fun q => nf b q hb]
    exact e.frf b hb

/-! ### the other way about: a heap that knows the cells of C, a run from that which does not -/
open Classical in
/-- the objects of C known again, as in H -/
noncomputable def relk (C : Addr → Prop) (H H' : Hp) : Hp := fun b => if C b then H b else H' b
theorem relk_in (e : L b) : relk L H H' b = H b := by unfold relk; rw [if_pos e]
theorem relk_out (e : ¬ L b) : relk L H H' b = H' b := by unfold relk; rw [if_neg e]
theorem un_relk {fs : List Addr} (n : ∀ c, L c → ∃ o, h.get? c = some o) (u : Un fs [] (unlk L H) H' h h') : (∀ c, L c → H' c = none) ∧ ∀ c o, L c → c ∉ fs → h.get? c = some o → h'.get? c = some o := by
  refine ⟨fun c q => ?_, fun c o q nf e => u.keep c o e (unlk_in q) nf (by simp)⟩
  obtain ⟨o, ho⟩ := n c q
  exact u.free c o ho (unlk_in q) (by simp)
theorem un_re {fs : List Addr} (n : ∀ c, L c → ∃ o, H c = some (.frz o (.own 0)) ∧ h.get? c = some o) (u : Un fs [] (unlk L H) H' h h') : Un fs [] H (relk L H H') h h' where
  keep := fun b o e1 e2 e3 e4 => u.keep b o e1 (by
    rw [unlk_out]
    · exact e2
    · intro q
      obtain ⟨o, z, _⟩ := n b q
      rw [e2] at z
      cases z) e3 e4
  slot := fun b o e1 e2 e3 e4 => u.slot b o e1 (by
    rw [unlk_out]
    · exact e2
    · intro q
      obtain ⟨o, z, _⟩ := n b q
      rw [e2] at z
      cases z) e3 e4
  free := fun b o e1 e2 e4 => by
    have q : ¬ L b := fun q => by
      obtain ⟨o, z, _⟩ := n b q
      rw [e2] at z
      cases z
    rw [relk_out q]
    exact u.free b o e1 (by rw [unlk_out q]; exact e2) e4
  there := fun b o e1 e4 => u.there b o e1 e4
  tups := fun b xs e => by
    by_cases q : L b
    · rw [relk_in q]; exact e
    · rw [relk_out q]; exact u.tups b xs (by rw [unlk_out q]; exact e)
  frzs := fun b o v e => by
    by_cases q : L b
    · rw [relk_in q]; exact e
    · rw [relk_out q]; exact u.frzs b o v (by rw [unlk_out q]; exact e)
  tbls := fun b ps e => by
    by_cases q : L b
    · obtain ⟨o, z, _⟩ := n b q
      rw [e] at z
      cases z
    · rw [relk_out q]; exact u.tbls b ps (by rw [unlk_out q]; exact e)
theorem hok_re {fs : List Addr} (n : ∀ c, L c → ∃ o, H c = some (.frz o (.own 0)) ∧ h.get? c = some o) (nf : ∀ c, L c → c ∉ fs) (x : HOk P w H' h') (u : Un fs [] (unlk L H) H' h h') : HOk P w (relk L H H') h' := fun a o e => by
  obtain ⟨k1, k2⟩ := un_relk (fun c q => let ⟨o, _, z⟩ := n c q; ⟨o, z⟩) u
  by_cases q : L a
  · rw [relk_in q] at e
    obtain ⟨o', e1, e2⟩ := n a q
    rw [e1] at e
    cases e
    have := k2 a o' q (nf a q) e2
    exact ⟨this, _, this⟩
  · rw [relk_out q] at e
    have st : ∀ d u, H' d = some u → relk L H H' d = some u := fun d u z => by
      rw [relk_out fun q => by rw [k1 d q] at z; cases z]
      exact z
    exact (x a o e).stay (fun b u _ z => z) (fun d z => st d _ z) fun d xs z => st d _ z
theorem ub_re {fs : List Addr} {B : Heap} (n : ∀ c, L c → ∃ o, H c = some (.frz o (.own 0)) ∧ h.get? c = some o) (u : UB fs (unlk L H) H' h B h') : UB fs H (relk L H H') h B h' where
  keep := fun b o e1 e2 e3 => u.keep b o e1 (by
    rw [unlk_out]
    · exact e2
    · intro q
      obtain ⟨o, z, _⟩ := n b q
      rw [e2] at z
      cases z) e3
  slot := fun b o e1 e3 => u.slot b o e1 e3
  free := fun b o e1 e2 => by
    have q : ¬ L b := fun q => by
      obtain ⟨o, z, _⟩ := n b q
      rw [e2] at z
      cases z
    rw [relk_out q]
    exact u.free b o e1 (by rw [unlk_out q]; exact e2)
  there := fun b o e1 e4 => u.there b o e1 e4
  tups := fun b xs e => by
    by_cases q : L b
    · rw [relk_in q]; exact e
    · rw [relk_out q]; exact u.tups b xs (by rw [unlk_out q]; exact e)
  frzs := fun b o v e => by
    by_cases q : L b
    · rw [relk_in q]; exact e
    · rw [relk_out q]; exact u.frzs b o v (by rw [unlk_out q]; exact e)
  tbls := fun b ps e => by
    by_cases q : L b
    · obtain ⟨o, z, _⟩ := n b q
      rw [e] at z
      cases z
    · rw [relk_out q]; exact u.tbls b ps (by rw [unlk_out q]; exact e)
theorem hok_reB {fs : List Addr} {B : Heap} (n : ∀ c, L c → ∃ o, H c = some (.frz o (.own 0)) ∧ h.get? c = some o) (nf : ∀ c, L c → c ∉ fs) (x : HOk P w H' B) (u : UB fs (unlk L H) H' h B h') : HOk P w (relk L H H') B := fun a o e => by
  have k1 : ∀ c, L c → H' c = none := fun c q => by
    obtain ⟨o, _, z⟩ := n c q
    exact u.free c o z (unlk_in q)
  by_cases q : L a
  · rw [relk_in q] at e
    obtain ⟨o', e1, e2⟩ := n a q
    rw [e1] at e
    cases e
    have := u.keep a o' e2 (unlk_in q) (nf a q)
    exact ⟨this, _, this⟩
  · rw [relk_out q] at e
    have st : ∀ d u, H' d = some u → relk L H H' d = some u := fun d u z => by
      rw [relk_out fun q => by rw [k1 d q] at z; cases z]
      exact z
    exact (x a o e).stay (fun b u _ z => z) (fun d z => st d _ z) fun d xs z => st d _ z
theorem cr_re {Q : VK} {E : XK} {r : Result} (n : ∀ c, L c → ∃ o, H c = some (.frz o (.own 0)) ∧ s.heap.get? c = some o) (nf : ∀ c, L c → c ∉ frs outer)
    (c : CR (L2.CX P w) outer P w (unlk L H) s (fun v H1 => (∀ c, L c → H1 c = none) → Q v (relk L H H1)) (fun cls d H1 => (∀ c, L c → H1 c = none) → E cls d (relk L H H1)) r s') :
    CR (L2.CX P w) outer P w H s Q E r s' := by
  have n2 : ∀ c, L c → ∃ o, s.heap.get? c = some o := fun c q => let ⟨o, _, z⟩ := n c q; ⟨o, z⟩
  cases r with
  | error e =>
    obtain ⟨a, B, H', cls, d, z, fl, hok, ub, na, os, ag, hE⟩ := c
    have k1 : ∀ c, L c → H' c = none := fun c q => by
      obtain ⟨o, _, z⟩ := n c q
      exact ub.free c o z (unlk_in q)
    refine ⟨a, B, relk L H H', cls, d, z, fl, hok_reB n nf hok ub, ub_re n ub, ?_, os, ag, hE k1⟩
    by_cases q : L a
    · exfalso
      obtain ⟨o, e1, e2⟩ := n a q
      have z1 := ub.keep a o e2 (unlk_in q) (nf a q)
      rw [fl.2.1] at z1
      cases z1
    · rw [relk_out q]; exact na
  | ok fl =>
    cases fl with
    | ret u =>
      obtain ⟨v, H', os, bare, un, hok, rv, q⟩ := c
      exact ⟨v, relk L H H', os, bare, un_re n un, hok_re n nf hok un, rv, q (un_relk n2 un).1⟩
    | next => exact c.elim
    | brk => exact c.elim
    | cont => exact c.elim
theorem env0_un {K : PySem.W.Frag} {mg : Str → Option Value} {base : Heap} {A : Around} (n : ∀ c, L c → ∃ o, H c = some (.frz o (.own 0)) ∧ s.heap.get? c = some o) (e : Env0 P w K mg base A outer s H) :
    Env0 P w K mg base A outer s (unlk L H) := by
  refine ⟨e.frames, e.mod, fun b o z => ⟨(e.bs b o z).1, ?_⟩, e.bsz, e.funs, fun b hb => ?_, hok_unlk (fun c q => let ⟨o, z, _⟩ := n c q; ⟨o, z⟩) e.hok, e.bare⟩
  · by_cases q : L b
    · exact unlk_in q
    · rw [unlk_out q]; exact (e.bs b o z).2
  · by_cases q : L b
    · exact unlk_in q
    · rw [unlk_out q]; exact e.frf b hb
end
/-! ### what stands over it -/
mutual
theorem Is.tk {K : PySem.W.Frag} {H H' : Hp} (e : ∀ b xs, H b = some (.tup xs) → H' b = some (.tup xs)) : ∀ (d : D) (v : V), Is K H v d → Is K H' v d
  | .non, _, h => by unfold Is at h ⊢; exact h
  | .bl _, _, h => by unfold Is at h ⊢; exact h
  | .int _, _, h => by unfold Is at h ⊢; exact h
  | .str _, _, h => by unfold Is at h ⊢; exact h
  | .ref _, _, h => by unfold Is at h ⊢; exact h
  | .ty _, _, h => by unfold Is at h ⊢; exact h
  | .tup ds, _, h => by
    unfold Is at h ⊢
    obtain ⟨a, xs, e1, h1, h2⟩ := h
    exact ⟨a, xs, e1, h1.imp (fun z => e _ _ z) id, IsL.tk e ds xs h2⟩
theorem IsL.tk {K : PySem.W.Frag} {H H' : Hp} (e : ∀ b xs, H b = some (.tup xs) → H' b = some (.tup xs)) : ∀ (ds : List D) (vs : List V), IsL K H vs ds → IsL K H' vs ds
  | [], _, h => by unfold IsL at h ⊢; exact h
  | d :: ds, _, h => by
    unfold IsL at h ⊢
    obtain ⟨x, xs, e1, h1, h2⟩ := h
    exact ⟨x, xs, e1, Is.tk e d x h1, IsL.tk e ds xs h2⟩
end
theorem IsP.tk {κ : Type} {K : PySem.W.Frag} {H H' : Hp} (e : ∀ b xs, H b = some (.tup xs) → H' b = some (.tup xs)) : ∀ {ds : List (κ × D)} {vs : List (κ × V)}, IsP K H vs ds → IsP K H' vs ds
  | [], _, h => h
  | (k, d) :: ds, _, h => by
    obtain ⟨v, r, rfl, h1, h2⟩ := h
    exact ⟨v, r, rfl, Is.tk e d v h1, h2.tk e⟩
section
variable {Γ : Gm} {K : PySem.W.Frag} {mg : Str → Option Value} {own own' : Own} {G : GS} {H H' : Hp} {a : Addr} {L : Addr → Prop}
/-- the objects of L (cells that are known) become unknown, perhaps; all else stays -/
structure Mv (L : Addr → Prop) (H H' : Hp) : Prop where
  cells : ∀ c, L c → ∃ o u, H c = some (.frz o (.own 0)) ∧ o.data = .cell u
  keep : ∀ b u, H b = some u → ¬ L b → H' b = some u
theorem Mv.tup (m : Mv L H H') : ∀ b xs, H b = some (.tup xs) → H' b = some (.tup xs) := fun b xs e => m.keep b _ e fun q => by
  obtain ⟨o, u, z, _⟩ := m.cells b q
  rw [e] at z
  cases z
theorem Mv.at (m : Mv L H H') {u : HO} (e : H a = some u) (n : ∀ o, u ≠ .frz o (.own 0)) : H' a = some u := m.keep a u e fun q => by
  obtain ⟨o, w, z, _⟩ := m.cells a q
  rw [e] at z
  exact n o (Option.some.inj z)
theorem CloR.mv {f : Addr} {l : LamD} {ds : List D} (m : Mv L H H') (k : ∀ y c d, CellR K own H y c d → CellR K own' H' y c d) (h : CloR K own H f l ds) : CloR K own' H' f l ds := by
  obtain ⟨⟨cl, dV, c', doc, pm, ctv, h1, h2, h3, h4, h5⟩, h6⟩ := h
  refine ⟨⟨cl, dV, c', doc, pm, ctv, m.keep _ _ h1 fun q => ?_, m.at h2 (fun o z => by unfold LamX.CodeO at z; cases z), ?_, fun j y d e1 e2 => ?_, h5⟩, h6⟩
  · obtain ⟨o, u, z, z2⟩ := m.cells f q
    rw [h1] at z
    cases z
    cases z2
  · rcases h3 with z | ⟨t, z, h3, h4⟩
    · exact .inl z
    · exact .inr ⟨t, z, m.tup _ _ h3, h4⟩
  · obtain ⟨c, e3, e4⟩ := h4 j y d e1 e2
    exact ⟨c, e3, k y c d e4⟩
theorem ORep.mv {o : GO} (m : Mv L H H') (k : ∀ y c d, CellR K own H y c d → CellR K own' H' y c d) (h : ORep Γ K mg own H a o) : ORep Γ K mg own' H' a o := by
  cases o with
  | lst ds => obtain ⟨xs, q, r⟩ := h; exact ⟨xs, m.at q (fun o z => by cases z), IsL.tk m.tup _ _ r⟩
  | rol ds =>
    obtain ⟨xs, q, r⟩ := h
    refine ⟨xs, ?_, IsL.tk m.tup _ _ r⟩
    rcases q with q | ⟨o, q⟩
    · exact .inl (m.at q (fun o z => by cases z))
    · exact .inr ⟨o, m.at q (fun o z => by cases z)⟩
  | dK kvs => obtain ⟨xs, q, r⟩ := h; exact ⟨xs, m.at q (fun o z => by cases z), r.tk m.tup⟩
  | dT kvs => obtain ⟨xs, q, r⟩ := h; exact ⟨xs, m.at q (fun o z => by cases z), r.tk m.tup⟩
  | ins cn fs => obtain ⟨C, dx, ys, e, q, r⟩ := h; exact ⟨C, dx, ys, e, m.at q (fun o z => by cases z), r.tk m.tup⟩
  | clo n ds => obtain ⟨l, e, r⟩ := h; exact ⟨l, e, r.mv m k⟩
  | oth n ds => exact h.elim
theorem HRep.mv (m : Mv L H H') (k : ∀ y c d, CellR K own H y c d → CellR K own' H' y c d) (e : Ext own'.h0 H') (h : HRep Γ K mg own G H) : HRep Γ K mg own' G H' := by
  refine ⟨fun a o q => (h.obj a o q).mv m k, fun p hp => ?_, fun x d q => ?_, e⟩
  · obtain ⟨ps, h1, h2, h3⟩ := h.tabs p hp
    refine ⟨ps, m.at h1 (fun o z => by cases z), h2, fun pos cv hc => ?_⟩
    obtain ⟨c, e1, e2⟩ := h3 pos cv hc
    exact ⟨c, e1, m.at e2 (fun o z => by unfold LamX.CodeO at z; cases z)⟩
  · obtain ⟨u, v, h1, h2, h3⟩ := h.cst x d q
    exact ⟨u, v, h1, h2, Is.tk m.tup _ _ h3⟩
theorem Mv.of (e : ∀ b u, H b = some u → H' b = some u) : Mv (fun _ => False) H H' := ⟨fun _ z => z.elim, fun b u z _ => e b u z⟩
end
end GL
set_option Elab.async false
set_option linter.all false
set_option maxRecDepth 100000
set_option maxHeartbeats 1000000
/-! G2: values and operators. -/
namespace GL
open PySem PySem.Spec PyProof.Rows L2

/-! ### names, constants -/
def dVar (i : Nat) : DE := fun ρ G Q _ => match ρ[i]? with
  | some (some d) => Q d G
  | _ => False
def dC (d : D) : DE := fun _ G Q _ => Q d G
section
variable {F : Fx} {X : Cx}
theorem up_var {e : Expr} {i : Nat} (h : PE X e (tVar i)) : PE X e (up F X (dVar i)) := PE_imp h fun σ H Q ⟨ρ, G, Q', E, s, r, q, k, _⟩ => by
  have q : (match ρ[i]? with | some (some d) => Q' d G | _ => False) := q
  split at q
  · rename_i d e1
    obtain ⟨v, e2, i2⟩ := s.2 i d e1
    exact ⟨v, e2, k d G v H (Ext.refl H) r i2 q⟩
  · exact q.elim
theorem up_c {e : Expr} {v : V} {d : D} (h : PE X e (tC v)) (i : ∀ H, Is X.K H v d) : PE X e (up F X (dC d)) := PE_imp h fun σ H Q ⟨ρ, G, Q', E, s, r, q, k, _⟩ => k d G v H (Ext.refl H) r (i H) q
end

/-! ### two operands -/
abbrev OpD := D → D → GS → DK → XD → Prop
def dBin (op : OpD) (a b : DE) : DE := fun ρ G Q E => a ρ G (fun x G1 => b ρ G1 (fun y G2 => op x y G2 Q E) E) E
def ROp (F : Fx) (X : Cx) (r : R2) (op : OpD) : Prop := ∀ σ H G x y d e Q' E Q, HR F X σ G H → Is X.K H x d → Is X.K H y e → op d e G Q' E → KOk F X σ H Q' Q → EOk F X σ H E → r x y H Q
theorem up_bin {F : Fx} {X : Cx} {da db : DE} {r : R2} {op : OpD} (h : ROp F X r op) : ∀ σ H Q, up F X (dBin op da db) σ H Q → tOp r (up F X da) (up F X db) σ H Q := fun σ H Q ⟨ρ, G, Q', E, s, r0, q, k, x⟩ =>
  ⟨ρ, G, _, E, s, r0, q, fun d G1 v H1 e1 r1 i1 q1 => ⟨ρ, G1, _, E, s.ext e1, r1, q1, fun d2 G2 v2 H2 e2 r2 i2 q2 =>
    h σ H2 G2 v v2 d d2 Q' E Q r2 (Is.ext e2 d v i1) i2 q2 (k.ext (e1.trans e2)) (x.ext (e1.trans e2)), x.ext e1⟩, x⟩
theorem ROp.or {F : Fx} {X : Cx} {r r' : R2} {op : OpD} (h : ∀ σ H G x y d e Q' E Q, HR F X σ G H → Is X.K H x d → Is X.K H y e → op d e G Q' E → KOk F X σ H Q' Q → EOk F X σ H E → r x y H Q ∨ r' x y H Q) : ROp F X (fun x y H Q => r x y H Q ∨ r' x y H Q) op := h

/-- a new object at a free place -/
def dNew (G : GS) (o : GO) (Q : DK) : Prop := ∀ p, G p = none → Q (.ref p) (gup G p o)
theorem new_lst {F : Fx} {X : Cx} {σ : L2.St} {H : Hp} {G : GS} {ds : List D} {xs : List V} {Q' : DK} {Q : VK} (r : HR F X σ G H) (i : IsL X.K H xs ds) (q : dNew G (.lst ds) Q') (k : KOk F X σ H Q' Q) : ∀ p, H p = none → Q (.ref p) (upd H p (.lst xs)) := fun p hp =>
  k (.ref p) (gup G p (.lst ds)) _ _ (Ext.new hp) (r.new (u := .lst ds) hp ⟨xs, upd_same, i.ext (Ext.new hp)⟩) (is_ref.mpr rfl) (q p (r.fresh hp))
theorem new_tup {F : Fx} {X : Cx} {σ : L2.St} {H : Hp} {G : GS} {ds : List D} {xs : List V} {Q' : DK} {Q : VK} (r : HR F X σ G H) (i : IsL X.K H xs ds) (q : Q' (.tup ds) G) (k : KOk F X σ H Q' Q) : ∀ p, H p = none → Q (.ref p) (upd H p (.tup xs)) := fun p hp =>
  k (.tup ds) _ _ _ (Ext.new hp) (r.grow hp) (is_tup.mpr ⟨p, xs, rfl, .inl upd_same, i.ext (Ext.new hp)⟩) q

def lstOf (G : GS) (a : Addr) : Option (List D) := match G a with
  | some (.lst xs) => some xs
  | _ => none
/-- a list that is read; a list or a tuple -/
def lsqOf (G : GS) (a : Addr) : Option (List D) := match G a with
  | some (.lst xs) => some xs
  | some (.rol xs) => some xs
  | _ => none
def seqOf (G : GS) : D → Option (List D)
  | .tup xs => some xs
  | .ref a => lsqOf G a
  | _ => none
theorem lstOf_eq {G : GS} {a : Addr} {xs : List D} (h : lstOf G a = some xs) : G a = some (.lst xs) := by
  unfold lstOf at h
  split at h
  · rename_i ys e
    rw [e, Option.some.inj h]
  · cases h
theorem lsqOf_sq {Γ : Gm} {K : PySem.W.Frag} {mg : Str → Option Value} {own : Own} {G : GS} {H : Hp} {a : Addr} {ds : List D} (r : HRep Γ K mg own G H) (h : lsqOf G a = some ds) : ∃ xs, SqL K H a xs ∧ IsL K H xs ds := by
  unfold lsqOf at h
  split at h
  · rename_i xs e
    cases h
    obtain ⟨ys, e2, h2⟩ := r.obj a _ e
    exact ⟨ys, SqL.of e2, h2⟩
  · rename_i xs e
    cases h
    obtain ⟨ys, e2, h2⟩ := r.obj a _ e
    exact ⟨ys, .inl e2, h2⟩
  · cases h
theorem seqOf_sq {Γ : Gm} {K : PySem.W.Frag} {mg : Str → Option Value} {own : Own} {G : GS} {H : Hp} {d : D} {ds : List D} {v : V} (r : HRep Γ K mg own G H) (i : Is K H v d) (h : seqOf G d = some ds) : ∃ a xs, v = .ref a ∧ (SqL K H a xs ∨ SqT K H a xs) ∧ IsL K H xs ds := by
  unfold seqOf at h
  split at h
  · cases h
    obtain ⟨a, xs, e, h1, h2⟩ := is_tup.mp i
    exact ⟨a, xs, e, .inr (h1.sq), h2⟩
  · rename_i a
    obtain ⟨xs, h1, h2⟩ := lsqOf_sq r h
    exact ⟨a, xs, is_ref.mp i, .inl h1, h2⟩
  · cases h

/-- an arm of a match that says something -/
def opAdd : OpD
  | .int i, .int j, G, Q, _ => Q (.int (i + j)) G
  | .str a, .str b, G, Q, _ => a.length + b.length ≤ sizeLine ∧ Q (.str (a ++ b)) G
  | .tup a, .tup b, G, Q, _ => a.length + b.length ≤ sizeLine ∧ Q (.tup (a ++ b)) G
  | .ref a, .ref b, G, Q, _ => (match lstOf G a, lstOf G b with
    | some xs, some ys => xs.length + ys.length ≤ sizeLine ∧ dNew G (.lst (xs ++ ys)) Q
    | _, _ => False)
  | _, _, _, _, _ => False
def opSub : OpD
  | .int i, .int j, G, Q, _ => Q (.int (i - j)) G
  | _, _, _, _, _ => False
def opMul : OpD
  | .int i, .int j, G, Q, _ => (CMul i j ∨ CMulW i j) ∧ Q (.int (i * j)) G
  | .tup a, .int k, G, Q, _ => (a ≠ [] ∧ 2 ≤ k ∧ k ≤ 1000 ∧ a.length ≤ 1000) ∧ Q (.tup (List.replicate k.toNat a).flatten) G
  | .ref a, .int k, G, Q, _ => (match lstOf G a with
    | some xs => (-(2 ^ 63) ≤ k ∧ k < 2 ^ 63 ∧ xs.length * k.toNat ≤ sizeLine) ∧ dNew G (.lst (List.replicate k.toNat xs).flatten) Q
    | none => False)
  | _, _, _, _, _ => False
def opDiv : OpD
  | .int i, .int j, G, Q, _ => CDivW i j ∧ Q (.int (i / j)) G
  | _, _, _, _, _ => False
def opMod : OpD
  | .int i, .int j, G, Q, _ => 0 < j ∧ Q (.int (i % j)) G
  | _, _, _, _, _ => False
def opPow : OpD
  | .int i, .int j, G, Q, _ => CPow i j ∧ Q (.int (i ^ j.toNat)) G
  | _, _, _, _, _ => False
section
variable {F : Fx} {X : Cx}
abbrev rAddAll (K : PySem.W.Frag) : R2 := fun x y H Q => (rI0 fun i j => .int (i + j)) x y H Q ∨ (∃ i j, x = .str i ∧ y = .str j ∧ i.length + j.length ≤ sizeLine ∧ Q (.str (i ++ j)) H) ∨ rCatA K x y H Q ∨ rCat x y H Q
theorem op_addAll : OpR X (binaryOp .Add) (rAddAll X.K) := op_add.or (op_add_str.or (op_catA.or op_cat))
theorem ro_add : ROp F X (rAddAll X.K) opAdd := by
  intro σ H G x y d e Q' E Q r ix iy q k _
  unfold opAdd at q
  split at q
  · rw [is_int.mp ix, is_int.mp iy]
    exact .inl ⟨_, _, rfl, rfl, k _ G _ H (Ext.refl H) r (is_int.mpr rfl) q⟩
  · rw [is_str.mp ix, is_str.mp iy]
    exact .inr (.inl ⟨_, _, rfl, rfl, q.1, k _ G _ H (Ext.refl H) r (is_str.mpr rfl) q.2⟩)
  · rename_i as bs
    obtain ⟨a, xs, rfl, h1, h2⟩ := is_tup.mp ix
    obtain ⟨b, ys, rfl, h3, h4⟩ := is_tup.mp iy
    have hl : xs.length + ys.length ≤ sizeLine := by rw [h2.length, h4.length]; exact q.1
    refine .inr (.inr (.inl ⟨a, b, xs, ys, rfl, rfl, h1.sq, h3.sq, hl, fun ex => ?_, fun _ ey => ?_, fun _ _ => new_tup r (h2.append h4) q.2 k⟩))
    · subst ex
      have e1 : as = [] := by
        have e2 := h2.length
        exact List.length_eq_zero_iff.mp e2.symm
      subst e1
      exact k (.tup bs) G _ H (Ext.refl H) r (is_tup.mpr ⟨b, ys, rfl, h3, h4⟩) q.2
    · subst ey
      have e1 : bs = [] := by
        have e2 := h4.length
        exact List.length_eq_zero_iff.mp e2.symm
      subst e1
      refine k (.tup (as ++ [])) G _ H (Ext.refl H) r (is_tup.mpr ⟨a, xs, rfl, ?_, ?_⟩) q.2
      · rw [List.append_nil]
        exact h1
      · rw [List.append_nil]
        exact h2
  · rename_i a b
    rw [is_ref.mp ix, is_ref.mp iy]
    split at q
    · rename_i xs ys e1 e2
      obtain ⟨vs, h1, i1⟩ := r.obj a _ (lstOf_eq e1)
      obtain ⟨ws, h2, i2⟩ := r.obj b _ (lstOf_eq e2)
      refine .inr (.inr (.inr ⟨a, b, vs, ws, rfl, rfl, h1, h2, ?_, new_lst r (i1.append i2) q.2 k⟩))
      rw [i1.length, i2.length]
      exact q.1
    · exact q.elim
  · exact q.elim
theorem ro_sub : ROp F X (rI0 fun i j => .int (i - j)) opSub := by
  intro σ H G x y d e Q' E Q r ix iy q k _
  unfold opSub at q
  split at q
  · rw [is_int.mp ix, is_int.mp iy]
    exact ⟨_, _, rfl, rfl, k _ G _ H (Ext.refl H) r (is_int.mpr rfl) q⟩
  · exact q.elim
abbrev rMulAll (K : PySem.W.Frag) : R2 := fun x y H Q => (rI CMul fun i j => .int (i * j)) x y H Q ∨ (rI CMulW fun i j => .int (i * j)) x y H Q ∨ rRepT K x y H Q ∨ rRep x y H Q
theorem op_mulAll : OpR X (binaryOp .Mult) (rMulAll X.K) := op_mul.or (op_mulW.or (op_repT.or op_rep))
theorem ro_mul : ROp F X (rMulAll X.K) opMul := by
  intro σ H G x y d e Q' E Q r ix iy q k _
  unfold opMul at q
  split at q
  · rw [is_int.mp ix, is_int.mp iy]
    rcases q.1 with c | c
    · exact .inl ⟨_, _, rfl, rfl, c, k _ G _ H (Ext.refl H) r (is_int.mpr rfl) q.2⟩
    · exact .inr (.inl ⟨_, _, rfl, rfl, c, k _ G _ H (Ext.refl H) r (is_int.mpr rfl) q.2⟩)
  · obtain ⟨⟨q1, q2, q3, q4⟩, q5⟩ := q
    obtain ⟨a, xs, rfl, h1, h2⟩ := is_tup.mp ix
    rw [is_int.mp iy]
    refine .inr (.inr (.inl ⟨a, _, xs, rfl, rfl, h1.sq, ?_, q2, q3, ?_, new_tup r (h2.rep _) q5 k⟩))
    · rintro rfl
      have e2 := h2.length
      exact q1 (List.length_eq_zero_iff.mp e2.symm)
    · rw [h2.length]
      exact q4
  · rename_i a n
    rw [is_ref.mp ix, is_int.mp iy]
    split at q
    · rename_i xs e1
      obtain ⟨vs, h1, i1⟩ := r.obj a _ (lstOf_eq e1)
      obtain ⟨⟨q1, q2, q3⟩, q4⟩ := q
      refine .inr (.inr (.inr ⟨a, n, vs, rfl, rfl, h1, q1, q2, ?_, new_lst r (i1.rep _) q4 k⟩))
      rw [i1.length]
      exact q3
    · exact q.elim
  · exact q.elim
theorem ro_div : ROp F X (rI CDivW fun i j => .int (i / j)) opDiv := by
  intro σ H G x y d e Q' E Q r ix iy q k _
  unfold opDiv at q
  split at q
  · rw [is_int.mp ix, is_int.mp iy]
    exact ⟨_, _, rfl, rfl, q.1, k _ G _ H (Ext.refl H) r (is_int.mpr rfl) q.2⟩
  · exact q.elim
theorem ro_mod : ROp F X (rI (fun _ j => 0 < j) fun i j => .int (i % j)) opMod := by
  intro σ H G x y d e Q' E Q r ix iy q k _
  unfold opMod at q
  split at q
  · rw [is_int.mp ix, is_int.mp iy]
    exact ⟨_, _, rfl, rfl, q.1, k _ G _ H (Ext.refl H) r (is_int.mpr rfl) q.2⟩
  · exact q.elim
theorem ro_pow : ROp F X (rI CPow fun i j => .int (i ^ j.toNat)) opPow := by
  intro σ H G x y d e Q' E Q r ix iy q k _
  unfold opPow at q
  split at q
  · rw [is_int.mp ix, is_int.mp iy]
    exact ⟨_, _, rfl, rfl, q.1, k _ G _ H (Ext.refl H) r (is_int.mpr rfl) q.2⟩
  · exact q.elim
end

/-! ### comparisons -/
mutual
/-- data: no objects that change -/
def py : D → Option PyData
  | .non => some .none
  | .bl b => some (.bool b)
  | .int i => some (.int i)
  | .str x => if PyData.strOk x then some (.str x) else none
  | .tup ds => (pyL ds).map .tuple
  | .ref _ => none
  | .ty _ => none
def pyL : List D → Option (List PyData)
  | [] => some []
  | d :: ds => (py d).bind fun x => (pyL ds).map fun xs => x :: xs
end
mutual
theorem py_dp {K : PySem.W.Frag} {H : Hp} : ∀ (d : D) (v : V) (x : PyData), Is K H v d → py d = some x → Dp K H v x ∧ x.canLay0 = true
  | .non, _, _, i, e => by
    rw [is_non.mp i]
    unfold py at e
    cases e
    exact ⟨.non, by simp [PyData.canLay0]⟩
  | .bl b, _, _, i, e => by
    rw [is_bl.mp i]
    unfold py at e
    cases e
    exact ⟨.bl b, by simp [PyData.canLay0]⟩
  | .int n, _, _, i, e => by
    rw [is_int.mp i]
    unfold py at e
    cases e
    exact ⟨.int n, by simp [PyData.canLay0]⟩
  | .str z, _, _, i, e => by
    rw [is_str.mp i]
    unfold py at e
    split at e
    · rename_i h
      cases e
      exact ⟨.str z, by simp [PyData.canLay0, h]⟩
    · cases e
  | .tup ds, _, _, i, e => by
    obtain ⟨a, xs, rfl, h1, h2⟩ := is_tup.mp i
    unfold py at e
    cases q : pyL ds with
    | none => rw [q] at e; cases e
    | some ys =>
      rw [q] at e
      cases e
      obtain ⟨h3, h4⟩ := pyL_dp ds xs ys h2 q
      exact ⟨.tup (h1.sq) h3, by simp [PyData.canLay0, h4]⟩
  | .ref _, _, _, _, e => by unfold py at e; cases e
  | .ty _, _, _, _, e => by unfold py at e; cases e
theorem pyL_dp {K : PySem.W.Frag} {H : Hp} : ∀ (ds : List D) (vs : List V) (xs : List PyData), IsL K H vs ds → pyL ds = some xs → DpAll K H vs xs ∧ PyData.canLayAll0 xs = true
  | [], _, _, i, e => by
    rw [isL_nil.mp i]
    unfold pyL at e
    cases e
    exact ⟨.nil, by simp [PyData.canLayAll0]⟩
  | d :: ds, _, _, i, e => by
    obtain ⟨x, xs, rfl, h1, h2⟩ := isL_cons.mp i
    unfold pyL at e
    cases q : py d with
    | none => rw [q] at e; cases e
    | some y =>
      cases q2 : pyL ds with
      | none => rw [q, q2] at e; cases e
      | some ys =>
        rw [q, q2] at e
        cases e
        obtain ⟨h3, h4⟩ := py_dp d x y h1 q
        obtain ⟨h5, h6⟩ := pyL_dp ds xs ys h2 q2
        exact ⟨.cons h3 h5, by simp [PyData.canLayAll0, h4, h6]⟩
end
/-- what a value says, lists one deep -/
def pyG (G : GS) : D → Option PyData
  | .ref a => (match G a with
    | some (.lst xs) => (pyL xs).map .list
    | some (.rol xs) => (pyL xs).map .list
    | _ => none)
  | d => py d
theorem pyG_dp {Γ : Gm} {K : PySem.W.Frag} {mg : Str → Option Value} {own : Own} {G : GS} {H : Hp} {d : D} {v : V} {x : PyData} (r : HRep Γ K mg own G H) (i : Is K H v d) (e : pyG G d = some x) : Dp K H v x ∧ x.canLay0 = true := by
  have fin : ∀ (a : Addr) (vs : List V) (ds : List D), SqL K H a vs → IsL K H vs ds → (pyL ds).map PyData.list = some x → Dp K H (.ref a) x ∧ x.canLay0 = true := fun a vs ds h1 h2 e => by
    cases q : pyL ds with
    | none => rw [q] at e; cases e
    | some ys =>
      rw [q] at e
      cases e
      obtain ⟨h3, h4⟩ := pyL_dp ds vs ys h2 q
      exact ⟨.lst h1 h3, by simp [PyData.canLay0, h4]⟩
  cases d with
  | ref a =>
    rw [is_ref.mp i]
    have e : (match G a with
      | some (.lst xs) => (pyL xs).map PyData.list
      | some (.rol xs) => (pyL xs).map PyData.list
      | _ => none) = some x := e
    split at e
    · rename_i ds q
      obtain ⟨vs, h1, h2⟩ := r.obj a _ q
      exact fin a vs ds (SqL.of h1) h2 e
    · rename_i ds q
      obtain ⟨vs, h1, h2⟩ := r.obj a _ q
      exact fin a vs ds (.inl h1) h2 e
    · cases e
  | _ => exact py_dp _ v x i e
/-- two plain values -/
def scEq : D → D → Option Bool
  | .int i, .int j => some (decide (i = j))
  | .str x, .str y => some (decide (x = y))
  | .bl x, .bl y => some (decide (x = y))
  | .non, .non => some true
  | .non, .int _ => some false
  | .int _, .non => some false
  | .non, .bl _ => some false
  | .bl _, .non => some false
  | .non, .str _ => some false
  | .str _, .non => some false
  | .int _, .str _ => some false
  | .str _, .int _ => some false
  | .bl _, .str _ => some false
  | .str _, .bl _ => some false
  | _, _ => none
def opEq : OpD := fun d e G Q _ => match scEq d e with
  | some b => Q (.bl b) G
  | none => (match pyG G d, pyG G e with
    | some x, some y => (x.depth ≤ 64 ∧ y.depth ≤ 64) ∧ Q (.bl (PyData.eqv x y)) G
    | _, _ => False)
def opNe : OpD := fun d e G Q _ => match scEq d e with
  | some b => Q (.bl (!b)) G
  | none => (match pyG G d, pyG G e with
    | some x, some y => (x.depth ≤ 64 ∧ y.depth ≤ 64) ∧ Q (.bl (!PyData.eqv x y)) G
    | _, _ => False)
theorem scEq_ok {K : PySem.W.Frag} {H : Hp} {x y : V} {d e : D} {b : Bool} (i : Is K H x d) (j : Is K H y e) (h : scEq d e = some b) : scal x y = true ∧ decide (x = y) = b := by
  unfold scEq at h
  split at h <;> first
    | (cases h
       simp only [is_int, is_str, is_bl, is_non] at i j
       subst i
       subst j
       refine ⟨rfl, ?_⟩
       simp)
    | cases h
/-- order: ints; tuples of ints -/
def intsOf : List D → Option (List Int)
  | [] => some []
  | .int i :: r => (intsOf r).map fun l => i :: l
  | _ :: _ => none
theorem intsOf_eq : ∀ {ds : List D} {ns : List Int}, intsOf ds = some ns → ds = ns.map D.int
  | [], _, e => by unfold intsOf at e; cases e; rfl
  | .int i :: r, _, e => by
    unfold intsOf at e
    cases q : intsOf r with
    | none => rw [q] at e; cases e
    | some l =>
      rw [q] at e
      cases e
      rw [List.map_cons, intsOf_eq q]
  | .non :: _, _, e => by unfold intsOf at e; cases e
  | .bl _ :: _, _, e => by unfold intsOf at e; cases e
  | .str _ :: _, _, e => by unfold intsOf at e; cases e
  | .tup _ :: _, _, e => by unfold intsOf at e; cases e
  | .ref _ :: _, _, e => by unfold intsOf at e; cases e
  | .ty _ :: _, _, e => by unfold intsOf at e; cases e
theorem intsOf_map : ∀ ns : List Int, intsOf (ns.map D.int) = some ns
  | [] => rfl
  | n :: ns => by
    rw [List.map_cons]
    unfold intsOf
    rw [intsOf_map ns]
    rfl
def opCmp (p : Int → Int → Bool) : OpD
  | .int i, .int j, G, Q, _ => Q (.bl (p i j)) G
  | _, _, _, _, _ => False
def isNon : D → Bool
  | .non => true
  | _ => false
def opIsN : OpD
  | d, .non, G, Q, _ => Q (.bl (isNon d)) G
  | _, _, _, _, _ => False
def opNotN : OpD
  | d, .non, G, Q, _ => Q (.bl (!isNon d)) G
  | _, _, _, _, _ => False
section
variable {F : Fx} {X : Cx}
theorem ro_eq : ROp F X (fun x y H Q => rEq x y H Q ∨ rEqD X.K x y H Q) opEq := by
  intro σ H G x y d e Q' E Q r ix iy q k _
  unfold opEq at q
  split at q
  · rename_i b h
    obtain ⟨h1, h2⟩ := scEq_ok ix iy h
    refine .inl ⟨h1, ?_⟩
    rw [h2]
    exact k _ G _ H (Ext.refl H) r (is_bl.mpr rfl) q
  split at q
  · refine .inr ?_
    rename_i a b e1 e2
    obtain ⟨⟨q1, q2⟩, q3⟩ := q
    obtain ⟨h1, h2⟩ := pyG_dp r ix e1
    obtain ⟨h3, h4⟩ := pyG_dp r iy e2
    exact ⟨a, b, h1, h3, by simp [SeqAt.shaped, h2, q1], by simp [SeqAt.shaped, h4, q2], k _ G _ H (Ext.refl H) r (is_bl.mpr rfl) q3⟩
  · exact q.elim
theorem ro_ne : ROp F X (fun x y H Q => rNe x y H Q ∨ rNeD X.K x y H Q) opNe := by
  intro σ H G x y d e Q' E Q r ix iy q k _
  unfold opNe at q
  split at q
  · rename_i b h
    obtain ⟨h1, h2⟩ := scEq_ok ix iy h
    refine .inl ⟨h1, ?_⟩
    rw [h2]
    exact k _ G _ H (Ext.refl H) r (is_bl.mpr rfl) q
  split at q
  · refine .inr ?_
    rename_i a b e1 e2
    obtain ⟨⟨q1, q2⟩, q3⟩ := q
    obtain ⟨h1, h2⟩ := pyG_dp r ix e1
    obtain ⟨h3, h4⟩ := pyG_dp r iy e2
    exact ⟨a, b, h1, h3, by simp [SeqAt.shaped, h2, q1], by simp [SeqAt.shaped, h4, q2], k _ G _ H (Ext.refl H) r (is_bl.mpr rfl) q3⟩
  · exact q.elim
theorem ro_cmp {p : Int → Int → Bool} : ROp F X (rI0 fun i j => .bl (p i j)) (opCmp p) := by
  intro σ H G x y d e Q' E Q r ix iy q k _
  unfold opCmp at q
  split at q
  · rw [is_int.mp ix, is_int.mp iy]
    exact ⟨_, _, rfl, rfl, k _ G _ H (Ext.refl H) r (is_bl.mpr rfl) q⟩
  · exact q.elim
theorem is_none_dec {K : PySem.W.Frag} {H : Hp} {x : V} {d : D} (i : Is K H x d) : decide (x = .non) = isNon d := by
  cases d with
  | non => rw [is_non.mp i]; rfl
  | bl b => rw [is_bl.mp i]; rfl
  | int b => rw [is_int.mp i]; rfl
  | str b => rw [is_str.mp i]; rfl
  | ref b => rw [is_ref.mp i]; rfl
  | ty b => rw [is_ty.mp i]; rfl
  | tup b => obtain ⟨a, xs, rfl, _⟩ := is_tup.mp i; rfl
theorem ro_isN : ROp F X (fun x y H Q => y = .non ∧ Q (.bl (decide (x = .non))) H) opIsN := by
  intro σ H G x y d e Q' E Q r ix iy q k _
  unfold opIsN at q
  split at q
  · refine ⟨is_non.mp iy, ?_⟩
    rw [is_none_dec ix]
    exact k _ G _ H (Ext.refl H) r (is_bl.mpr rfl) q
  · exact q.elim
theorem ro_notN : ROp F X (fun x y H Q => y = .non ∧ Q (.bl (!decide (x = .non))) H) opNotN := by
  intro σ H G x y d e Q' E Q r ix iy q k _
  unfold opNotN at q
  split at q
  · refine ⟨is_non.mp iy, ?_⟩
    rw [is_none_dec ix]
    exact k _ G _ H (Ext.refl H) r (is_bl.mpr rfl) q
  · exact q.elim
end
end GL
set_option Elab.async false
set_option linter.all false
set_option maxRecDepth 100000
set_option maxHeartbeats 1000000
/-! G3: the tables, the frames, calls. -/
namespace GL
open PySem PySem.Spec PyProof.Rows L2

/-! ### side conditions of the rules, by the form of an expression -/
def notStar : Expr → Bool
  | .Starred _ _ => false
  | _ => true
def plainBase : Expr → Bool
  | .Call (.Name _ _) _ _ _ => false
  | _ => true
def noComp : Expr → Bool
  | .ListComp _ _ _ _ => false
  | .SetComp _ _ _ _ => false
  | .DictComp _ _ _ _ _ => false
  | _ => true
theorem star_cons {e : Expr} {es : List Expr} {env : Env} (h : notStar e = true) : starEach (e :: es) env = (false, eval e env) :: starEach es env := by
  cases e <;> first | rfl | cases h
theorem star_any {env : Env} {pos : Pos} : ∀ {es : List Expr}, es.all notStar = true → (backTo pos (starEach es env)).any (·.1) = false
  | [], _ => rfl
  | e :: es, h => by
    simp only [List.all_cons, Bool.and_eq_true] at h
    rw [star_cons h.1]
    simp only [backTo, List.map_cons, List.any_cons, Bool.false_or]
    exact star_any (pos := pos) (env := env) h.2
theorem star_len {env : Env} : ∀ {es : List Expr}, (starEach es env).length = es.length
  | [] => rfl
  | e :: es => by
    cases e <;> (show _ + 1 = _ + 1; rw [star_len (es := es)])
theorem base_plain {e : Expr} {f : Str} {env : Env} {wh : Sem Value} (h : plainBase e = true) : attributeBase e f env wh = wh := by
  cases e with
  | Call fn args kws pos =>
    cases fn with
    | Name _ _ => cases h
    | _ => rfl
  | _ => rfl
theorem meth_eval {o : Expr} {m : Str} {apos pos : Pos} {args : List Expr} {env : Env} (hb : plainBase o = true) (hl : (apos.endLine == pos.line) = true) (hs : args.all notStar = true) (hn : args.length < 30) :
    eval (.Call (.Attribute o m apos) args [] pos) env = (do
      let ov ← eval o env
      standAt apos.atName
      let (f, first) ← holding [ov] (getMethod ov m (do return (← importBound o env).getD true))
      callWith pos f first (backTo pos (starEach args env)) (backToKw pos (keywordEach [] env))) := by
  have hf : methodCallForm (args.length + ([] : List Keyword).length) (backTo pos (starEach args env)) (backToKw pos (keywordEach [] env)) = true := by
    unfold methodCallForm
    have h1 : ((backTo pos (starEach args env)).all fun x => !x.1) = true := by
      rw [List.all_eq_not_any_not]
      have := star_any (env := env) (pos := pos) hs
      simpa using this
    rw [h1]
    simp [backToKw, keywordEach, hn]
  rw [eval]
  rw [base_plain hb]
  unfold methodCall
  rw [hf]
  unfold calleeOf methodCallPos
  simp only [if_true, hl, Bool.not_true, Bool.false_or]
  rfl
theorem swap_no {v : Expr} {t : Option Expr} {l : Nat} {env : Env} (h : noComp v = true) : swapsWith v t l env = pure false := by
  cases v <;> first | rfl | cases h
theorem truth_eval {e : Expr} {env : Env} (h : (match e with | .UnaryOp .Not _ _ => false | .BoolOp _ _ _ => false | .IfExp _ _ _ _ => false | .Compare _ _ _ _ => false | _ => true) = true) :
    ∀ whole, isTrue e env whole = (do let v ← whole; standAt e.pos; holding [v] (truthy v)) := by
  intro whole
  cases e with
  | UnaryOp op x p => cases op <;> first | rfl | cases h
  | BoolOp => cases h
  | IfExp => cases h
  | Compare => cases h
  | _ => rfl

/-! ### tables -/
/-- a def: a module's, a class's method, a class's own making -/
inductive FnW where
  | glob (x : Str)
  | meth (c m : Str)
  | make (c : Str)
structure FnE where
  wh : FnW
  ar : Nat
  lev : Nat
  sp : Spec
/-- a promise lifted -/
def lift (Γ : Gm) (K : PySem.W.Frag) (mg : Str → Option Value) (n : Nat) (sp : Spec) : Sp := fun vs H Q E => ∃ ds G Q' E', ds.length = n ∧ IsL K H vs ds ∧ HRep Γ K mg NoOwn G H ∧ sp ds G Q' E' ∧
  (∀ d G' v H', Ext H H' → HRep Γ K mg NoOwn G' H' → Is K H' v d → Q' d G' → Q v H') ∧
  (∀ cn p G' cls dd H', Ext H H' → HRep Γ K mg NoOwn G' H' → XIs K mg H' cn p cls dd → E' cn p G' → E cls dd H')

section
variable (P : Program) (w : World) (K : PySem.W.Frag) (mg : Str → Option Value) (base : Heap)
/-- a def stands, and keeps its promise -/
structure FnFact (Γ : Gm) (e : FnE) : Prop where
  h : match e.wh with
    | .glob x => ∃ f fd ps, mg x = some (.ref f) ∧ PySem.W.keepIn K (.ref f) = true ∧ Binds K fd ps [] ∧ ps.length = e.ar ∧ FnOk P w K mg base (L2.CX P w) e.lev f fd ps (lift Γ K mg e.ar e.sp)
    | .meth c m => ∃ C f fd ps, mg c = some (.ref C) ∧ Cls K C ∧ Meth K C m f ∧ Binds K fd ps [] ∧ ps.length = e.ar ∧ FnOk P w K mg base (L2.CX P w) e.lev f fd ps (lift Γ K mg e.ar e.sp)
    | .make c => ∃ C f fd ps, mg c = some (.ref C) ∧ Mk K C f ∧ Binds K fd ps [] ∧ ps.length = e.ar ∧ FnOk P w K mg base (L2.CX P w) e.lev f fd ps (lift Γ K mg e.ar e.sp)
end
/-- a name of the module that stands for a plain value; one that is the built-in's; an attribute of a class of one's own -/
structure GlFact (K : PySem.W.Frag) (mg : Str → Option Value) (x : Str) (d : D) : Prop where
  h : ∃ u v, mg x = some u ∧ RelV v u ∧ ∀ H, Is K H v d
structure BtFact (mg : Str → Option Value) (x : Str) : Prop where
  h : mg x = none
structure FlFact (K : PySem.W.Frag) (mg : Str → Option Value) (c f : Str) : Prop where
  h : ∀ C, mg c = some (.ref C) → Cls K C ∧ NoAttr K C f
/-- a frame: its names, its scope, the room for calls, whether loops may stand here -/
structure Inf where
  N : List Str
  sc : Scope
  lev : Nat
  lp : Bool := true
  blk : Bool := false
  lam : Bool := false
  mkl : Bool := false
  calm : Bool := true
  exc : Option (Addr × Str) := none
  qual : Str := ""
def noneOf (h0 : Hp) : Own := ⟨fun _ _ => False, h0⟩
/-- the cells of the frame's own captured names that hold something known -/
def ownOf (X : Cx) (h0 : Hp) (σ : L2.St) : Own := ⟨fun c v => ∃ (y : Str) (i : Nat), X.env.cells.lookup y = some c ∧ X.N[i]? = some y ∧ σ[i]? = some (some v) ∧ (X.env.scope.names.lookup y = some .cell ∨ X.env.scope.names.lookup y = some .free), h0⟩
def CelOk (X : Cx) : Prop := (∀ x, X.fn x = true) ∨ ∀ y c, X.env.cells.lookup y = some c → X.base.get? c = none ∧ c ∉ X.fs
structure Good (I : Inf) (F : Fx) (X : Cx) : Prop where
  N : X.N = I.N
  nd : X.N.Nodup
  sc : X.env.scope = I.sc
  calm : I.calm = true → X.calm = true
  un : X.A.units + 200 < cLine
  takes : Takes X F.W
  room : I.calm = true → Room I.lev X.A
  own : F.own = if I.lam = true then ownOf X F.h0 else fun _ => noneOf F.h0
  cel : I.lam = true → CelOk X
  old : I.lam = true → ∀ a k ds, F.g0 a = some (.clo k ds) → ∃ l, F.Γ.lam k = some l ∧ CloR X.K NoOwn F.h0 a l ds
  qual : I.mkl = true → X.env.qual = I.qual
  tab : I.mkl = true → ∃ c P, LamX.TabB X.base X.mg c P ∧ X.env.code = .ref c ∧ (P, X.env.qual ++ "<lambda>") ∈ F.Γ.T ∧ ∀ p ∈ F.Γ.T, p.1 = P → p.2 = X.env.qual ++ "<lambda>"
  exc : ∀ a cn, I.exc = some (a, cn) → ∃ (oe : Obj) (C : Addr) (pn : List (Addr × Obj)) (X0 : Cx), X = X0.suite a ((a, oe) :: pn) ∧ Zc (.ref C) none oe ∧ (∃ vs, oe.data = .fields vs) ∧ X.mg cn = some (.ref C)
  fn : I.blk = false → ∀ x, X.fn x = true
  pass : I.lp = true → PassesOwn (model X.prog X.w) X.A X.env X.xe

section
variable {I : Inf} {F : Fx} {X : Cx}
/-! ### arguments -/
def aNil : DA := fun _ G Q _ => Q [] G
def aCons (a : DE) (r : DA) : DA := fun ρ G Q E => a ρ G (fun d G1 => r ρ G1 (fun ds G2 => Q (d :: ds) G2) E) E
theorem upa_nil : PA X [] (upA F X aNil) := PA_imp pa_nil fun σ H Q ⟨ρ, G, Q', E, s, r, q, k, _⟩ => k [] G [] H (Ext.refl H) r (isL_nil.mpr rfl) q
theorem upa_cons {e : Expr} {es : List Expr} {a : DE} {b : DA} (h : notStar e = true) (ha : PE X e (up F X a)) (hb : PA X es (upA F X b)) : PA X (e :: es) (upA F X (aCons a b)) :=
  PA_imp (pa_cons ha hb (star_cons h)) fun σ H Q ⟨ρ, G, Q', E, s, r, q, k, x⟩ => ⟨ρ, G, _, E, s, r, q, fun d G1 v H1 e1 r1 i1 q1 => ⟨ρ, G1, _, E, s.ext e1, r1, q1, fun ds G2 vs H2 e2 r2 i2 q2 =>
    k (d :: ds) G2 (v :: vs) H2 (e1.trans e2) r2 (isL_cons.mpr ⟨v, vs, rfl, Is.ext e2 d v i1, i2⟩) q2, x.ext e1⟩, x⟩
/-! ### displays -/
def dTup (a : DA) : DE := fun ρ G Q E => a ρ G (fun ds G1 => ds.length ≤ 100000 ∧ Q (.tup ds) G1) E
def dLst (a : DA) : DE := fun ρ G Q E => a ρ G (fun ds G1 => ds.length ≤ 100000 ∧ dNew G1 (.lst ds) Q) E
theorem sz5 {n : Nat} (h : n ≤ 100000) : n ≤ sizeLine := Nat.le_trans h (by decide)
theorem up_tup {es : List Expr} {k : Nat} {pos : Pos} {a : DA} (h : PA X es (upA F X a)) : PE X (.Tuple es k pos) (up F X (dTup a)) :=
  PE_imp (pe_tup h) fun σ H Q ⟨ρ, G, Q', E, s, r, q, k, x⟩ => ⟨ρ, G, _, E, s, r, q, fun ds G1 vs H1 e1 r1 i1 q1 => ⟨by rw [i1.length]; exact sz5 q1.1, new_tup r1 i1 q1.2 (k.ext e1)⟩, x⟩
theorem up_lst {es : List Expr} {pos : Pos} {a : DA} (h : PA X es (upA F X a)) : PE X (.List es pos) (up F X (dLst a)) :=
  PE_imp (pe_lst h) fun σ H Q ⟨ρ, G, Q', E, s, r, q, k, x⟩ => ⟨ρ, G, _, E, s, r, q, fun ds G1 vs H1 e1 r1 i1 q1 => ⟨by rw [i1.length]; exact sz5 q1.1, new_lst r1 i1 q1.2 (k.ext e1)⟩, x⟩
/-! ### calls -/
abbrev OpA := List D → GS → DK → XD → Prop
def dApp (op : OpA) (a : DA) : DE := fun ρ G Q E => a ρ G (fun ds G1 => op ds G1 Q E) E
def ROpA (F : Fx) (X : Cx) (r : List V → Hp → VK → Prop) (op : OpA) : Prop := ∀ σ H G vs ds Q' E Q, HR F X σ G H → IsL X.K H vs ds → op ds G Q' E → KOk F X σ H Q' Q → EOk F X σ H E → r vs H Q
theorem up_app {r : List V → Hp → VK → Prop} {op : OpA} {a : DA} (h : ROpA F X r op) : ∀ σ H Q, up F X (dApp op a) σ H Q → tCB r (upA F X a) σ H Q := fun σ H Q ⟨ρ, G, Q', E, s, r0, q, k, x⟩ =>
  ⟨ρ, G, _, E, s, r0, q, fun ds G1 vs H1 e1 r1 i1 q1 => h σ H1 G1 vs ds Q' E Q r1 i1 q1 (k.ext e1) (x.ext e1), x⟩

/-- what a call asks -/
def CallPre (F : Fx) (X : Cx) (σ : L2.St) (n : Nat) (sp : Spec) (vs : List V) (H : Hp) (Q : VK) : Prop := ∃ ds G Q' E, ds.length = n ∧ IsL X.K H vs ds ∧ HR F X σ G H ∧ sp ds G Q' E ∧ KOk F X σ H Q' Q ∧ EOk F X σ H E
theorem hr_none {Γ : Gm} {K : PySem.W.Frag} {mg : Str → Option Value} {own own' : Own} {G : GS} {H : Hp} (n : ∀ c v, ¬ own.cell c v) (e : Ext own'.h0 H) (h : HRep Γ K mg own G H) : HRep Γ K mg own' G H :=
  h.mv (Mv.of fun _ _ z => z) (fun y c d r => by
    rcases r with ⟨v, q, _⟩ | r
    · exact (n c v q).elim
    · exact .inr r) e
theorem ext_none {H : Hp} : Ext (fun _ => none) H := fun _ _ _ e => by cases e
/-- the own cells: known to none, apart from the frames and the base -/
theorem cel_facts {h0 : Hp} {pins : List (Addr × Obj)} {σ : L2.St} {H : Hp} {s : Shared} (c : CelOk X) (I : Inv X pins σ H s) : ∀ a v, (ownOf X h0 σ).cell a v → (H a = none ∧ ∃ o u, s.heap.get? a = some o ∧ o.data = .cell (some u) ∧ RelV v u) ∧ a ∉ frs X.stack ∧ X.base.get? a = none := by
  intro a v ⟨y, i, h1, h2, h3, h4⟩
  have nb : X.base.get? a = none ∧ a ∉ X.fs := by
    rcases c with c | c
    · have z := I.ok.cab y a (c y) h1
      refine ⟨Heap.get?_none_of_le (Nat.le_trans I.ok.bsz z), fun q => ?_⟩
      obtain ⟨_, o, ho, _⟩ := I.ok.funs.mem q
      exact absurd (Nat.lt_of_lt_of_le (Heap.lt_size ho) z) (Nat.lt_irrefl _)
    · exact c y a h1
  refine ⟨⟨I.freeC y a h1, ?_⟩, fun q => ?_, nb.1⟩
  · obtain ⟨m, _, hl⟩ := I.loc
    obtain ⟨u, r, k⟩ := hl i y v h2 h3 (.inr h4)
    rcases k with ⟨k, _⟩ | ⟨_, c', e, o, ho, hd⟩
    · have k : X.env.scope.names.lookup y = some .local := k
      rcases h4 with z | z <;> rw [z] at k <;> cases k
    · rw [h1] at e
      cases e
      exact ⟨o, u, ho, hd, r⟩
  · rcases List.mem_cons.mp (I.stkSub a q) with e | e
    · exact I.cne y a h1 e
    · exact nb.2 e
theorem lock_hr {h0 : Hp} {pins : List (Addr × Obj)} {σ : L2.St} {H : Hp} {s : Shared} {G : GS} {Γ : Gm} (c : CelOk X) (I : Inv X pins σ H s) (r : HRep Γ X.K X.mg (ownOf X h0 σ) G H) : HRep Γ X.K X.mg NoOwn G (lk (fun a => ∃ v, (ownOf X h0 σ).cell a v) s.heap H) := by
  have F := cel_facts (h0 := h0) c I
  have sm := lk_same (h := s.heap) (H := H) (L := fun a => ∃ v, (ownOf X h0 σ).cell a v) fun a ⟨v, q⟩ => ((F a v q).1).1
  refine r.mv (Mv.of sm) (fun y a d q => ?_) ext_none
  rcases q with ⟨v, q, i⟩ | ⟨o, u, v, q1, q2, q3, q4⟩
  · obtain ⟨⟨_, o, u, h1, h2, h3⟩, _⟩ := F a v q
    refine .inr ⟨o, u, v, ?_, h2, h3, Is.tk (fun b xs z => sm b _ z) _ _ i⟩
    rw [lk_in ⟨v, q⟩, h1] <;> rfl
  · exact .inr ⟨o, u, v, sm a _ q1, q2, q3, Is.tk (fun b xs z => sm b _ z) _ _ q4⟩
theorem unlock_hr {h0 : Hp} {pins : List (Addr × Obj)} {σ : L2.St} {H H1 : Hp} {s : Shared} {G : GS} {Γ : Gm} (c : CelOk X) (I : Inv X pins σ H s) (k : ∀ a, (∃ v, (ownOf X h0 σ).cell a v) → ∃ o, s.heap.get? a = some o ∧ H1 a = some (.frz o (.own 0)))
    (e : Ext h0 (unlk (fun a => ∃ v, (ownOf X h0 σ).cell a v) H1)) (r : HRep Γ X.K X.mg NoOwn G H1) : HRep Γ X.K X.mg (ownOf X h0 σ) G (unlk (fun a => ∃ v, (ownOf X h0 σ).cell a v) H1) ∧ Mv (fun a => ∃ v, (ownOf X h0 σ).cell a v) H1 (unlk (fun a => ∃ v, (ownOf X h0 σ).cell a v) H1) := by
  have F := cel_facts (h0 := h0) c I
  have m : Mv (fun a => ∃ v, (ownOf X h0 σ).cell a v) H1 (unlk (fun a => ∃ v, (ownOf X h0 σ).cell a v) H1) := ⟨fun a ⟨v, q⟩ => by
    obtain ⟨⟨_, o, u, h1, h2, h3⟩, _⟩ := F a v q
    obtain ⟨o', e1, e2⟩ := k a ⟨v, q⟩
    rw [h1] at e1
    cases e1
    exact ⟨o, _, e2, h2⟩, fun b u z nl => by rw [unlk_out nl]; exact z⟩
  refine ⟨r.mv m (fun y a d q => ?_) e, m⟩
  rcases q with ⟨v, q, _⟩ | ⟨o, u, v, q1, q2, q3, q4⟩
  · exact q.elim
  · by_cases ha : ∃ v, (ownOf X h0 σ).cell a v
    · obtain ⟨v', q⟩ := ha
      obtain ⟨⟨_, o2, u2, h1, h2, h3⟩, _⟩ := F a v' q
      obtain ⟨o3, e1, e2⟩ := k a ⟨v', q⟩
      rw [h1] at e1
      cases e1
      rw [e2] at q1
      cases q1
      rw [h2] at q2
      cases q2
      have := h3.inj q3
      subst this
      exact .inl ⟨v', q, Is.tk m.tup _ _ q4⟩
    · exact .inr ⟨o, u, v, by rw [unlk_out ha]; exact q1, q2, q3, Is.tk m.tup _ _ q4⟩
theorem XIs.tk {K : PySem.W.Frag} {mg : Str → Option Value} {H H' : Hp} {L : Addr → Prop} {cn : Str} {p : List D} {cls : Value} {dd : Option Addr} (m : Mv L H H') (x : XIs K mg H cn p cls dd) : XIs K mg H' cn p cls dd := by
  obtain ⟨h1, h2, h3⟩ := x
  refine ⟨h1, h2, ?_⟩
  rcases h3 with h3 | ⟨d, a, v, e1, e2, e3, e4⟩
  · exact .inl h3
  · exact .inr ⟨d, a, v, e1, e2, m.at e3 (fun o z => by cases z), Is.tk m.tup _ _ e4⟩
theorem fn_goR {n : Nat} {sp : Spec} {f : Addr} {pins : List (Addr × Obj)} {σ : L2.St} {H : Hp} {s : Shared} {Q : VK} {args : Args} {vs : List V} {A : Around} (g : Good I F X)
    (run : ∀ H Q E, Env0 X.prog X.w X.K X.mg X.base A X.stack s H → lift F.Γ X.K X.mg n sp vs H Q E → codeAny (model X.prog X.w) A (.call (.ref f) args) (CR (L2.CX X.prog X.w) X.stack X.prog X.w H s Q E) s)
    (e0 : Env0 X.prog X.w X.K X.mg X.base A X.stack s H) (Iv : Inv X pins σ H s) (h : CallPre F X σ n sp vs H Q) :
    codeAny (model X.prog X.w) A (.call (.ref f) args) (CR (L2.CX X.prog X.w) X.stack X.prog X.w H s Q (WE F.W σ)) s := by
  obtain ⟨ds, G, Q', E, hn, i, r0, q, k, x⟩ := h
  have go := g.own
  have ext0 : Ext F.h0 H := by
    have := r0.old
    rw [go] at this
    cases hl : I.lam <;> simp only [hl] at this <;> exact this
  cases hl : I.lam with
  | false =>
    rw [hl, if_neg (by decide)] at go
    have e1 : ∀ σ, F.own σ = noneOf F.h0 := fun σ => by rw [go]
    refine run H Q (WE F.W σ) e0 ⟨ds, G, Q', E, hn, i, hr_none (fun c v z => by rw [e1] at z; exact z) ext_none r0, q, fun d G' v H' e r' i' q' => k d G' v H' e ?_ i' q', fun cn p G' cls dd H' e r' i' q' => x cn p G' cls dd H' e ?_ i' q'⟩
    · exact hr_none (fun c v z => z) (by rw [e1]; exact ext0.trans e) r'
    · exact hr_none (fun c v z => z) (by rw [e1]; exact ext0.trans e) r'
  | true =>
    rw [hl, if_pos rfl] at go
    have cel := g.cel hl
    have e1 : ∀ σ, F.own σ = ownOf X F.h0 σ := fun σ => by rw [go]
    have FF := cel_facts (h0 := F.h0) cel Iv
    have n1 : ∀ c, (∃ v, (ownOf X F.h0 σ).cell c v) → H c = none ∧ ∃ o, s.heap.get? c = some o := fun c ⟨v, q⟩ => by
      obtain ⟨⟨z, o, _, z2, _⟩, _⟩ := FF c v q
      exact ⟨z, o, z2⟩
    have n2 : ∀ c, (∃ v, (ownOf X F.h0 σ).cell c v) → c ∉ frs X.stack := fun c ⟨v, q⟩ => (FF c v q).2.1
    have n3 : ∀ c, (∃ v, (ownOf X F.h0 σ).cell c v) → X.base.get? c = none := fun c ⟨v, q⟩ => (FF c v q).2.2
    have sm := lk_same (h := s.heap) (H := H) (L := fun a => ∃ v, (ownOf X F.h0 σ).cell a v) fun a q => (n1 a q).1
    have ex2 : ∀ H1, Ext (lk (fun a => ∃ v, (ownOf X F.h0 σ).cell a v) s.heap H) H1 → Ext H (unlk (fun a => ∃ v, (ownOf X F.h0 σ).cell a v) H1) := fun H1 e b o st z => by
      rw [unlk_out fun q => by rw [(n1 b q).1] at z; cases z]
      exact e b o st (sm b o z)
    refine codeAny_mono (run (lk (fun a => ∃ v, (ownOf X F.h0 σ).cell a v) s.heap H) _ _ (env0_lk n1 n2 n3 e0)
      ⟨ds, G, Q', E, hn, IsL.tk (fun b xs z => sm b _ z) _ _ i, lock_hr cel Iv (by rw [← e1]; exact r0), q, fun d G' v H' e r' i' q' fz => ?_, fun cn p G' cls dd H' e r' i' q' fz => ?_⟩) fun res s' hq => cr_lk n1 n2 hq
    · obtain ⟨h1, h2⟩ := unlock_hr cel Iv fz (ext0.trans (ex2 H' e)) r'
      exact k d G' v _ (ex2 H' e) (by show HRep _ _ _ (F.own σ) _ _; rw [e1]; exact h1) (Is.tk h2.tup _ _ i') q'
    · obtain ⟨h1, h2⟩ := unlock_hr cel Iv fz (ext0.trans (ex2 H' e)) r'
      exact x cn p G' cls dd _ (ex2 H' e) (by show HRep _ _ _ (F.own σ) _ _; rw [e1]; exact h1) (XIs.tk h2 i') q'
theorem fn_go {n k : Nat} {sp : Spec} {f : Addr} {fd : FuncData} {ps : List Str} {pins : List (Addr × Obj)} {σ : L2.St} {H : Hp} {s : Shared} {Q : VK} {args : Args} {us : List Value} {vs : List V} {A : Around} (g : Good I F X) (FO : FnOk X.prog X.w X.K X.mg X.base (L2.CX X.prog X.w) k f fd ps (lift F.Γ X.K X.mg n sp))
    (hr : Room k A) (e0 : Env0 X.prog X.w X.K X.mg X.base A X.stack s H) (Iv : Inv X pins σ H s) (hb : BindsTo s fd args (ps.zip us)) (r : Vals vs us) (h : CallPre F X σ n sp vs H Q) :
    codeAny (model X.prog X.w) A (.call (.ref f) args) (CR (L2.CX X.prog X.w) X.stack X.prog X.w H s Q (WE F.W σ)) s :=
  fn_goR g (fun H Q E e0 l => FO.run A X.stack s H args us vs Q E hr e0 hb r l) e0 Iv h
theorem run_fnG {n k : Nat} {sp : Spec} {f : Addr} {fd : FuncData} {ps : List Str} {pins : List (Addr × Obj)} {σ : L2.St} {H : Hp} {s : Shared} {Q : VK} {us : List Value} {vs : List V} (g : Good I F X) (FO : FnOk X.prog X.w X.K X.mg X.base (L2.CX X.prog X.w) k f fd ps (lift F.Γ X.K X.mg n sp))
    (hps : ps.length = n) (hr : Room k X.A) (hb : Binds X.K fd ps []) (Iv : Inv X pins σ H s) (r : Vals vs us) (h : CallPre F X σ n sp vs H Q) : wpAny (model X.prog X.w) X.A (call (.ref f) us) (EP X pins σ Q) X.xe s := by
  have hl : us.length = ps.length := by
    obtain ⟨ds, G, Q', E, hn, i, r0, q, k, x⟩ := h
    rw [← r.length, i.length, hn, hps]
  have b := hb s us Iv.kIn (by rw [List.append_nil]; exact hl)
  rw [List.append_nil] at b
  refine wpAny_call (codeAny_mono (fn_go (args := ⟨us, []⟩) g FO hr Iv.env0 Iv b r h) fun r s' hq => ?_)
  cases r with
  | error e => exact passAt g.takes σ pins H s e s' Iv hq
  | ok fl =>
    cases fl with
    | ret u => exact Iv.after hq
    | next => exact False.elim hq
    | brk => exact False.elim hq
    | cont => exact False.elim hq
theorem run_mk {n k : Nat} {sp : Spec} {f C : Addr} {fd : FuncData} {ps : List Str} {pins : List (Addr × Obj)} {σ : L2.St} {H : Hp} {s : Shared} {Q : VK} {us : List Value} {vs : List V} (g : Good I F X) (M : Mk X.K C f) (FO : FnOk X.prog X.w X.K X.mg X.base (L2.CX X.prog X.w) k f fd ps (lift F.Γ X.K X.mg n sp))
    (hn : ps.length = n) (hr : Room (k + 1) X.A) (hb : Binds X.K fd ps []) (I : Inv X pins σ H s) (r : Vals vs us) (hv : vs.length + 1 = n)
    (h : ∀ x dx, H x = none → H dx = none → dx ≠ x → CallPre F X σ n sp (.ref x :: vs) (upd (upd H dx (.own x)) x (.ins C dx [])) (fun v H2 => v = .non ∧ Q (.ref x) H2)) :
    wpAny (model X.prog X.w) X.A (call (.ref C) us) (EP X pins σ Q) X.xe s := by
  have hq := h (s.heap.objs.size + 1) s.heap.objs.size (I.hok.fresh (Nat.le_succ _)) (I.hok.fresh (Nat.le_refl _)) (Nat.ne_of_lt (Nat.lt_succ_self _))
  have I2 := Inv.made (C := C) I
  have r2 : Vals (V.ref (s.heap.objs.size + 1) :: vs) (Value.ref (s.heap.objs.size + 1) :: us) := .cons rfl r
  have hl : (Value.ref (s.heap.objs.size + 1) :: us).length = ps.length := by
    rw [← r2.length, hn]
    simpa using hv
  have b := hb _ (Value.ref (s.heap.objs.size + 1) :: us) I2.kIn (by rw [List.append_nil]; exact hl)
  rw [List.append_nil] at b
  refine wpAny_call (make_map (f := f) I.kIn M.makes M.init (beq_iff_eq.mp M.fn) (codeAny_mono (fn_go (args := ⟨Value.ref (s.heap.objs.size + 1) :: us, []⟩) g FO (hr.make C us [])
    (I2.env0.make C us []) I2 b r2 hq) fun r s' hq' => ?_))
  cases r with
  | error e => exact passAt g.takes σ pins _ _ e s' I2 hq'
  | ok fl =>
    cases fl with
    | ret u =>
      obtain ⟨v, H', I3, rv, ev, q3⟩ := I2.after hq'
      subst ev
      exact ⟨rv, ⟨V.ref (s.heap.objs.size + 1), H', I3, rfl, q3⟩⟩
    | next => exact False.elim hq'
    | brk => exact False.elim hq'
    | cont => exact False.elim hq'
theorem gl_of (g : Good I F X) {x : Str} (hg : I.sc.names.lookup x = some .globalImplicit) : Gl X x := by
  show X.env.scope.names.lookup x = _
  rw [g.sc]
  exact hg

/-- f(..) -/
def dCall (n : Nat) (sp : Spec) (a : DA) : DE := fun ρ G Q E => a ρ G (fun ds G1 => ds.length = n ∧ sp ds G1 Q E) E
theorem up_call0 (g : Good I F X) (hcm : I.calm = true) {e : FnE} {x : Str} (hf : FnFact X.prog X.w X.K X.mg X.base F.Γ e) (hw : e.wh = .glob x) (hl : e.lev ≤ I.lev) (hg : I.sc.names.lookup x = some .globalImplicit) (hdb : (x == ("__debug__" : Str)) = false)
    {p pos : Pos} : PE X (.Call (.Name x p) [] [] pos) (up F X (dCall e.ar e.sp aNil)) := by
  have ff := hf.h
  rw [hw] at ff
  obtain ⟨f, fd, ps, hm, hk, hb, hps, FO⟩ := ff
  refine ⟨fun pins s σ H Q Iv h => ?_⟩
  refine wpAny_Call_Name_kw (ld_glob Iv (gl_of g hg) hm ?_ hdb)
  obtain ⟨ρ, G, Q', E, sr, r, q, k, x⟩ := h
  exact PySem.W.callWith_K0 Iv.kIn hk (run_fnG (us := []) (vs := []) g FO hps ((g.room hcm).mono hl) hb Iv .nil ⟨[], G, Q', E, q.1, isL_nil.mpr rfl, r, q.2, k, x⟩)
theorem up_call (g : Good I F X) (hcm : I.calm = true) {e : FnE} {x : Str} (hf : FnFact X.prog X.w X.K X.mg X.base F.Γ e) (hw : e.wh = .glob x) (hl : e.lev ≤ I.lev) (hg : I.sc.names.lookup x = some .globalImplicit) (hdb : (x == ("__debug__" : Str)) = false)
    {p pos : Pos} {e0 : Expr} {es : List Expr} {a : DA} (hs : (e0 :: es).all notStar = true) (ha : PA X (e0 :: es) (upA F X a)) : PE X (.Call (.Name x p) (e0 :: es) [] pos) (up F X (dCall e.ar e.sp a)) := by
  have ff := hf.h
  rw [hw] at ff
  obtain ⟨f, fd, ps, hm, hk, hb, hps, FO⟩ := ff
  simp only [List.all_cons, Bool.and_eq_true] at hs
  refine ⟨fun pins s σ H Q Iv h => ?_⟩
  refine wpAny_Call_Name_kw (ld_glob Iv (gl_of g hg) hm ?_ hdb)
  obtain ⟨ρ, G, Q', E, sr, r, q, k, x⟩ := h
  refine PySem.W.callWith_K (h₀ := X.base) Iv.ok.mod.kin hk (thn (ha.run pos pins s σ H (fun vs H1 => CallPre F X σ e.ar e.sp vs H1 Q) Iv
    ⟨ρ, G, _, E, sr, r, q, fun ds G1 vs H1 e1 r1 i1 q1 => ⟨ds, G1, Q', E, q1.1, i1, r1, q1.2, k.ext e1, x.ext e1⟩, x⟩) fun us s1 ⟨vs, H1, I1, rv, q1⟩ => ⟨I1.kIn, ?_⟩) (star_cons hs.1) (star_any hs.2)
  exact run_fnG g FO hps ((g.room hcm).mono hl) hb I1 rv q1
/-- an instance of the class cn stands at a -/
def insOf (G : GS) (cn : Str) : D → Option (Addr × List (Str × D))
  | .ref a => (match G a with
    | some (.ins c fs) => if c = cn then some (a, fs) else none
    | _ => none)
  | _ => none
theorem insOf_ok {Γ : Gm} {K : PySem.W.Frag} {mg : Str → Option Value} {own : Own} {G : GS} {H : Hp} {cn : Str} {d : D} {v : V} {z : Addr × List (Str × D)} (r : HRep Γ K mg own G H) (i : Is K H v d) (h : insOf G cn d = some z) :
    v = .ref z.1 ∧ G z.1 = some (.ins cn z.2) ∧ ∃ C dx ys, mg cn = some (.ref C) ∧ H z.1 = some (.ins C dx ys) ∧ IsP K H ys z.2 := by
  unfold insOf at h
  split at h
  · rename_i a
    split at h
    · rename_i c fs e
      split at h
      · rename_i ec
        cases h
        subst ec
        exact ⟨is_ref.mp i, e, r.obj a _ e⟩
      · cases h
    · cases h
  · cases h
/-- o.m(..) -/
def dMeth (c m : Str) (n : Nat) (sp : Spec) (o : DE) (a : DA) : DE := fun ρ G Q E => o ρ G (fun d G1 => match insOf G1 c d with
  | some z => z.2.lookup m = none ∧ a ρ G1 (fun ds G2 => (d :: ds).length = n ∧ sp (d :: ds) G2 Q E) E
  | none => False) E
theorem up_meth0 (g : Good I F X) (hcm : I.calm = true) {e : FnE} {c m : Str} (hf : FnFact X.prog X.w X.K X.mg X.base F.Γ e) (hw : e.wh = .meth c m) (hl : e.lev ≤ I.lev) {apos pos : Pos} (hp : (apos.endLine == pos.line) = true)
    {o : Expr} {od : DE} (hb : plainBase o = true) (ho : PE X o (up F X od)) : PE X (.Call (.Attribute o m apos) [] [] pos) (up F X (dMeth c m e.ar e.sp od aNil)) := by
  have ff := hf.h
  rw [hw] at ff
  obtain ⟨C, f, fd, ps, hm, hc, hk, hbi, hps, FO⟩ := ff
  refine ⟨fun pins s σ H Q Iv h => ?_⟩
  obtain ⟨ρ, G, Q', E, sr, r, q, k, x⟩ := h
  refine PySem.W.methodCall_KW (thn (ho.run pins s σ H (fun v H1 => ∃ a dx ys, v = .ref a ∧ H1 a = some (.ins C dx ys) ∧ ys.lookup m = none ∧ CallPre F X σ e.ar e.sp [.ref a] H1 Q) Iv ⟨ρ, G, _, E, sr, r, q, fun d G1 v H1 e1 r1 i1 q1 => ?_, x⟩) fun u s1 ⟨v, H1, I1, rx, a, dx, ys, ev, ea, el, q1⟩ => ?_) (meth_eval hb hp rfl (by decide))
  · cases q2 : insOf G1 c d with
    | none => simp only [q2] at q1
    | some z =>
      simp only [q2] at q1
      obtain ⟨e2, e3, C', dx, ys, hm', e4, e5⟩ := insOf_ok r1 i1 q2
      rw [hm] at hm'
      cases hm'
      refine ⟨z.1, dx, ys, e2, e4, ?_, ?_⟩
      · rcases e5.look m with ⟨_, z2⟩ | ⟨d', v', z1, _⟩
        · exact z2
        · rw [q1.1] at z1
          cases z1
      · rw [← e2]
        exact ⟨_, G1, Q', E, q1.2.1, IsL.one i1, r1, q1.2.2, k.ext e1, x.ext e1⟩
  · subst ev
    obtain rfl : u = Value.ref a := rx
    refine getmeth_ok I1 ea hc hk el ?_
    exact PySem.W.callWith_K0 (first := [.ref a]) I1.kIn hk.kp (run_fnG (us := [.ref a]) (vs := [.ref a]) g FO hps ((g.room hcm).mono hl) hbi I1 (.cons rfl .nil) q1)
theorem up_meth (g : Good I F X) (hcm : I.calm = true) {e : FnE} {c m : Str} (hf : FnFact X.prog X.w X.K X.mg X.base F.Γ e) (hw : e.wh = .meth c m) (hl : e.lev ≤ I.lev) {apos pos : Pos} (hp : (apos.endLine == pos.line) = true)
    {o e0 : Expr} {es : List Expr} {od : DE} {a : DA} (hb : plainBase o = true) (ho : PE X o (up F X od)) (hs : (e0 :: es).all notStar = true) (hn : (e0 :: es).length < 30) (ha : PA X (e0 :: es) (upA F X a)) :
    PE X (.Call (.Attribute o m apos) (e0 :: es) [] pos) (up F X (dMeth c m e.ar e.sp od a)) := by
  have ff := hf.h
  rw [hw] at ff
  obtain ⟨C, f, fd, ps, hm, hc, hk, hbi, hps, FO⟩ := ff
  refine ⟨fun pins s σ H Q Iv h => ?_⟩
  obtain ⟨ρ, G, Q', E, sr, r, q, k, x⟩ := h
  refine PySem.W.methodCall_KW (thn (ho.run pins s σ H (fun v H1 => ∃ b dx ys, v = .ref b ∧ H1 b = some (.ins C dx ys) ∧ ys.lookup m = none ∧ upA F X a σ H1 (fun vs H2 => CallPre F X σ e.ar e.sp (.ref b :: vs) H2 Q)) Iv ⟨ρ, G, _, E, sr, r, q, fun d G1 v H1 e1 r1 i1 q1 => ?_, x⟩) fun u s1 ⟨v, H1, I1, rx, b, dx, ys, ev, ea, el, q1⟩ => ?_) (meth_eval hb hp hs hn)
  · cases q2 : insOf G1 c d with
    | none => simp only [q2] at q1
    | some z =>
      simp only [q2] at q1
      obtain ⟨e2, e3, C', dx, ys, hm', e4, e5⟩ := insOf_ok r1 i1 q2
      rw [hm] at hm'
      cases hm'
      refine ⟨z.1, dx, ys, e2, e4, ?_, ?_⟩
      · rcases e5.look m with ⟨_, z2⟩ | ⟨d', v', z1, _⟩
        · exact z2
        · rw [q1.1] at z1
          cases z1
      · rw [← e2]
        exact ⟨ρ, G1, _, E, sr.ext e1, r1, q1.2, fun ds G2 vs H2 e6 r2 i2 q3 => ⟨_, G2, Q', E, q3.1, isL_cons.mpr ⟨_, _, rfl, Is.ext e6 d v i1, i2⟩, r2, q3.2, k.ext (e1.trans e6), x.ext (e1.trans e6)⟩, x.ext e1⟩
  · subst ev
    obtain rfl : u = Value.ref b := rx
    refine getmeth_ok I1 ea hc hk el ?_
    simp only [List.all_cons, Bool.and_eq_true] at hs
    refine PySem.W.callWith_K (first := [.ref b]) (h₀ := X.base) I1.ok.mod.kin hk.kp (thn (ha.run pos pins s1 σ H1 _ I1 q1) fun us s2 ⟨vs, H2, I2, r, q2⟩ => ⟨I2.kIn, ?_⟩) (star_cons hs.1) (star_any hs.2)
    exact run_fnG (us := .ref b :: us) (vs := .ref b :: vs) g FO hps ((g.room hcm).mono hl) hbi I2 (.cons rfl r) q2
/-- C(..) -/
def dMake (c : Str) (n : Nat) (sp : Spec) (a : DA) : DE := fun ρ G Q E => a ρ G (fun ds G1 => ds.length + 1 = n ∧ ∀ p, G1 p = none → sp (.ref p :: ds) (gup G1 p (.ins c [])) (fun d G2 => (match d with | .non => True | _ => False) ∧ Q (.ref p) G2) E) E
theorem make_lift (g : Good I F X) {c : Str} {C : Addr} {n : Nat} {sp : Spec} {σ : L2.St} {H : Hp} {G : GS} {vs : List V} {ds : List D} {Q' : DK} {E : XD} {Q : VK} (hm : X.mg c = some (.ref C)) (hn : ds.length + 1 = n) (r : HR F X σ G H) (i : IsL X.K H vs ds)
    (q : ∀ p, G p = none → sp (.ref p :: ds) (gup G p (.ins c [])) (fun d G2 => (match d with | .non => True | _ => False) ∧ Q' (.ref p) G2) E) (k : KOk F X σ H Q' Q) (x : EOk F X σ H E) :
    ∀ p dx, H p = none → H dx = none → dx ≠ p → CallPre F X σ n sp (.ref p :: vs) (upd (upd H dx (.own p)) p (.ins C dx [])) (fun v H2 => v = .non ∧ Q (.ref p) H2) := fun p dx hp hdx hne => by
  have r1 : HR F X σ G (upd H dx (.own p)) := r.grow hdx
  have hp1 : upd H dx (.own p) p = none := by rw [upd_ne (Ne.symm hne)]; exact hp
  have e1 : Ext H (upd (upd H dx (.own p)) p (.ins C dx [])) := (Ext.new hdx).trans (Ext.new hp1)
  have r2 : HR F X σ (gup G p (.ins c [])) (upd (upd H dx (.own p)) p (.ins C dx [])) := r1.new (u := .ins c []) hp1 ⟨C, dx, [], hm, upd_same, rfl⟩
  refine ⟨.ref p :: ds, gup G p (.ins c []), fun d G2 => (match d with | .non => True | _ => False) ∧ Q' (.ref p) G2, E, by simpa using hn, isL_cons.mpr ⟨_, _, rfl, is_ref.mpr rfl, i.ext e1⟩, r2, q p (r.fresh hp), fun d G2 v H2 e2 r3 i3 q3 => ?_, x.ext e1⟩
  refine ⟨?_, k (.ref p) G2 (.ref p) H2 (e1.trans e2) r3 (is_ref.mpr rfl) q3.2⟩
  cases d with
  | non => exact is_non.mp i3
  | _ => exact q3.1.elim
theorem up_make0 (g : Good I F X) (hcm : I.calm = true) {e : FnE} {c : Str} (hf : FnFact X.prog X.w X.K X.mg X.base F.Γ e) (hw : e.wh = .make c) (hl : e.lev + 1 ≤ I.lev) (hg : I.sc.names.lookup c = some .globalImplicit) (hdb : (c == ("__debug__" : Str)) = false)
    {p pos : Pos} : PE X (.Call (.Name c p) [] [] pos) (up F X (dMake c e.ar e.sp aNil)) := by
  have ff := hf.h
  rw [hw] at ff
  obtain ⟨C, f, fd, ps, hm, M, hb, hps, FO⟩ := ff
  refine ⟨fun pins s σ H Q Iv h => ?_⟩
  refine wpAny_Call_Name_kw (ld_glob Iv (gl_of g hg) hm ?_ hdb)
  obtain ⟨ρ, G, Q', E, sr, r, q, k, x⟩ := h
  exact PySem.W.callWith_K0 Iv.kIn M.kp (run_mk (us := []) (vs := []) g M FO hps ((g.room hcm).mono hl) hb Iv .nil (by simpa using q.1) (make_lift g hm q.1 r (isL_nil.mpr rfl) q.2 k x))
theorem up_make (g : Good I F X) (hcm : I.calm = true) {e : FnE} {c : Str} (hf : FnFact X.prog X.w X.K X.mg X.base F.Γ e) (hw : e.wh = .make c) (hl : e.lev + 1 ≤ I.lev) (hg : I.sc.names.lookup c = some .globalImplicit) (hdb : (c == ("__debug__" : Str)) = false)
    {p pos : Pos} {e0 : Expr} {es : List Expr} {a : DA} (hs : (e0 :: es).all notStar = true) (ha : PA X (e0 :: es) (upA F X a)) : PE X (.Call (.Name c p) (e0 :: es) [] pos) (up F X (dMake c e.ar e.sp a)) := by
  have ff := hf.h
  rw [hw] at ff
  obtain ⟨C, f, fd, ps, hm, M, hb, hps, FO⟩ := ff
  simp only [List.all_cons, Bool.and_eq_true] at hs
  refine ⟨fun pins s σ H Q Iv h => ?_⟩
  refine wpAny_Call_Name_kw (ld_glob Iv (gl_of g hg) hm ?_ hdb)
  obtain ⟨ρ, G, Q', E, sr, r, q, k, x⟩ := h
  refine PySem.W.callWith_K (h₀ := X.base) Iv.ok.mod.kin M.kp (thn (ha.run pos pins s σ H (fun vs H1 => vs.length + 1 = e.ar ∧ ∀ p dx, H1 p = none → H1 dx = none → dx ≠ p → CallPre F X σ e.ar e.sp (.ref p :: vs) (upd (upd H1 dx (.own p)) p (.ins C dx [])) (fun v H2 => v = .non ∧ Q (.ref p) H2)) Iv
    ⟨ρ, G, _, E, sr, r, q, fun ds G1 vs H1 e1 r1 i1 q1 => ⟨by rw [i1.length]; exact q1.1, make_lift g hm q1.1 r1 i1 q1.2 (k.ext e1) (x.ext e1)⟩, x⟩) fun us s1 ⟨vs, H1, I1, rv, q0, q1⟩ => ⟨I1.kIn, ?_⟩) (star_cons hs.1) (star_any hs.2)
  exact run_mk g M FO hps ((g.room hcm).mono hl) hb I1 rv q0 q1
/-- o.f -/
def dFld (c f : Str) (o : DE) : DE := fun ρ G Q E => o ρ G (fun d G1 => match insOf G1 c d with
  | some z => (match z.2.lookup f with
    | some x => Q x G1
    | none => False)
  | none => False) E
theorem up_fld (g : Good I F X) {c f : Str} (hf : FlFact X.K X.mg c f) {o : Expr} {od : DE} {pos : Pos} (hb : plainBase o = true) (ho : PE X o (up F X od)) : PE X (.Attribute o f pos) (up F X (dFld c f od)) := by
  refine PE_imp (pe_fld ho (base_plain hb)) fun σ H Q ⟨ρ, G, Q', E, sr, r, q, k, x⟩ => ⟨ρ, G, _, E, sr, r, q, fun d G1 v H1 e1 r1 i1 q1 => ?_, x⟩
  cases q2 : insOf G1 c d with
  | none => simp only [q2] at q1
  | some z =>
    simp only [q2] at q1
    obtain ⟨e2, e3, C, dx, ys, hm, e4, e5⟩ := insOf_ok r1 i1 q2
    obtain ⟨h1, h2⟩ := hf.h C hm
    rcases e5.look f with ⟨z1, _⟩ | ⟨d', v', z1, z2, z3⟩
    · simp only [z1] at q1
    · simp only [z1] at q1
      exact ⟨z.1, C, dx, ys, v', e2, e4, h1, h2, z2, k d' G1 v' H1 e1 r1 z3 q1⟩
end
end GL
set_option Elab.async false
set_option linter.all false
set_option maxRecDepth 100000
set_option maxHeartbeats 1000000
/-! G4: tests, items, slices, built-ins. -/
namespace GL
open PySem PySem.Spec PyProof.Rows L2
section
variable {I : Inf} {F : Fx} {X : Cx}

/-! ### tests -/
def dBool (Q : Bool → GS → Prop) : DK := fun d G => match d with
  | .bl b => Q b G
  | _ => False
def dTst (a : DE) : DT := fun ρ G Q E => a ρ G (dBool Q) E
theorem dBool_ok {K : PySem.W.Frag} {H : Hp} {Q : Bool → GS → Prop} {d : D} {v : V} {G : GS} (i : Is K H v d) (q : dBool Q d G) : ∃ b, v = .bl b ∧ d = .bl b ∧ Q b G := by
  unfold dBool at q
  split at q
  · exact ⟨_, is_bl.mp i, rfl, q⟩
  · exact q.elim
theorem upT_cmp {op : CmpOp} {r : R2} {od : OpD} {a b : Expr} {da db : DE} {pos : Pos} (ho : OpR X (compareOp op) r) (ro : ROp F X r od) (hm : behindInMarks op b = false) (ha : PE X a (up F X da)) (hb : PE X b (up F X db)) :
    PT X (.Compare a [op] [b] pos) (upT F X (dTst (dBin od da db))) := PT_imp (pt_cmpR ho ha hb hm) fun σ H Q ⟨ρ, G, Q', E, s, r0, q, k, x⟩ =>
  up_bin ro σ H _ ⟨ρ, G, _, E, s, r0, q, fun d G1 v H1 e1 r1 i1 q1 => by
    obtain ⟨b, e2, _, q2⟩ := dBool_ok i1 q1
    exact ⟨b, e2, k b G1 H1 e1 r1 q2⟩, x⟩
/-- an expression of its own value -/
def isVal : Expr → Bool
  | .UnaryOp .Not _ _ => false
  | .BoolOp _ _ _ => false
  | .IfExp _ _ _ _ => false
  | .Compare _ _ _ _ => false
  | _ => true
theorem upT_val {e : Expr} {d : DE} (h : isVal e = true) (he : PE X e (up F X d)) : PT X e (upT F X (dTst d)) := by
  have hv : ∀ whole, isTrue e X.env whole = (do let v ← whole; standAt e.pos; holding [v] (truthy v)) := by
    intro whole
    cases e with
    | UnaryOp op x p => cases op <;> first | rfl | cases h
    | BoolOp => cases h
    | IfExp => cases h
    | Compare => cases h
    | _ => rfl
  exact PT_imp (pt_val he hv) fun σ H Q ⟨ρ, G, Q', E, s, r0, q, k, x⟩ => ⟨ρ, G, _, E, s, r0, q, fun d G1 v H1 e1 r1 i1 q1 => by
    obtain ⟨b, e2, _, q2⟩ := dBool_ok i1 q1
    exact ⟨b, e2, k b G1 H1 e1 r1 q2⟩, x⟩
def dNotT (a : DT) : DT := fun ρ G Q E => a ρ G (fun b G1 => Q (!b) G1) E
theorem upT_not {a : Expr} {t : DT} {pos : Pos} (h : PT X a (upT F X t)) : PT X (.UnaryOp .Not a pos) (upT F X (dNotT t)) :=
  PT_imp (pt_not h) fun σ H Q ⟨ρ, G, Q', E, s, r0, q, k, x⟩ => ⟨ρ, G, _, E, s, r0, q, fun b G1 H1 e1 r1 q1 => k (!b) G1 H1 e1 r1 q1, x⟩
def dAndT (a b : DT) : DT := fun ρ G Q E => a ρ G (fun c G1 => if c = true then b ρ G1 Q E else Q false G1) E
def dOrT (a b : DT) : DT := fun ρ G Q E => a ρ G (fun c G1 => if c = true then Q true G1 else b ρ G1 Q E) E
theorem upT_and {a b : DT} : ∀ σ H Q, upT F X (dAndT a b) σ H Q → tAnd (upT F X a) (upT F X b) σ H Q := fun σ H Q ⟨ρ, G, Q', E, s, r0, q, k, x⟩ =>
  ⟨ρ, G, _, E, s, r0, q, fun c G1 H1 e1 r1 q1 => by
    cases c with
    | true =>
      simp only [if_true] at q1 ⊢
      exact ⟨ρ, G1, Q', E, s.ext e1, r1, q1, fun b G2 H2 e2 r2 q2 => k b G2 H2 (e1.trans e2) r2 q2, x.ext e1⟩
    | false =>
      simp only [Bool.false_eq_true, if_false] at q1 ⊢
      exact k false G1 H1 e1 r1 q1, x⟩
theorem upT_or {a b : DT} : ∀ σ H Q, upT F X (dOrT a b) σ H Q → tOr (upT F X a) (upT F X b) σ H Q := fun σ H Q ⟨ρ, G, Q', E, s, r0, q, k, x⟩ =>
  ⟨ρ, G, _, E, s, r0, q, fun c G1 H1 e1 r1 q1 => by
    cases c with
    | true =>
      simp only [if_true] at q1 ⊢
      exact k true G1 H1 e1 r1 q1
    | false =>
      simp only [Bool.false_eq_true, if_false] at q1 ⊢
      exact ⟨ρ, G1, Q', E, s.ext e1, r1, q1, fun b G2 H2 e2 r2 q2 => k b G2 H2 (e1.trans e2) r2 q2, x.ext e1⟩, x⟩
/-- a if t else b -/
def dIte (t : DT) (a b : DE) : DE := fun ρ G Q E => t ρ G (fun c G1 => if c = true then a ρ G1 Q E else b ρ G1 Q E) E
theorem up_ite {c a b : Expr} {t : DT} {da db : DE} {pos : Pos} (hc : PT X c (upT F X t)) (ha : PE X a (up F X da)) (hb : PE X b (up F X db)) : PE X (.IfExp c a b pos) (up F X (dIte t da db)) :=
  PE_imp (pe_ifExp hc ha hb) fun σ H Q ⟨ρ, G, Q', E, s, r0, q, k, x⟩ => ⟨ρ, G, _, E, s, r0, q, fun c G1 H1 e1 r1 q1 => by
    cases c with
    | true =>
      simp only [if_true] at q1 ⊢
      exact ⟨ρ, G1, Q', E, s.ext e1, r1, q1, k.ext e1, x.ext e1⟩
    | false =>
      simp only [Bool.false_eq_true, if_false] at q1 ⊢
      exact ⟨ρ, G1, Q', E, s.ext e1, r1, q1, k.ext e1, x.ext e1⟩, x⟩
/-- and, or, not as values (bools) -/
def dAndV (a b : DE) : DE := fun ρ G Q E => a ρ G (dBool fun c G1 => if c = true then b ρ G1 Q E else Q (.bl false) G1) E
def dOrV (a b : DE) : DE := fun ρ G Q E => a ρ G (dBool fun c G1 => if c = true then Q (.bl true) G1 else b ρ G1 Q E) E
def dNotV (a : DE) : DE := fun ρ G Q E => a ρ G (dBool fun c G1 => Q (.bl (!c)) G1) E
theorem up_andV {a b : DE} : ∀ σ H Q, up F X (dAndV a b) σ H Q → tAndV (up F X a) (up F X b) σ H Q := fun σ H Q ⟨ρ, G, Q', E, s, r0, q, k, x⟩ =>
  ⟨ρ, G, _, E, s, r0, q, fun d G1 v H1 e1 r1 i1 q1 => by
    obtain ⟨c, e2, _, q2⟩ := dBool_ok i1 q1
    refine ⟨c, e2, ?_⟩
    cases c with
    | true =>
      simp only [if_true] at q2 ⊢
      exact ⟨ρ, G1, Q', E, s.ext e1, r1, q2, k.ext e1, x.ext e1⟩
    | false =>
      simp only [Bool.false_eq_true, if_false] at q2 ⊢
      exact k _ G1 _ H1 e1 r1 (is_bl.mpr rfl) q2, x⟩
theorem up_orV {a b : DE} : ∀ σ H Q, up F X (dOrV a b) σ H Q → tOrV (up F X a) (up F X b) σ H Q := fun σ H Q ⟨ρ, G, Q', E, s, r0, q, k, x⟩ =>
  ⟨ρ, G, _, E, s, r0, q, fun d G1 v H1 e1 r1 i1 q1 => by
    obtain ⟨c, e2, _, q2⟩ := dBool_ok i1 q1
    refine ⟨c, e2, ?_⟩
    cases c with
    | true =>
      simp only [if_true] at q2 ⊢
      exact k _ G1 _ H1 e1 r1 (is_bl.mpr rfl) q2
    | false =>
      simp only [Bool.false_eq_true, if_false] at q2 ⊢
      exact ⟨ρ, G1, Q', E, s.ext e1, r1, q2, k.ext e1, x.ext e1⟩, x⟩
theorem up_notV {a : DE} : ∀ σ H Q, up F X (dNotV a) σ H Q → tNotV (up F X a) σ H Q := fun σ H Q ⟨ρ, G, Q', E, s, r0, q, k, x⟩ =>
  ⟨ρ, G, _, E, s, r0, q, fun d G1 v H1 e1 r1 i1 q1 => by
    obtain ⟨c, e2, _, q2⟩ := dBool_ok i1 q1
    exact ⟨c, e2, k _ G1 _ H1 e1 r1 (is_bl.mpr rfl) q2⟩, x⟩
/-- a < b < c -/
def dChain (p p' : OpD) (a b c : DE) : DE := fun ρ G Q E => a ρ G (fun x G1 => b ρ G1 (fun y G2 => p x y G2 (dBool fun k G3 => if k = true then c ρ G3 (fun z G4 => p' y z G4 Q E) E else Q (.bl false) G3) E) E) E
theorem up_chain {r r' : R2} {p p' : OpD} {a b c : DE} (h : ROp F X r p) (h' : ROp F X r' p') : ∀ σ H Q, up F X (dChain p p' a b c) σ H Q → tChain r r' (up F X a) (up F X b) (up F X c) σ H Q := fun σ H Q ⟨ρ, G, Q', E, s, r0, q, k, x⟩ =>
  ⟨ρ, G, _, E, s, r0, q, fun d G1 v H1 e1 r1 i1 q1 => ⟨ρ, G1, _, E, s.ext e1, r1, q1, fun d2 G2 v2 H2 e2 r2 i2 q2 =>
    h σ H2 G2 v v2 d d2 _ E _ r2 (Is.ext e2 d v i1) i2 q2 (fun d3 G3 v3 H3 e3 r3 i3 q3 => by
      obtain ⟨c, e4, _, q4⟩ := dBool_ok i3 q3
      refine ⟨c, e4, ?_⟩
      cases c with
      | true =>
        simp only [if_true] at q4 ⊢
        have ee := (e1.trans e2).trans e3
        exact ⟨ρ, G3, _, E, s.ext ee, r3, q4, fun d5 G5 v5 H5 e5 r5 i5 q5 => h' σ H5 G5 v2 v5 d2 d5 Q' E Q r5 (Is.ext (e3.trans e5) d2 v2 i2) i5 q5 (k.ext (ee.trans e5)) (x.ext (ee.trans e5)), x.ext ee⟩
      | false =>
        simp only [Bool.false_eq_true, if_false] at q4 ⊢
        exact k _ G3 _ H3 ((e1.trans e2).trans e3) r3 (is_bl.mpr rfl) q4) (x.ext (e1.trans e2)), x.ext e1⟩, x⟩

/-! ### items, slices -/
def opIx : OpD
  | .str z, .int i, G, Q, _ => z.length ≤ sizeLine ∧ (match atI z.cps.toList i with
    | some c => Q (.str ⟨#[c]⟩) G
    | none => False)
  | d, .int i, G, Q, _ => (match seqOf G d with
    | some xs => (match atI xs i with
      | some x => Q x G
      | none => False)
    | none => False)
  | _, _, _, _, _ => False
theorem atI_is {K : PySem.W.Frag} {H : Hp} {xs : List V} {ds : List D} {i : Int} {d : D} (h : IsL K H xs ds) (e : atI ds i = some d) : ∃ v, atI xs i = some v ∧ Is K H v d := by
  unfold atI at e ⊢
  rw [h.length]
  cases q : ixN ds.length i with
  | none => rw [q] at e; cases e
  | some j =>
    rw [q] at e
    exact h.get e
theorem ro_ix : ROp F X (fun x y H Q => rIxL X.K x y H Q ∨ rIxT X.K x y H Q ∨ rIxS x y H Q) opIx := by
  intro σ H G x y d e Q' E Q r ix iy q k _
  unfold opIx at q
  split at q
  · rename_i z i
    rw [is_str.mp ix, is_int.mp iy]
    obtain ⟨q1, q2⟩ := q
    split at q2
    · rename_i c e1
      exact .inr (.inr ⟨z, i, c, rfl, rfl, q1, e1, k _ G _ H (Ext.refl H) r (is_str.mpr rfl) q2⟩)
    · exact q2.elim
  · rename_i i _
    rw [is_int.mp iy]
    split at q
    · rename_i xs e1
      split at q
      · rename_i w e2
        obtain ⟨a, vs, rfl, h1, h2⟩ := seqOf_sq r ix e1
        obtain ⟨v, e3, h3⟩ := atI_is h2 e2
        rcases h1 with h1 | h1
        · exact .inl ⟨a, vs, i, v, rfl, rfl, h1, e3, k _ G _ H (Ext.refl H) r h3 q⟩
        · exact .inr (.inl ⟨a, vs, i, v, rfl, rfl, h1, e3, k _ G _ H (Ext.refl H) r h3 q⟩)
      · exact q.elim
    · exact q.elim
  · exact q.elim
def notSlice : Expr → Bool
  | .Slice _ _ _ _ => false
  | _ => true
theorem plainIx {b : Expr} (h : notSlice b = true) : PlainIx b := by
  intro o i
  cases b <;> first | rfl | cases h
theorem up_ix {a b : Expr} {da db : DE} {pos : Pos} (hb : notSlice b = true) (ha : PE X a (up F X da)) (hi : PE X b (up F X db)) : PE X (.Subscript a b pos) (up F X (dBin opIx da db)) :=
  PE_imp (pe_ix ix_seq ha hi (plainIx hb)) (up_bin ro_ix)
/-- an end of a slice: left out, or an int -/
abbrev DO := Rho → GS → (Option Int → GS → Prop) → XD → Prop
def dNoPart : DO := fun _ G Q _ => Q none G
def dInt (Q : Int → GS → Prop) : DK := fun d G => match d with
  | .int i => Q i G
  | _ => False
theorem dInt_ok {K : PySem.W.Frag} {H : Hp} {Q : Int → GS → Prop} {d : D} {v : V} {G : GS} (i : Is K H v d) (q : dInt Q d G) : ∃ b, v = .int b ∧ d = .int b ∧ Q b G := by
  unfold dInt at q
  split at q
  · exact ⟨_, is_int.mp i, rfl, q⟩
  · exact q.elim
def dPart (a : DE) : DO := fun ρ G Q E => a ρ G (dInt fun i G1 => Q (some i) G1) E
def upO (F : Fx) (X : Cx) (d : DO) : TO := fun σ H Q => ∃ ρ G Q' E, SRep X.K H σ ρ ∧ HR F X σ G H ∧ d ρ G Q' E ∧ (∀ b G H', Ext H H' → HR F X σ G H' → Q' b G → Q b H') ∧ EOk F X σ H E
theorem PO_imp {e : Option Expr} {t u : TO} (h : PO X e t) (i : ∀ σ H Q, u σ H Q → t σ H Q) : PO X e u := ⟨fun pins s σ H Q I q => h.run pins s σ H Q I (i σ H Q q)⟩
theorem upO_none : PO X none (upO F X dNoPart) := PO_imp po_none fun σ H Q ⟨ρ, G, Q', E, s, r0, q, k, x⟩ => k none G H (Ext.refl H) r0 q
theorem upO_some {e : Expr} {d : DE} (h : PE X e (up F X d)) : PO X (some e) (upO F X (dPart d)) := PO_imp (po_some h) fun σ H Q ⟨ρ, G, Q', E, s, r0, q, k, x⟩ =>
  ⟨ρ, G, _, E, s, r0, q, fun d G1 v H1 e1 r1 i1 q1 => by
    obtain ⟨b, e2, _, q2⟩ := dInt_ok i1 q1
    exact ⟨b, e2, k _ G1 H1 e1 r1 q2⟩, x⟩
def cutD (xs : List D) (lo hi : Option Int) : List D := (xs.drop (HT.sIx xs.length 0 lo)).take (HT.sIx xs.length xs.length hi - HT.sIx xs.length 0 lo)
theorem cut_is {K : PySem.W.Frag} {H : Hp} {xs : List V} {ds : List D} {lo hi : Option Int} (h : IsL K H xs ds) : IsL K H (cutV xs lo hi) (cutD ds lo hi) := by
  unfold cutV cutD
  rw [h.length]
  exact (h.drop _).take _
def opSl (d : D) (lo hi : Option Int) (G : GS) (Q : DK) : Prop := match d with
  | .str z => z.length ≤ sizeLine ∧ Q (.str (cutS z lo hi)) G
  | .tup xs => Q (.tup (cutD xs lo hi)) G
  | .ref a => (match lsqOf G a with
    | some xs => dNew G (.lst (cutD xs lo hi)) Q
    | none => False)
  | _ => False
def dSl (a : DE) (l h : DO) : DE := fun ρ G Q E => a ρ G (fun d G1 => l ρ G1 (fun lo G2 => h ρ G2 (fun hi G3 => opSl d lo hi G3 Q) E) E) E
theorem ro_sl {σ : L2.St} {H : Hp} {G : GS} {v : V} {d : D} {lo hi : Option Int} {Q' : DK} {Q : VK} (r : HR F X σ G H) (i : Is X.K H v d) (q : opSl d lo hi G Q') (k : KOk F X σ H Q' Q) :
    rSlL X.K v lo hi H Q ∨ rSlA X.K v lo hi H Q ∨ rSlS v lo hi H Q := by
  unfold opSl at q
  split at q
  · rename_i z
    exact .inr (.inr ⟨z, is_str.mp i, q.1, k _ G _ H (Ext.refl H) r (is_str.mpr rfl) q.2⟩)
  · rename_i ds
    obtain ⟨a, xs, rfl, h1, h2⟩ := is_tup.mp i
    refine .inr (.inl ⟨a, xs, rfl, h1.sq, fun hw => ?_, fun _ => new_tup r (cut_is h2) q k⟩)
    have e : cutD ds lo hi = ds := by
      unfold cutD
      rw [← h2.length, hw.1, hw.2, h2.length]
      simp
    rw [e] at q
    exact k _ G _ H (Ext.refl H) r (is_tup.mpr ⟨a, xs, rfl, h1, h2⟩) q
  · rename_i a
    split at q
    · rename_i xs e1
      obtain ⟨vs, h1, h2⟩ := lsqOf_sq r e1
      exact .inl ⟨a, vs, is_ref.mp i, h1, new_lst r (cut_is h2) q k⟩
    · exact q.elim
  · exact q.elim
theorem up_sl {a : Expr} {lo hi : Option Expr} {da : DE} {dl dh : DO} {p pos : Pos} (ha : PE X a (up F X da)) (hl : PO X lo (upO F X dl)) (hh : PO X hi (upO F X dh)) : PE X (.Subscript a (.Slice lo hi none p) pos) (up F X (dSl da dl dh)) :=
  PE_imp (pe_slice (sl_list.or (sl_tupA.or sl_str)) ha hl hh) fun σ H Q ⟨ρ, G, Q', E, s, r0, q, k, x⟩ =>
    ⟨ρ, G, _, E, s, r0, q, fun d G1 v H1 e1 r1 i1 q1 => ⟨ρ, G1, _, E, s.ext e1, r1, q1, fun lo G2 H2 e2 r2 q2 => ⟨ρ, G2, _, E, s.ext (e1.trans e2), r2, q2, fun hi G3 H3 e3 r3 q3 =>
      ro_sl r3 (Is.ext (e2.trans e3) d v i1) q3 (k.ext ((e1.trans e2).trans e3)), x.ext (e1.trans e2)⟩, x.ext e1⟩, x⟩
/-- a[::-1] of a list -/
def opRev : D → GS → DK → Prop
  | .ref a, G, Q => (match lsqOf G a with
    | some xs => dNew G (.lst xs.reverse) Q
    | none => False)
  | _, _, _ => False
def dRev (a : DE) : DE := fun ρ G Q E => a ρ G (fun d G1 => opRev d G1 Q) E
theorem up_rev {a : Expr} {da : DE} {k : Nat} {p1 p2 p3 pos : Pos} (ha : PE X a (up F X da)) : PE X (.Subscript a (.Slice none none (some (.UnaryOp .USub (.Constant (.int 1) k p1) p2)) p3) pos) (up F X (dRev da)) :=
  PE_imp (pe_revL ha) fun σ H Q ⟨ρ, G, Q', E, s, r0, q, k, x⟩ => ⟨ρ, G, _, E, s, r0, q, fun d G1 v H1 e1 r1 i1 q1 => by
    have q1 : opRev d G1 Q' := q1
    cases d with
    | ref a =>
      have q1 : (match lsqOf G1 a with
        | some xs => dNew G1 (.lst xs.reverse) Q'
        | none => False) := q1
      split at q1
      · rename_i xs e2
        obtain ⟨vs, h1, h2⟩ := lsqOf_sq r1 e2
        exact ⟨a, vs, is_ref.mp i1, h1, new_lst r1 h2.reverse q1 (k.ext e1)⟩
      · exact q1.elim
    | _ => exact q1.elim, x⟩
def dNeg (a : DE) : DE := fun ρ G Q E => a ρ G (dInt fun i G1 => Q (.int (-i)) G1) E
theorem up_neg {a : Expr} {da : DE} {pos : Pos} (ha : PE X a (up F X da)) : PE X (.UnaryOp .USub a pos) (up F X (dNeg da)) :=
  PE_imp (pe_un un_neg ha) fun σ H Q ⟨ρ, G, Q', E, s, r0, q, k, x⟩ => ⟨ρ, G, _, E, s, r0, q, fun d G1 v H1 e1 r1 i1 q1 => by
    obtain ⟨b, e2, _, q2⟩ := dInt_ok i1 q1
    exact ⟨b, e2, k _ G1 _ H1 e1 r1 (is_int.mpr rfl) q2⟩, x⟩

/-! ### built-ins -/
/-- how many -/
def lenD (G : GS) : D → Option Nat
  | .str z => if z.length ≤ sizeLine then some z.length else none
  | .tup xs => some xs.length
  | .ref a => (match G a with
    | some (.lst xs) => some xs.length
    | some (.rol xs) => some xs.length
    | some (.dK xs) => some xs.length
    | some (.dT xs) => some xs.length
    | _ => none)
  | _ => none
def opLen : OpA
  | [d], G, Q, _ => (match lenD G d with
    | some n => Q (.int n) G
    | none => False)
  | _, _, _, _ => False
abbrev rLenAll (K : PySem.W.Frag) : List V → Hp → VK → Prop := fun xs H Q => (∃ p ys, xs = [.ref p] ∧ (SqL K H p ys ∨ SqT K H p ys) ∧ Q (.int ys.length) H) ∨ (∃ z, xs = [.str z] ∧ z.length ≤ sizeLine ∧ Q (.int z.length) H) ∨ (∃ a kvs, xs = [V.ref a] ∧ H a = some (.dK kvs) ∧ Q (.int kvs.length) H) ∨ rLenT xs H Q
theorem call_lenAll : CallR X (.builtin "len") (rLenAll X.K) := call_len_seq.or (call_len_str.or (call_lenD.or call_len_dT))
theorem ro_len : ROpA F X (rLenAll X.K) opLen := by
  intro σ H G vs ds Q' E Q r i q k _
  unfold opLen at q
  split at q
  · rename_i d
    obtain ⟨v, r1, rfl, i1, i2⟩ := isL_cons.mp i
    rw [isL_nil.mp i2]
    split at q
    · rename_i n e
      have fin : Q (.int n) H := k _ G _ H (Ext.refl H) r (is_int.mpr rfl) q
      unfold lenD at e
      split at e
      · rename_i z
        split at e
        · rename_i hz
          cases e
          rw [is_str.mp i1]
          exact .inr (.inl ⟨z, rfl, hz, fin⟩)
        · cases e
      · rename_i xs
        cases e
        obtain ⟨a, ys, rfl, h1, h2⟩ := is_tup.mp i1
        refine .inl ⟨a, ys, rfl, .inr h1.sq, ?_⟩
        rw [h2.length]
        exact fin
      · rename_i a
        rw [is_ref.mp i1]
        split at e
        · rename_i xs e2
          cases e
          obtain ⟨ys, h1, h2⟩ := r.obj a _ e2
          refine .inl ⟨a, ys, rfl, .inl (SqL.of h1), ?_⟩
          rw [h2.length]
          exact fin
        · rename_i xs e2
          cases e
          obtain ⟨ys, h1, h2⟩ := r.obj a _ e2
          refine .inl ⟨a, ys, rfl, .inl (.inl h1), ?_⟩
          rw [h2.length]
          exact fin
        · rename_i xs e2
          cases e
          obtain ⟨ys, h1, h2⟩ := r.obj a _ e2
          refine .inr (.inr (.inl ⟨a, ys, rfl, h1, ?_⟩))
          rw [h2.length]
          exact fin
        · rename_i xs e2
          cases e
          obtain ⟨ys, h1, h2⟩ := r.obj a _ e2
          refine .inr (.inr (.inr ⟨a, ys, rfl, h1, ?_⟩))
          rw [h2.length]
          exact fin
        · cases e
      · cases e
    · exact q.elim
  · exact q.elim
/-- a value's class, of the plain ones -/
def tyD (G : GS) : D → Option String
  | .non => some "NoneType"
  | .bl _ => some "bool"
  | .int _ => some "int"
  | .str _ => some "str"
  | .tup _ => some "tuple"
  | .ref a => (match G a with
    | some (.lst _) => some "list"
    | some (.dK _) => some "dict"
    | some (.dT _) => some "dict"
    | _ => none)
  | _ => none
def opIsi : OpA
  | [d, .ty n], G, Q, _ => (match tyD G d with
    | some m => (match kitB m n with
      | some b => Q (.bl b) G
      | none => False)
    | none => False)
  | _, _, _, _ => False
theorem tyD_ok {Γ : Gm} {K : PySem.W.Frag} {mg : Str → Option Value} {own : Own} {G : GS} {H : Hp} {d : D} {v : V} {m : String} (r : HRep Γ K mg own G H) (i : Is K H v d) (e : tyD G d = some m) : TyX K H v (.type m) := by
  unfold tyD at e
  split at e
  · cases e; rw [is_non.mp i]; exact .base .non
  · cases e; rw [is_bl.mp i]; exact .base (.bl _)
  · cases e; rw [is_int.mp i]; exact .base (.int _)
  · cases e; rw [is_str.mp i]; exact .base (.str _)
  · cases e
    obtain ⟨a, xs, rfl, h1, h2⟩ := is_tup.mp i
    rcases h1 with h1 | ⟨(h1 | ⟨o, h1⟩) | ⟨o, its, n, hk, hc, _⟩, _⟩
    · exact .base (.tup h1)
    · cases h1
    · cases h1
    · exact .kTuple hk hc
  · rename_i a
    rw [is_ref.mp i]
    split at e
    · rename_i xs e2
      cases e
      obtain ⟨ys, h1, h2⟩ := r.obj a _ e2
      exact .base (.lst h1)
    · rename_i xs e2
      cases e
      obtain ⟨ys, h1, h2⟩ := r.obj a _ e2
      exact .base (.dK h1)
    · rename_i xs e2
      cases e
      obtain ⟨ys, h1, h2⟩ := r.obj a _ e2
      exact .base (.dT h1)
    · cases e
  · cases e
theorem ro_isi : ROpA F X (rIsi X.K) opIsi := by
  intro σ H G vs ds Q' E Q r i q k _
  unfold opIsi at q
  split at q
  · rename_i d n
    obtain ⟨v, r1, rfl, i1, i2⟩ := isL_cons.mp i
    obtain ⟨w, r2, rfl, i3, i4⟩ := isL_cons.mp i2
    rw [isL_nil.mp i4, is_ty.mp i3]
    split at q
    · rename_i m e1
      split at q
      · rename_i b e2
        exact ⟨v, .ty n, .type m, .type n, b, rfl, by first | exact ClsV.ty n | exact .ty _ | constructor, tyD_ok r i1 e1, kit_ty e2, k _ G _ H (Ext.refl H) r (is_bl.mpr rfl) q⟩
      · exact q.elim
    · exact q.elim
  · exact q.elim
/-- sum, least and greatest of a list of ints -/
def intsAt (G : GS) : D → Option (List Int)
  | .ref a => (match lsqOf G a with
    | some xs => intsOf xs
    | none => none)
  | _ => none
theorem intsAt_ok {Γ : Gm} {K : PySem.W.Frag} {mg : Str → Option Value} {own : Own} {G : GS} {H : Hp} {d : D} {v : V} {ns : List Int} (r : HRep Γ K mg own G H) (i : Is K H v d) (e : intsAt G d = some ns) : ∃ a, v = .ref a ∧ SqL K H a (ns.map V.int) := by
  unfold intsAt at e
  split at e
  · rename_i a
    split at e
    · rename_i xs e1
      obtain ⟨ys, h1, h2⟩ := lsqOf_sq r e1
      rw [intsOf_eq e] at h2
      rw [isL_ints.mp h2] at h1
      exact ⟨a, is_ref.mp i, h1⟩
    · cases e
  · cases e
def opSum : OpA
  | [d], G, Q, _ => (match intsAt G d with
    | some ns => Q (.int ns.sum) G
    | none => False)
  | _, _, _, _ => False
def opMin : OpA
  | [d], G, Q, _ => (match intsAt G d with
    | some ns => 0 < ns.length ∧ ∀ m, m ∈ ns → (∀ y, y ∈ ns → m ≤ y) → Q (.int m) G
    | none => False)
  | [.int i, .int j], G, Q, _ => Q (.int (if j < i then j else i)) G
  | _, _, _, _ => False
def opMax : OpA
  | [.int i, .int j], G, Q, _ => Q (.int (if j > i then j else i)) G
  | _, _, _, _ => False
def opSortI : OpA
  | [d], G, Q, _ => (match intsAt G d with
    | some ns => ∀ ns' : List Int, ns'.Perm ns → ns'.Pairwise (· ≤ ·) → dNew G (.lst (ns'.map D.int)) Q
    | none => False)
  | _, _, _, _ => False
def opList : OpA
  | [d], G, Q, _ => (match seqOf G d with
    | some xs => dNew G (.lst xs) Q
    | none => False)
  | _, _, _, _ => False
def opTuple : OpA
  | [d], G, Q, _ => (match seqOf G d with
    | some xs => Q (.tup xs) G
    | none => False)
  | _, _, _, _ => False
def opIntC : OpA
  | [.bl b], G, Q, _ => Q (.int (if b then 1 else 0)) G
  | [.int i], G, Q, _ => Q (.int i) G
  | _, _, _, _ => False
def opStrC : OpA
  | [.int i], G, Q, _ => i.natAbs.log2 < 1920 ∧ Q (.str (toString i)) G
  | _, _, _, _ => False
theorem ro_sum : ROpA F X (rSum X.K) opSum := by
  intro σ H G vs ds Q' E Q r i q k _
  unfold opSum at q
  split at q
  · obtain ⟨v, r1, rfl, i1, i2⟩ := isL_cons.mp i
    rw [isL_nil.mp i2]
    split at q
    · rename_i ns e
      obtain ⟨a, rfl, h⟩ := intsAt_ok r i1 e
      exact ⟨a, ns, rfl, h, k _ G _ H (Ext.refl H) r (is_int.mpr rfl) q⟩
    · exact q.elim
  · exact q.elim
abbrev rMinAll (K : PySem.W.Frag) : List V → Hp → VK → Prop := fun xs H Q => rMin K xs H Q ∨ ∃ i j, xs = [.int i, .int j] ∧ Q (.int (if j < i then j else i)) H
theorem ro_min : ROpA F X (rMinAll X.K) opMin := by
  intro σ H G vs ds Q' E Q r i q k _
  unfold opMin at q
  split at q
  · obtain ⟨v, r1, rfl, i1, i2⟩ := isL_cons.mp i
    rw [isL_nil.mp i2]
    split at q
    · rename_i ns e
      obtain ⟨a, rfl, h⟩ := intsAt_ok r i1 e
      exact .inl ⟨a, ns, rfl, h, q.1, fun m h1 h2 => k _ G _ H (Ext.refl H) r (is_int.mpr rfl) (q.2 m h1 h2)⟩
    · exact q.elim
  · obtain ⟨v, r1, rfl, i1, i2⟩ := isL_cons.mp i
    obtain ⟨w, r2, rfl, i3, i4⟩ := isL_cons.mp i2
    rw [isL_nil.mp i4, is_int.mp i1, is_int.mp i3]
    exact .inr ⟨_, _, rfl, k _ G _ H (Ext.refl H) r (is_int.mpr rfl) q⟩
  · exact q.elim
theorem ro_max : ROpA F X (fun xs H Q => ∃ i j, xs = [.int i, .int j] ∧ Q (.int (if j > i then j else i)) H) opMax := by
  intro σ H G vs ds Q' E Q r i q k _
  unfold opMax at q
  split at q
  · obtain ⟨v, r1, rfl, i1, i2⟩ := isL_cons.mp i
    obtain ⟨w, r2, rfl, i3, i4⟩ := isL_cons.mp i2
    rw [isL_nil.mp i4, is_int.mp i1, is_int.mp i3]
    exact ⟨_, _, rfl, k _ G _ H (Ext.refl H) r (is_int.mpr rfl) q⟩
  · exact q.elim
theorem ro_sortI : ROpA F X (rSortedI X.K) opSortI := by
  intro σ H G vs ds Q' E Q r i q k _
  unfold opSortI at q
  split at q
  · obtain ⟨v, r1, rfl, i1, i2⟩ := isL_cons.mp i
    rw [isL_nil.mp i2]
    split at q
    · rename_i ns e
      obtain ⟨a, rfl, h⟩ := intsAt_ok r i1 e
      exact ⟨a, ns, rfl, h, fun ns' p h1 h2 h3 => new_lst r (isL_ints.mpr rfl) (q ns' h1 h2) k p h3⟩
    · exact q.elim
  · exact q.elim
theorem ro_list : ROpA F X (fun xs H Q => ∃ p ys, xs = [.ref p] ∧ (SqL X.K H p ys ∨ SqT X.K H p ys) ∧ ∀ l, H l = none → Q (.ref l) (upd H l (.lst ys))) opList := by
  intro σ H G vs ds Q' E Q r i q k _
  unfold opList at q
  split at q
  · obtain ⟨v, r1, rfl, i1, i2⟩ := isL_cons.mp i
    rw [isL_nil.mp i2]
    split at q
    · rename_i xs e
      obtain ⟨a, ys, rfl, h1, h2⟩ := seqOf_sq r i1 e
      exact ⟨a, ys, rfl, h1, new_lst r h2 q k⟩
    · exact q.elim
  · exact q.elim
theorem ro_tuple : ROpA F X (fun xs H Q => ∃ p ys, xs = [.ref p] ∧ ((SqL X.K H p ys ∧ ∀ l, H l = none → Q (.ref l) (upd H l (.tup ys))) ∨ (SqT X.K H p ys ∧ Q (.ref p) H))) opTuple := by
  intro σ H G vs ds Q' E Q r i q k _
  unfold opTuple at q
  split at q
  · rename_i d0
    obtain ⟨v, r1, rfl, i1, i2⟩ := isL_cons.mp i
    rw [isL_nil.mp i2]
    cases d0 with
    | tup es =>
      obtain ⟨a, xs, rfl, h1, h2⟩ := is_tup.mp i1
      exact ⟨a, xs, rfl, .inr ⟨h1.sq, k (.tup es) G _ H (Ext.refl H) r i1 q⟩⟩
    | ref b =>
      cases e : lsqOf G b with
      | some xs =>
        have q : Q' (.tup xs) G := by
          have q1 : (match lsqOf G b with
            | some xs => Q' (.tup xs) G
            | none => False) := q
          rw [e] at q1
          exact q1
        obtain ⟨ys, h1, h2⟩ := lsqOf_sq r e
        exact ⟨b, ys, by rw [is_ref.mp i1], .inl ⟨h1, new_tup r h2 q k⟩⟩
      | none =>
        have q1 : (match lsqOf G b with
            | some xs => Q' (.tup xs) G
            | none => False) := q
        rw [e] at q1
        exact q1.elim
    | _ => exact (show False from q).elim
  · exact q.elim
theorem ro_intC : ROpA F X (fun xs H Q => (∃ i, xs = [.int i] ∧ Q (.int i) H) ∨ ∃ k, xs = [.bl k] ∧ Q (.int (if k then 1 else 0)) H) opIntC := by
  intro σ H G vs ds Q' E Q r i q k _
  unfold opIntC at q
  split at q
  · obtain ⟨v, r1, rfl, i1, i2⟩ := isL_cons.mp i
    rw [isL_nil.mp i2, is_bl.mp i1]
    exact .inr ⟨_, rfl, k _ G _ H (Ext.refl H) r (is_int.mpr rfl) q⟩
  · obtain ⟨v, r1, rfl, i1, i2⟩ := isL_cons.mp i
    rw [isL_nil.mp i2, is_int.mp i1]
    exact .inl ⟨_, rfl, k _ G _ H (Ext.refl H) r (is_int.mpr rfl) q⟩
  · exact q.elim
theorem ro_strC : ROpA F X (fun xs H Q => ∃ i, xs = [.int i] ∧ i.natAbs.log2 < 1920 ∧ Q (.str (toString i)) H) opStrC := by
  intro σ H G vs ds Q' E Q r i q k _
  unfold opStrC at q
  split at q
  · obtain ⟨v, r1, rfl, i1, i2⟩ := isL_cons.mp i
    rw [isL_nil.mp i2, is_int.mp i1]
    exact ⟨_, rfl, q.1, k _ G _ H (Ext.refl H) r (is_str.mpr rfl) q.2⟩
  · exact q.elim
end
end GL
set_option Elab.async false
set_option linter.all false
set_option maxRecDepth 100000
set_option maxHeartbeats 2000000
/-! G5: what loops walk. -/
namespace PySem
open Sem (wp)
open AutoSeq1 (wpAny_loadPart')
/-- enumerate(v) of whatever has begun -/
theorem meets_enumerate_newB1 {v : Value} {o : Obj} {H : Heap → Prop} (B : Begins v o H) :
    Meets (Builtin.«enumerate.__new__» ⟨[.type "enumerate", v], []⟩) (fun _ R s => H s.heap ∧
      R (.ok (.ret (.ref (s.heap.push o).objs.size))) { s with heap := (s.heap.push o).push { cls := .type "enumerate", data := .fields #[.none, .bool false, .ref s.heap.objs.size, rawInt 0, .none, .none] } }) :=
  .of_wp fun prog w A R s h => by
    obtain ⟨hp, g, d, tk, os⟩ := s; obtain ⟨h1, h⟩ := h
    have hsub := sub_enumerate
    have q1 : ∀ {A' : Around} {E : Value → Shared → Prop} {Q : Value → Shared → Prop}, Q (.ref hp.objs.size) ⟨hp.push o, g, d, tk, os⟩ → wpAny (model prog w) A' (pyIter v) Q E ⟨hp, g, d, tk, os⟩ :=
      fun q => B.iter prog w _ _ ⟨hp, g, d, tk, os⟩ _ h1 q
    wp_walk using q1
    refine wpAny_stack_any fun st => wpAny_pure ?_
    split
    · rename_i c _ _ _ _ _
      cases (c == Value.type "enumerate")
      · wp_walk using q1
        exact ⟨_, rfl, h⟩
      · wp_walk using q1
        exact ⟨_, rfl, h⟩
    · wp_walk using q1
      exact ⟨_, rfl, h⟩
theorem enum_begins1 {prog : Program} {w : World} {A : Around} {E : Value → Shared → Prop} {s : Shared} {v : Value} {o : Obj} {H : Heap → Prop} {Q : Value → Shared → Prop} (B : Begins v o H) (h1 : H s.heap)
    (h : ∀ h', IsEnum h' (s.heap.objs.size + 1) s.heap.objs.size 0 .none → h'.get? s.heap.objs.size = some o → h'.objs.size = s.heap.objs.size + 2 →
      (∀ b o, s.heap.get? b = some o → h'.get? b = some o) → Q (.ref (s.heap.objs.size + 1)) { s with heap := h' }) :
    wpAny (model prog w) A (call (.type "enumerate") [v]) Q E s := by
  refine callType_new F.called_enumerate (by decide) (F.typeCall_enumerate_1 _) (F.newCall_enumerate_1 _) (fun obj => F.args_object_init_2 obj _) F.entry_enumerate_new
    (meets_enumerate_newB1 B) ⟨h1, ?_⟩
  have hz : (s.heap.push o).objs.size = s.heap.objs.size + 1 := Heap.size_push ..
  show _ ∧ _
  rw [hz]
  have he : IsEnum ((s.heap.push o).push { cls := .type "enumerate", data := .fields #[.none, .bool false, .ref s.heap.objs.size, rawInt 0, .none, .none] }) (s.heap.objs.size + 1) s.heap.objs.size 0 .none := by
    have := Heap.get?_push_size (s.heap.push o) (o := { cls := .type "enumerate", data := .fields #[.none, .bool false, .ref s.heap.objs.size, rawInt 0, .none, .none] }) rfl
    rw [hz] at this; exact this
  refine ⟨⟨_, he, rfl⟩, h _ he (Heap.get?_push_of_some _ (Heap.get?_push_size _ B.free)) (by rw [Heap.size_push, hz]) fun b o x => Heap.get?_push_of_some _ (Heap.get?_push_of_some _ x)⟩
end PySem

namespace GL
open PySem PySem.Spec PyProof.Rows L2

/-! ### enumerate(tuple) -/
def IteT (K : PySem.W.Frag) (a : Addr) : It :=
  ⟨fun i H => ∃ (xs : List V) (x : V), SqT K H a xs ∧ xs[i]? = some x, fun i H v H' => ∃ T x, v = .ref T ∧ H T = none ∧ H' = upd H T (.tup [.int (i : Nat), x]) ∧ ∀ xs, SqT K H a xs → xs[i]? = some x, fun i H => ∃ xs : List V, SqT K H a xs ∧ xs.length ≤ i⟩
theorem turn_enumT {P : Program} {w : World} {K : PySem.W.Frag} {elts : List Expr} {kk : Nat} {tpos : Pos} (a e it : Addr) (hai : a ≠ it) (hae : a ≠ e) (items : Array Value) :
    Turn P w K (.Tuple elts kk tpos) (IteT K a) [e, it] e (fun i h => (∃ old, IsEnum h e it ((i : Nat) : Int) old) ∧ h.IsTupleIter it a i ∧ e ≠ it) where
  mem := by simp
  obj := fun i h st b hb => by
    obtain ⟨⟨old, he⟩, ⟨o, ho, hc, hd⟩, _⟩ := st
    have e' : b = e ∨ b = it := by simpa using hb
    rcases e' with z | z
    · rw [z]; exact ⟨_, he, fun v q => nomatch q⟩
    · rw [z]; exact ⟨o, ho, fun v q => by rw [hd] at q; cases q⟩
  keep := fun i h h' st k => let ⟨⟨old, he⟩, hi, hne⟩ := st; ⟨⟨old, k e (by simp) _ he⟩, hi.at fun o q => k it (by simp) o q, hne⟩
  item := by
    intro X hP hw hK hc i pins s σ H E I hf st hg
    subst hP hw hK
    obtain ⟨⟨old, he⟩, hit, hne⟩ := st
    obtain ⟨xs, x, hq, hx⟩ := hg
    obtain ⟨its, rv, p, hz⟩ := I.tuple hq
    obtain ⟨u, hu, ru⟩ := rv.get hx
    have hel : e < s.heap.objs.size := Heap.lt_size he
    have hil : it < s.heap.objs.size := by obtain ⟨_, q, _⟩ := hit; exact Heap.lt_size q
    have D := Draws.tuple (prog := X.prog) (w := X.w) (A := X.A.in1) (I.ok.hd hc) it a hai its.toArray
    have hi : i < its.toArray.size := by
      have h1 := (List.getElem?_eq_some_iff.mp hu).1
      simpa using h1
    refine wpAny_pyNext_enum_itemD D he ⟨hit, p⟩ hi hne (by simp [hne, Ne.symm hae]) fun y h' tk hP ho hit' hT hsz hk => ?_
    have ey : y = u := by
      have e1 : its[i]? = some y := by simpa using hP
      rw [hu] at e1
      exact (Option.some.inj e1).symm
    subst ey
    refine ⟨_, rfl, wpAny_letOwnedTupleGo_enum (s := { s with heap := h', toks := tk + 1 }) ho fun h'' he' sb => ?_⟩
    have hT2 : h''.get? s.heap.objs.size = some { cls := .type "tuple", data := .seq #[.int i tk, y] } := (sb.2 _ (Nat.ne_of_gt hel)).trans hT
    have new : ObjOk X.prog X.w (upd H s.heap.objs.size (.tup [.int (i : Nat), x])) h'' s.heap.objs.size (.tup [.int (i : Nat), x]) :=
      ⟨by show 2 ≤ sizeLine; decide, [.int i tk, y], .cons ⟨_, rfl⟩ (.cons ru .nil), ⟨_, hT2, rfl, _, rfl⟩⟩
    have I1 : Inv X pins σ (upd H s.heap.objs.size (.tup [.int (i : Nat), x])) { s with heap := h'', toks := tk + 1 } :=
      I.turnedNew (ch := [e, it]) (fun b ob hb q => (sb.2 b (fun z => hb (by simp [z]))).trans (hk b ob (fun z => hb (by simp [z])) (fun z => hb (by simp [z])) q)) hf (Nat.le_refl _) new
    refine ⟨.ref s.heap.objs.size, _, I1, rfl, ⟨_, x, rfl, I.hok.fresh (Nat.le_refl _), rfl, fun ys hy => by rw [I.tuple_inj hy hq]; exact hx⟩, ⟨⟨y, ?_⟩, hit'.1.at fun o q => (sb.2 it (Ne.symm hne)).trans q, hne⟩, fun b hb => ?_⟩
    · have e1 : ((i + 1 : Nat) : Int) = (i : Int) + 1 := by omega
      rw [e1]; exact he'
    · have hb' : b < s.heap.objs.size := by
        have e' : b = e ∨ b = it := by simpa using hb
        rcases e' with z | z
        · rw [z]; exact hel
        · rw [z]; exact hil
      rw [upd_ne (Nat.ne_of_lt hb')]
      exact (hf b hb).1
  done := by
    intro X hP hw hK hc i pins s σ H E I hf st hg
    subst hP hw hK
    obtain ⟨⟨old, he⟩, hit, hne⟩ := st
    obtain ⟨xs, hq, hx⟩ := hg
    obtain ⟨its, rv, p, hz⟩ := I.tuple hq
    obtain ⟨f0, f1, f2, f3, f4, f5⟩ := hf it (by simp)
    have hl := rv.length
    have D := Draws.tuple (prog := X.prog) (w := X.w) (A := X.A.in1) (I.ok.hd hc) it a hai its.toArray
    by_cases hi : i = its.toArray.size
    · subst hi
      exact wpAny_pyNext_enum_endD D he ⟨hit, p⟩ fun h' eb => ⟨rfl, I.turned (t' := s.toks) (fun b o hb q => eb b o hb q) f0 f1 f3 f4 f5⟩
    · have D' : Draws X.prog X.w X.A.in1 it [it, a] i (fun j v => its.toArray[j]? = some v ∧ False) (fun j h => j = i ∧ h.IsTupleIter it a i ∧ h.IsTuple a its.toArray) := {
        live := fun _ _ st => let ⟨o, ho, _⟩ := st.2.1; ⟨o, ho⟩
        frame := fun _ _ _ st hk => ⟨st.1, st.2.1.at fun o e => hk it (by simp) o e, st.2.2.at fun o e => hk a (by simp) o e⟩
        item := fun j s Q E hj st _ => absurd st.1 (by omega)
        done := fun s Q E st hE => wpAny_nextOf_tuple_end (I.ok.hd hc) st.2.1 st.2.2 (by simp; omega) hE }
      exact wpAny_pyNext_enum_endD D' he ⟨rfl, hit, p⟩ fun h' eb => ⟨rfl, I.turned (t' := s.toks) (fun b o hb q => eb b o hb q) f0 f1 f3 f4 f5⟩
  self := fun A i s Q E st h => let ⟨⟨_, he⟩, _⟩ := st; wpAny_pyIter_enum he h

/-! ### meanings -/
/-- what is walked, as it stands at the start; what must stay -/
abbrev DI := Rho → GS → (List D → (GS → Prop) → GS → Prop) → XD → Prop
/-- the walk J gives the items ds while stab holds -/
structure Wk (F : Fx) (X : Cx) (H0 : Hp) (J : It) (ds : List D) (stab : GS → Prop) : Prop where
  go : ∀ i own G H d, Ext H0 H → HRep F.Γ X.K X.mg own G H → stab G → ds[i]? = some d → J.go i H ∧ ∀ x H', J.yld i H x H' → Ext H H' ∧ HRep F.Γ X.K X.mg own G H' ∧ Is X.K H' x d
  stop : ∀ own G H, Ext H0 H → HRep F.Γ X.K X.mg own G H → stab G → J.stop ds.length H
def upI (F : Fx) (X : Cx) (d : DI) : TI := fun σ H R => ∃ ρ G K' E, SRep X.K H σ ρ ∧ HR F X σ G H ∧ d ρ G K' E ∧
  (∀ ds stab G1 H1 J, Ext H H1 → HR F X σ G1 H1 → Wk F X H1 J ds stab → K' ds stab G1 → R J H1) ∧ EOk F X σ H E
theorem PI_imp {X : Cx} {tg e : Expr} {t u : TI} (h : PI X tg e t) (i : ∀ σ H Q, u σ H Q → t σ H Q) : PI X tg e u := ⟨fun pins s σ H Q I q => h.run pins s σ H Q I (i σ H Q q)⟩
section
variable {I : Inf} {F : Fx} {X : Cx}
theorem wk_list {H0 : Hp} {a : Addr} {ds : List D} : Wk F X H0 (Itl X.K a) ds (fun G => lsqOf G a = some ds) where
  go := fun i own G H d e r q h => by
    obtain ⟨xs, h1, h2⟩ := lsqOf_sq r q
    obtain ⟨v, h3, h4⟩ := h2.get h
    refine ⟨⟨xs, v, h1, h3⟩, fun x H' y => ?_⟩
    obtain ⟨rfl, y⟩ := y
    have e3 := y xs h1
    rw [h3] at e3
    cases e3
    exact ⟨Ext.refl _, r, h4⟩
  stop := fun own G H e r q => by
    obtain ⟨xs, h1, h2⟩ := lsqOf_sq r q
    exact ⟨xs, h1, by rw [h2.length]; exact Nat.le_refl _⟩
theorem wk_tup {H0 : Hp} {a : Addr} {xs : List V} {ds : List D} (h1 : SqT X.K H0 a xs) (h2 : IsL X.K H0 xs ds) : Wk F X H0 (Itt X.K a) ds (fun _ => True) where
  go := fun i own G H d e r q h => by
    obtain ⟨v, h3, h4⟩ := h2.get h
    refine ⟨⟨xs, v, e.tup h1, h3⟩, fun x H' y => ?_⟩
    obtain ⟨rfl, y⟩ := y
    have e3 := y xs (e.tup h1)
    rw [h3] at e3
    cases e3
    exact ⟨Ext.refl _, r, Is.ext e d _ h4⟩
  stop := fun own G H e r q => ⟨xs, e.tup h1, by rw [h2.length]; exact Nat.le_refl _⟩
def rngD (lo : Int) (n : Nat) : List D := (List.range n).map fun (i : Nat) => D.int (lo + (i : Int))
theorem wk_rng {H0 : Hp} {lo : Int} {n : Nat} : Wk F X H0 (Itr lo n) (rngD lo n) (fun _ => True) where
  go := fun i own G H d e r q h => by
    unfold rngD at h
    rw [List.getElem?_map] at h
    have hi : i < n := by
      cases q2 : (List.range n)[i]? with
      | none => rw [q2] at h; cases h
      | some j =>
        have h3 := (List.getElem?_eq_some_iff.mp q2).1
        simpa using h3
    rw [List.getElem?_range hi] at h
    cases h
    refine ⟨hi, fun x H' y => ?_⟩
    obtain ⟨rfl, rfl⟩ := y
    exact ⟨Ext.refl _, r, is_int.mpr rfl⟩
  stop := fun own G H e r q => by
    show n ≤ _
    unfold rngD
    simp
/-- pairs of a place and an item -/
def enumD (ds : List D) : List D := ds.zipIdx.map fun p => D.tup [.int (p.2 : Nat), p.1]
theorem enumD_get {ds : List D} {i : Nat} {d : D} (h : (enumD ds)[i]? = some d) : ∃ e, ds[i]? = some e ∧ d = .tup [.int (i : Nat), e] := by
  unfold enumD at h
  rw [List.getElem?_map, List.getElem?_zipIdx] at h
  cases q : ds[i]? with
  | none => rw [q] at h; cases h
  | some e =>
    rw [q] at h
    simp at h
    exact ⟨e, rfl, h.symm⟩
theorem enumD_length {ds : List D} : (enumD ds).length = ds.length := by simp [enumD]
theorem pair_is {own : Own} {G : GS} {H H' : Hp} {Ta : Addr} {v : V} {e : D} {i : Nat} (r : HRep F.Γ X.K X.mg own G H) (hT : H Ta = none) (eH : H' = upd H Ta (.tup [.int (i : Nat), v])) (h4 : Is X.K H v e) :
    Ext H H' ∧ HRep F.Γ X.K X.mg own G H' ∧ Is X.K H' (.ref Ta) (.tup [.int (i : Nat), e]) := by
  subst eH
  exact ⟨Ext.new hT, r.grow hT, is_tup.mpr ⟨Ta, _, rfl, .inl upd_same, isL_cons.mpr ⟨_, _, rfl, is_int.mpr rfl, IsL.one (Is.ext (Ext.new hT) e v h4)⟩⟩⟩
theorem wk_enumL {H0 : Hp} {a : Addr} {ds : List D} : Wk F X H0 (Ite X.K a) (enumD ds) (fun G => lsqOf G a = some ds) where
  go := fun i own G H d e r q h => by
    obtain ⟨y, h0, rfl⟩ := enumD_get h
    obtain ⟨xs, h1, h2⟩ := lsqOf_sq r q
    obtain ⟨v, h3, h4⟩ := h2.get h0
    refine ⟨⟨xs, v, h1, h3⟩, fun x H' y => ?_⟩
    obtain ⟨Ta, w, rfl, hT, eH, y⟩ := y
    have e3 := y xs h1
    rw [h3] at e3
    cases e3
    exact pair_is r hT eH h4
  stop := fun own G H e r q => by
    obtain ⟨xs, h1, h2⟩ := lsqOf_sq r q
    exact ⟨xs, h1, by rw [h2.length, enumD_length]; exact Nat.le_refl _⟩
theorem wk_enumT {H0 : Hp} {a : Addr} {xs : List V} {ds : List D} (h1 : SqT X.K H0 a xs) (h2 : IsL X.K H0 xs ds) : Wk F X H0 (IteT X.K a) (enumD ds) (fun _ => True) where
  go := fun i own G H d e r q h => by
    obtain ⟨y, h0, rfl⟩ := enumD_get h
    obtain ⟨v, h3, h4⟩ := h2.get h0
    refine ⟨⟨xs, v, e.tup h1, h3⟩, fun x H' y => ?_⟩
    obtain ⟨Ta, w, rfl, hT, eH, y⟩ := y
    have e3 := y xs (e.tup h1)
    rw [h3] at e3
    cases e3
    exact pair_is r hT eH (Is.ext e _ v h4)
  stop := fun own G H e r q => ⟨xs, e.tup h1, by rw [h2.length, enumD_length]; exact Nat.le_refl _⟩

/-- a list or a tuple -/
def iSeq (K : PySem.W.Frag) (tl : TE) : TI := fun σ H R => tl σ H fun x H1 => ∃ a, x = .ref a ∧ (((∃ xs, SqL K H1 a xs) ∧ R (Itl K a) H1) ∨ ((∃ xs, SqT K H1 a xs) ∧ R (Itt K a) H1))
theorem pi_seq {tg l : Expr} {tl : TE} (hl : PE X l tl) : PI X tg l (iSeq X.K tl) := by
  refine ⟨fun pins s σ H R I h => ?_⟩
  refine thn (hl.run pins s σ H _ I h) fun v s1 ⟨x, H1, I1, r1, q1⟩ => ?_
  obtain ⟨a, e, q⟩ := q1
  subst e
  cases r1
  rcases q with ⟨⟨xs, hq⟩, q⟩ | ⟨⟨xs, hq⟩, q⟩
  · obtain ⟨its, rv, p, hz⟩ := I1.list hq
    refine wpAny_pyIter_list p.isList ?_
    refine ⟨s1.heap.objs.size, [s1.heap.objs.size], _, _, H1, rfl, I1.kept (t' := s1.toks) fun b o e => Heap.get?_push_of_some _ e, turn_list a _, ⟨_, Heap.get?_push_size _ rfl, rfl, rfl⟩, fun b hb => ?_, q⟩
    have e : b = s1.heap.objs.size := by simpa using hb
    subst e
    exact I1.fpOk (Nat.le_refl _) (I1.hok.fresh (Nat.le_refl _))
  · obtain ⟨its, rv, p, hz⟩ := I1.tuple hq
    refine wpAny_pyIter_tuple (show s1.heap.IsTuple a its.toArray from p) ?_
    refine ⟨s1.heap.objs.size, [s1.heap.objs.size], _, _, H1, rfl, I1.kept (t' := s1.toks) fun b o e => Heap.get?_push_of_some _ e, turn_tuple a _, ⟨_, Heap.get?_push_size _ rfl, rfl, rfl⟩, fun b hb => ?_, q⟩
    have e : b = s1.heap.objs.size := by simpa using hb
    subst e
    exact I1.fpOk (Nat.le_refl _) (I1.hok.fresh (Nat.le_refl _))
/-- the walk of a value: (items, what must stay) -/
def seqI (G : GS) (d : D) (K' : List D → (GS → Prop) → GS → Prop) : Prop := match d with
  | .tup ds => K' ds (fun _ => True) G
  | .ref a => (match lsqOf G a with
    | some ds => K' ds (fun G' => lsqOf G' a = some ds) G
    | none => False)
  | _ => False
def dSeqI (a : DE) : DI := fun ρ G K' E => a ρ G (fun d G1 => seqI G1 d K') E
theorem upi_seq {tg l : Expr} {a : DE} (h : PE X l (up F X a)) : PI X tg l (upI F X (dSeqI a)) :=
  PI_imp (pi_seq h) fun σ H R ⟨ρ, G, K', E, s, r, q, k, x⟩ => ⟨ρ, G, _, E, s, r, q, fun d G1 v H1 e1 r1 i1 q1 => by
    have q1 : seqI G1 d K' := q1
    unfold seqI at q1
    cases d with
    | tup ds =>
      obtain ⟨a, xs, rfl, h1, h2⟩ := is_tup.mp i1
      exact ⟨a, rfl, .inr ⟨⟨xs, h1.sq⟩, k _ _ G1 H1 _ e1 r1 (wk_tup h1.sq h2) q1⟩⟩
    | ref a =>
      cases e2 : lsqOf G1 a with
      | some ds =>
        simp only [e2] at q1
        obtain ⟨xs, h1, h2⟩ := lsqOf_sq r1 e2
        exact ⟨a, is_ref.mp i1, .inl ⟨⟨xs, h1⟩, k _ _ G1 H1 _ e1 r1 wk_list q1⟩⟩
      | none =>
        simp only [e2] at q1
    | _ => exact q1.elim, x⟩
def rngI (lo hi : Int) (G : GS) (K' : List D → (GS → Prop) → GS → Prop) : Prop := (-(2 ^ 62) ≤ lo ∧ lo < 2 ^ 62 ∧ -(2 ^ 62) ≤ hi ∧ hi < 2 ^ 62) ∧ K' (rngD lo (hi - lo).toNat) (fun _ => True) G
def dRng1 (a : DE) : DI := fun ρ G K' E => a ρ G (dInt fun j G1 => rngI 0 j G1 K') E
def dRng2 (a b : DE) : DI := fun ρ G K' E => a ρ G (fun d G1 => b ρ G1 (fun e G2 => match d, e with
  | .int i, .int j => rngI i j G2 K'
  | _, _ => False) E) E
theorem upi_rng1 {tg a : Expr} {da : DE} {p pos : Pos} (hg : Gl X "range") (hm : X.mg "range" = none) (hs : notStar a = true) (h : PE X a (up F X da)) : PI X tg (.Call (.Name "range" p) [a] [] pos) (upI F X (dRng1 da)) :=
  PI_imp (pi_range1 hg hm (pa_cons h pa_nil (star_cons hs)) (by rw [star_cons hs]; rfl)) fun σ H R ⟨ρ, G, K', E, s, r, q, k, x⟩ => ⟨ρ, G, _, E, s, r, q, fun d G1 v H1 e1 r1 i1 q1 => by
    obtain ⟨j, e2, _, ⟨q2, q3, q4, q5⟩, q6⟩ := dInt_ok i1 q1
    subst e2
    refine ⟨j, rfl, q4, q5, k _ _ G1 H1 _ e1 r1 ?_ q6⟩
    rw [Int.sub_zero]
    exact wk_rng, x⟩
theorem upi_rng2 {tg a b : Expr} {da db : DE} {p pos : Pos} (hg : Gl X "range") (hm : X.mg "range" = none) (hs : notStar a = true) (hs2 : notStar b = true) (h : PE X a (up F X da)) (h2 : PE X b (up F X db)) : PI X tg (.Call (.Name "range" p) [a, b] [] pos) (upI F X (dRng2 da db)) :=
  PI_imp (pi_range2 hg hm (pa_cons h (pa_cons h2 pa_nil (star_cons hs2)) (star_cons hs)) (by rw [star_cons hs, star_cons hs2]; rfl) (by rw [star_cons hs2]; rfl)) fun σ H R ⟨ρ, G, K', E, s, r, q, k, x⟩ =>
    ⟨ρ, G, _, E, s, r, q, fun d G1 v H1 e1 r1 i1 q1 => ⟨ρ, G1, _, E, s.ext e1, r1, q1, fun d2 G2 v2 H2 e2 r2 i2 q2 => by
      cases d with
      | int i =>
        cases d2 with
        | int j =>
          obtain ⟨q3, q4⟩ := (show rngI i j G2 K' from q2)
          rw [is_int.mp i1, is_int.mp i2]
          exact ⟨i, j, rfl, q3, k _ _ G2 H2 _ (e1.trans e2) r2 wk_rng q4⟩
        | _ => exact (show False from q2).elim
      | _ => exact (show False from q2).elim, x.ext e1⟩, x⟩
/-- enumerate -/
def iEnumA (K : PySem.W.Frag) (ta : TA) : TI := fun σ H R => ta σ H fun vs H1 => ∃ a, vs = [.ref a] ∧ (((∃ xs, SqL K H1 a xs) ∧ R (Ite K a) H1) ∨ ((∃ xs, SqT K H1 a xs) ∧ R (IteT K a) H1))
theorem pi_enumA {e : Expr} {ta : TA} {p pos tpos : Pos} {elts : List Expr} {kk : Nat} (hg : Gl X "enumerate") (hm : X.mg "enumerate" = none) (ha : PA X [e] ta) (hs : starEach [e] X.env = [(false, eval e X.env)]) :
    PI X (.Tuple elts kk tpos) (.Call (.Name "enumerate" p) [e] [] pos) (iEnumA X.K ta) := by
  refine ⟨fun pins s σ H R I h => ?_⟩
  refine Call_ (ld_blt I hg hm boot_enumerate (PyProof.Rows.callWith_type1 (thn (ha.run pos pins s σ H _ I h) fun us s1 ⟨vs, H1, I1, r1, q1⟩ => ?_) hs rfl))
  obtain ⟨a, ex, q⟩ := q1
  subst ex
  obtain rfl := Vals.ref1 r1
  rcases q with ⟨⟨xs, hq⟩, q⟩ | ⟨⟨xs, hq⟩, q⟩
  · obtain ⟨its, rv, p', hz⟩ := I1.list hq
    refine call_enumerate_list p'.isList fun h' he hit hsz hk => wpAny_pyIter_enum he ?_
    have I2 : Inv X pins σ H1 { s1 with heap := h' } := I1.kept (t' := s1.toks) hk
    refine ⟨s1.heap.objs.size + 1, [s1.heap.objs.size + 1, s1.heap.objs.size], _, _, H1, rfl, I2, turn_enum a (s1.heap.objs.size + 1) s1.heap.objs.size, ⟨⟨.none, he⟩, hit, Nat.succ_ne_self _⟩, fun b hb => ?_, q⟩
    have e' : b = s1.heap.objs.size + 1 ∨ b = s1.heap.objs.size := by simpa using hb
    have hle : s1.heap.objs.size ≤ b := by
      rcases e' with z | z
      · rw [z]; exact Nat.le_add_right _ _
      · rw [z]; exact Nat.le_refl _
    exact I1.fpOk hle (I1.hok.fresh hle)
  · obtain ⟨its, rv, p', hz⟩ := I1.tuple hq
    have hal : a < s1.heap.objs.size := p'.lt
    refine enum_begins1 (begins_tuple a its.toArray) (show s1.heap.IsTuple a its.toArray from p') fun h' he hit hsz hk => wpAny_pyIter_enum he ?_
    have I2 : Inv X pins σ H1 { s1 with heap := h' } := I1.kept (t' := s1.toks) hk
    refine ⟨s1.heap.objs.size + 1, [s1.heap.objs.size + 1, s1.heap.objs.size], _, _, H1, rfl, I2, turn_enumT a (s1.heap.objs.size + 1) s1.heap.objs.size (Nat.ne_of_lt hal) (Nat.ne_of_lt (Nat.lt_succ_of_lt hal)) its.toArray, ⟨⟨.none, he⟩, ⟨_, hit, rfl, rfl⟩, Nat.succ_ne_self _⟩, fun b hb => ?_, q⟩
    have e' : b = s1.heap.objs.size + 1 ∨ b = s1.heap.objs.size := by simpa using hb
    have hle : s1.heap.objs.size ≤ b := by
      rcases e' with z | z
      · rw [z]; exact Nat.le_add_right _ _
      · rw [z]; exact Nat.le_refl _
    exact I1.fpOk hle (I1.hok.fresh hle)
def dEnum (a : DE) : DI := fun ρ G K' E => a ρ G (fun d G1 => seqI G1 d fun ds stab G2 => K' (enumD ds) stab G2) E
theorem upi_enum {a : Expr} {da : DE} {p pos tpos : Pos} {elts : List Expr} {kk : Nat} (hg : Gl X "enumerate") (hm : X.mg "enumerate" = none) (hs : notStar a = true) (h : PE X a (up F X da)) :
    PI X (.Tuple elts kk tpos) (.Call (.Name "enumerate" p) [a] [] pos) (upI F X (dEnum da)) :=
  PI_imp (pi_enumA hg hm (pa_cons h pa_nil (star_cons hs)) (by rw [star_cons hs]; rfl)) fun σ H R ⟨ρ, G, K', E, s, r, q, k, x⟩ => ⟨ρ, G, _, E, s, r, q, fun d G1 v H1 e1 r1 i1 q1 => by
    have q1 : seqI G1 d (fun ds stab G2 => K' (enumD ds) stab G2) := q1
    unfold seqI at q1
    cases d with
    | tup ds =>
      obtain ⟨a, xs, rfl, h1, h2⟩ := is_tup.mp i1
      exact ⟨a, rfl, .inr ⟨⟨xs, h1.sq⟩, k _ _ G1 H1 _ e1 r1 (wk_enumT h1.sq h2) q1⟩⟩
    | ref a =>
      cases e2 : lsqOf G1 a with
      | some ds =>
        simp only [e2] at q1
        obtain ⟨xs, h1, h2⟩ := lsqOf_sq r1 e2
        exact ⟨a, by rw [is_ref.mp i1], .inl ⟨⟨xs, h1⟩, k _ _ G1 H1 _ e1 r1 wk_enumL q1⟩⟩
      | none =>
        simp only [e2] at q1
    | _ => exact q1.elim, x⟩
end
end GL
set_option Elab.async false
set_option linter.all false
set_option maxRecDepth 100000
set_option maxHeartbeats 2000000
/-! G6: targets, statements, loops, comprehensions. -/
namespace GL
open PySem PySem.Spec PyProof.Rows L2
section
variable {I : Inf} {F : Fx} {X : Cx}
theorem own_none (g : Good I F X) (h : I.lam = false) (σ : L2.St) : F.own σ = noneOf F.h0 := by
  have e := g.own
  rw [h, if_neg (by decide)] at e
  rw [e]
theorem own_lam (g : Good I F X) (h : I.lam = true) (σ : L2.St) : F.own σ = ownOf X F.h0 σ := by
  have e := g.own
  rw [h, if_pos rfl] at e
  rw [e]
theorem own_h0 (g : Good I F X) (σ : L2.St) : (F.own σ).h0 = F.h0 := by
  cases h : I.lam with
  | false => rw [own_none g h]; rfl
  | true => rw [own_lam g h]; rfl
theorem HR.slots (g : Good I F X) (hl : I.lam = false) {σ σ' : L2.St} {G : GS} {H : Hp} (r : HR F X σ G H) : HR F X σ' G H := by
  show HRep F.Γ X.K X.mg (F.own σ') G H
  rw [own_none g hl, ← own_none g hl σ]
  exact r
/-- a name that is not captured -/
theorem HR.slot (g : Good I F X) {i : Nat} {x : Str} {w : Option V} (hN : I.N[i]? = some x) (hl : (!I.lam || decide (I.sc.names.lookup x = some .local)) = true) {σ : L2.St} {G : GS} {H : Hp} (r : HR F X σ G H) : HR F X (σ.set i w) G H := by
  cases h : I.lam with
  | false => exact r.slots g h
  | true =>
    rw [h] at hl
    have hl : I.sc.names.lookup x = some .local := by simpa using hl
    have e : ownOf X F.h0 (σ.set i w) = ownOf X F.h0 σ := by
      unfold ownOf
      congr 1
      funext c v
      have ne : ∀ (y : Str) (j : Nat), X.N[j]? = some y → (X.env.scope.names.lookup y = some .cell ∨ X.env.scope.names.lookup y = some .free) → i ≠ j := fun y j e1 e2 z => by
        subst z
        rw [g.N, hN] at e1
        cases e1
        rw [g.sc, hl] at e2
        rcases e2 with e2 | e2 <;> cases e2
      refine propext ⟨fun ⟨y, j, h1, h2, h3, h4⟩ => ⟨y, j, h1, h2, ?_, h4⟩, fun ⟨y, j, h1, h2, h3, h4⟩ => ⟨y, j, h1, h2, ?_, h4⟩⟩
      · rw [List.getElem?_set_ne (ne y j h2 h4)] at h3; exact h3
      · rw [List.getElem?_set_ne (ne y j h2 h4)]; exact h3
    show HRep F.Γ X.K X.mg (F.own (σ.set i w)) G H
    rw [own_lam g h, e, ← own_lam g h σ]
    exact r
/-- less closures: those of the entry alone -/
def keepC (g0 G : GS) : GS := fun a => match G a with
  | some (.clo _ _) => (match g0 a with
    | some (.clo k ds) => some (.clo k ds)
    | _ => none)
  | o => o
theorem keepC_none {g0 G : GS} {p : Addr} (h : G p = none) : keepC g0 G p = none := by
  unfold keepC
  rw [h]
theorem keep_rep {Γ : Gm} {K : PySem.W.Frag} {mg : Str → Option Value} {own own' : Own} {g0 G : GS} {H h0 : Hp} (old : ∀ a k ds, g0 a = some (.clo k ds) → ∃ l, Γ.lam k = some l ∧ CloR K NoOwn h0 a l ds) (e : Ext h0 H) (e' : Ext own'.h0 H) (r : HRep Γ K mg own G H) : HRep Γ K mg own' (keepC g0 G) H := by
  refine ⟨fun a o q => ?_, r.tabs, r.cst, e'⟩
  unfold keepC at q
  cases hG : G a with
  | none => rw [hG] at q; cases q
  | some u =>
    rw [hG] at q
    have ro := r.obj a u hG
    cases u with
    | clo k ds =>
      simp only at q
      split at q
      · rename_i k' ds' e0
        cases q
        obtain ⟨l, e1, c⟩ := old a k' ds' e0
        exact ⟨l, e1, (c.ext e).mv (Mv.of fun _ _ z => z) fun y c d z => by
          rcases z with ⟨v, z, _⟩ | z
          · exact z.elim
          · exact .inr z⟩
      · cases q
    | lst ds => cases q; exact ro
    | rol ds => cases q; exact ro
    | dK ds => cases q; exact ro
    | dT ds => cases q; exact ro
    | ins cn ds => cases q; exact ro
    | oth k ds => cases q; exact ro

/-! ### targets -/
abbrev DG := D → Rho → GS → (Rho → GS → Prop) → XD → Prop
def upG (F : Fx) (X : Cx) (g : DG) : TG := fun v σ H Q => ∃ d ρ G P' E, Is X.K H v d ∧ SRep X.K H σ ρ ∧ HR F X σ G H ∧ g d ρ G P' E ∧ SOk F X H P' Q ∧ EOkS F X H E
abbrev DGs := List D → Rho → GS → (Rho → GS → Prop) → XD → Prop
def upGs (F : Fx) (X : Cx) (g : DGs) : TGs := fun vs σ H Q => ∃ ds ρ G P' E, IsL X.K H vs ds ∧ SRep X.K H σ ρ ∧ HR F X σ G H ∧ g ds ρ G P' E ∧ SOk F X H P' Q ∧ EOkS F X H E
theorem PG_imp {e : Expr} {t u : TG} (h : PG X e t) (i : ∀ v σ H Q, u v σ H Q → t v σ H Q) : PG X e u := ⟨fun pins s σ H v w Q I r q => h.run pins s σ H v w Q I r (i v σ H Q q)⟩
theorem PGs_imp {es : List Expr} {t u : TGs} (h : PGs X es t) (i : ∀ v σ H Q, u v σ H Q → t v σ H Q) : PGs X es u := ⟨fun pins s σ H v w Q I r q => h.run pins s σ H v w Q I r (i v σ H Q q)⟩
def gN (i : Nat) : DG := fun d ρ G P _ => P (ρ.set i (some d)) G
theorem upg_name (g : Good I F X) {i : Nat} {x : Str} {pos : Pos} (hN : I.N[i]? = some x) (hl : (!I.lam || decide (I.sc.names.lookup x = some .local)) = true) (h : PG X (.Name x pos) (gName i)) : PG X (.Name x pos) (upG F X (gN i)) :=
  PG_imp h fun v σ H Q ⟨d, ρ, G, P', E, i1, s, r, q, k, _⟩ => k _ G _ H (Ext.refl H) (s.set i1) (HR.slot g hN hl r) q
/-- a captured name: closures of the frame's own are forgotten -/
def gNc (g0 : GS) (i : Nat) : DG := fun d ρ G P _ => P (ρ.set i (some d)) (keepC g0 G)
theorem upg_nameC (g : Good I F X) {i : Nat} {x : Str} {pos : Pos} (hl : I.lam = true) (h : PG X (.Name x pos) (gName i)) : PG X (.Name x pos) (upG F X (gNc F.g0 i)) :=
  PG_imp h fun v σ H Q ⟨d, ρ, G, P', E, i1, s, r, q, k, _⟩ => by
    have e : Ext F.h0 H := by
      rw [← own_h0 g σ]
      exact r.old
    exact k _ _ _ H (Ext.refl H) (s.set i1) (keep_rep (g.old hl) e (by rw [own_h0 g]; exact e) r) q
def gsNil : DGs := fun ds ρ G P _ => ds = [] ∧ P ρ G
def gsCons (a : DG) (b : DGs) : DGs := fun ds ρ G P E => match ds with
  | d :: r => a d ρ G (fun ρ' G' => b r ρ' G' P E) E
  | [] => False
theorem upgs_nil : PGs X [] (upGs F X gsNil) := PGs_imp pgs_nil fun v σ H Q ⟨d, ρ, G, P', E, i1, s, r, q, k, _⟩ => by
  obtain ⟨rfl, q⟩ := q
  exact ⟨isL_nil.mp i1, k _ G _ H (Ext.refl H) s r q⟩
theorem assign_cons {e : Expr} {es : List Expr} {env : Env} (h : notStar e = true) : (assignEach (e :: es) env).map (·.2) = assign e env :: (assignEach es env).map (·.2) := by
  cases e <;> first | rfl | cases h
theorem assign_len {env : Env} : ∀ {es : List Expr}, (assignEach es env).length = es.length
  | [] => rfl
  | e :: es => by
    cases e <;> (show _ + 1 = _ + 1; rw [assign_len (es := es)])
theorem assign_star {env : Env} : ∀ {es : List Expr}, es.all notStar = true → (assignEach es env).findIdx? (·.1) = none
  | [], _ => rfl
  | e :: es, h => by
    simp only [List.all_cons, Bool.and_eq_true] at h
    have ih := assign_star (env := env) h.2
    have e1 : assignEach (e :: es) env = (false, assign e env) :: assignEach es env := by
      cases e <;> first | rfl | cases h.1
    rw [e1, List.findIdx?_cons]
    simp [ih]
theorem upgs_cons {e : Expr} {es : List Expr} {a : DG} {b : DGs} (hs : notStar e = true) (h1 : PG X e (upG F X a)) (h2 : PGs X es (upGs F X b)) : PGs X (e :: es) (upGs F X (gsCons a b)) :=
  PGs_imp (pgs_cons h1 h2 (assign_cons hs)) fun v σ H Q ⟨ds, ρ, G, P', E, i1, s, r, q, k, x⟩ => by
    cases ds with
    | nil => exact q.elim
    | cons d ds =>
      obtain ⟨y, ys, rfl, i2, i3⟩ := isL_cons.mp i1
      exact ⟨y, ys, rfl, d, ρ, G, _, E, i2, s, r, q, fun ρ' G' σ' H' e1 s1 r1 q1 => ⟨ds, ρ', G', P', E, i3.ext e1, s1, r1, q1, k.ext e1, x.ext e1⟩, x⟩
def gT (n : Nat) (a : DGs) : DG := fun d ρ G P E => match d with
  | .tup ds => ds.length = n ∧ a ds ρ G P E
  | _ => False
theorem upg_tup (g : Good I F X) (hcm : I.calm = true) {es : List Expr} {k : Nat} {pos : Pos} {a : DGs} (hs : es.all notStar = true) (h : PGs X es (upGs F X a)) : PG X (.Tuple es k pos) (upG F X (gT es.length a)) :=
  PG_imp (pg_tup (g.calm hcm) h assign_len (assign_star hs)) fun v σ H Q ⟨d, ρ, G, P', E, i1, s, r, q, k, x⟩ => by
    cases d with
    | tup ds =>
      obtain ⟨b, xs, rfl, h1, h2⟩ := is_tup.mp i1
      exact ⟨b, xs, rfl, h1.sq, by rw [h2.length]; exact q.1, ds, ρ, G, P', E, h2, s, r, q.2, k, x⟩
    | _ => exact q.elim
/-- o[i] = d -/
abbrev OpS := D → D → D → GS → (GS → Prop) → Prop
def gS (o i : DE) (op : OpS) : DG := fun d ρ G P E => o ρ G (fun x G1 => i ρ G1 (fun y G2 => op x y d G2 (P ρ)) E) E
def RSet (F : Fx) (X : Cx) (t : TSet) (op : OpS) : Prop := ∀ σ H G x y v dx dy dv P' Q, HR F X σ G H → Is X.K H x dx → Is X.K H y dy → Is X.K H v dv → op dx dy dv G P' → (∀ G' H', Ext H H' → HR F X σ G' H' → P' G' → Q H') → t x y v H Q
theorem sub_assign {o i : Expr} {pos : Pos} {env : Env} (h : notSlice i = true) : ∀ v, assign (.Subscript o i pos) env v = (do
      let ov ← holding [v] (eval o env)
      let iv ← holding [v, ov] (eval i env)
      standAt pos
      holding [v, ov, iv] (setItem ov iv v)
      release [v, ov, iv] []) := by
  intro _
  cases i <;> first | rfl | cases h
theorem upg_sub {o i : Expr} {od id : DE} {t : TSet} {op : OpS} {pos : Pos} (hn : notSlice i = true) (hp : PSet X t) (hr : RSet F X t op) (ho : PE X o (up F X od)) (hi : PE X i (up F X id)) : PG X (.Subscript o i pos) (upG F X (gS od id op)) :=
  PG_imp (pg_sub ho hi hp (sub_assign hn)) fun v σ H Q ⟨d, ρ, G, P', E, i1, s, r, q, k, x⟩ =>
    ⟨ρ, G, _, E, s, r, q, fun dx G1 vx H1 e1 r1 ix q1 => ⟨ρ, G1, _, E, s.ext e1, r1, q1, fun dy G2 vy H2 e2 r2 iy q2 =>
      hr σ H2 G2 vx vy v dx dy d (P' ρ) _ r2 (Is.ext e2 dx vx ix) iy (Is.ext (e1.trans e2) d v i1) q2 fun G3 H3 e3 r3 q3 => k ρ G3 σ H3 ((e1.trans e2).trans e3) (s.ext ((e1.trans e2).trans e3)) r3 q3, x.at.ext e1⟩, x.at⟩
def opSetL : OpS := fun o i v G P => match o, i with
  | .ref a, .int k => (match lstOf G a with
    | some xs => (match ixN xs.length k with
      | some j => P (gup G a (.lst (xs.set j v)))
      | none => False)
    | none => False)
  | _, _ => False
theorem rs_list : RSet F X rSetL opSetL := by
  intro σ H G x y v dx dy dv P' Q r ix iy iv q k
  unfold opSetL at q
  split at q
  · rename_i a n
    rw [is_ref.mp ix, is_int.mp iy]
    split at q
    · rename_i xs e1
      split at q
      · rename_i j e2
        obtain ⟨vs, h1, h2⟩ := r.obj a _ (lstOf_eq e1)
        have n1 : ¬ Stay (.lst vs) := fun z => z
        refine ⟨a, vs, n, j, rfl, rfl, h1, by rw [h2.length]; exact e2, k _ _ (Ext.upd h1 n1) (r.set (w := .lst (xs.set j dv)) h1 n1 (fun ps z => by cases z) ⟨_, upd_same, (h2.set iv j).ext (Ext.upd h1 n1)⟩) q⟩
      · exact q.elim
    · exact q.elim
  · exact q.elim

/-! ### statements -/
def sExpr (a : DE) : DS := fun D E ρ G => a ρ G (fun _ G1 => D.nx ρ G1) E
def sRet (a : DE) : DS := fun D E ρ G => a ρ G D.rt E
def sRetN : DS := fun D _ _ G => D.rt .non G
def sPass : DS := fun D _ ρ G => D.nx ρ G
def sAsg (a : DE) (t : DG) : DS := fun D E ρ G => a ρ G (fun d G1 => t d ρ G1 D.nx E) E
def sIf (t : DT) (a b : DS) : DS := fun D E ρ G => t ρ G (fun c G1 => if c = true then a D E ρ G1 else b D E ρ G1) E
def sSeq (a b : DS) : DS := fun D E ρ G => a { D with nx := b D E } E ρ G
theorem ups_expr {e : Expr} {a : DE} {pos : Pos} (hn : noComp e = true) (h : PE X e (up F X a)) : PS X (.Expr e pos) (upS F X (sExpr a)) :=
  PS_imp (ps_expr h (swap_no hn)) fun D σ H ⟨ρ, G, D', E, s, r, q, k, x⟩ => ⟨ρ, G, _, E, s, r, q, fun d G1 v H1 e1 r1 i1 q1 => k.nx ρ G1 σ H1 e1 (s.ext e1) r1 q1, x.at⟩
theorem ups_ret {e : Expr} {a : DE} {pos : Pos} (h : PE X e (up F X a)) : PS X (.Return (some e) pos) (upS F X (sRet a)) :=
  PS_imp (ps_ret h) fun D σ H ⟨ρ, G, D', E, s, r, q, k, x⟩ => ⟨ρ, G, _, E, s, r, q, k.rt σ, x.at⟩
theorem ups_retN {pos : Pos} : PS X (.Return none pos) (upS F X sRetN) :=
  PS_imp ps_retN fun D σ H ⟨ρ, G, D', E, s, r, q, k, x⟩ => k.rt σ .non G .non H (Ext.refl H) r (is_non.mpr rfl) q
theorem ups_pass {pos : Pos} : PS X (.Pass pos) (upS F X sPass) :=
  PS_imp ps_pass fun D σ H ⟨ρ, G, D', E, s, r, q, k, x⟩ => k.nx ρ G σ H (Ext.refl H) s r q
theorem ups_asg {tg e : Expr} {a : DE} {t : DG} {pos : Pos} (hs : swapsWith e (some tg) pos.line X.env = pure false) (hw : swappedStores [tg] e X.env = pure none) (hn : notStar tg = true) (he : PE X e (up F X a)) (hg : PG X tg (upG F X t)) :
    PS X (.Assign [tg] e pos) (upS F X (sAsg a t)) :=
  PS_imp (ps_asg he hg hs hw (by rw [assign_cons hn]; rfl)) fun D σ H ⟨ρ, G, D', E, s, r, q, k, x⟩ => ⟨ρ, G, _, E, s, r, q, fun d G1 v H1 e1 r1 i1 q1 => ⟨d, ρ, G1, _, E, i1, s.ext e1, r1, q1, k.nx.ext e1, x.ext e1⟩, x.at⟩
theorem ups_if {c : Expr} {a b : List Stmt} {t : DT} {da db : DS} {pos : Pos} (hc : PT X c (upT F X t)) (ha : PSs X a (upS F X da)) (hb : PSs X b (upS F X db)) : PS X (.If c a b pos) (upS F X (sIf t da db)) :=
  PS_imp (ps_if hc ha hb) fun D σ H ⟨ρ, G, D', E, s, r, q, k, x⟩ => ⟨ρ, G, _, E, s, r, q, fun b G1 H1 e1 r1 q1 => by
    cases b with
    | true =>
      simp only [if_true] at q1 ⊢
      exact ⟨ρ, G1, D', E, s.ext e1, r1, q1, k.ext e1, x.ext e1⟩
    | false =>
      simp only [Bool.false_eq_true, if_false] at q1 ⊢
      exact ⟨ρ, G1, D', E, s.ext e1, r1, q1, k.ext e1, x.ext e1⟩, x.at⟩
theorem upss_nil : PSs X [] (upS F X sPass) := PSs_imp pss_nil fun D σ H ⟨ρ, G, D', E, s, r, q, k, x⟩ => k.nx ρ G σ H (Ext.refl H) s r q
theorem upss_cons {st : Stmt} {rest : List Stmt} {a b : DS} (h1 : PS X st (upS F X a)) (h2 : PSs X rest (upS F X b)) : PSs X (st :: rest) (upS F X (sSeq a b)) :=
  PSs_imp (pss_cons h1 h2) fun D σ H ⟨ρ, G, D', E, s, r, q, k, x⟩ =>
    ⟨ρ, G, _, E, s, r, q, ⟨fun ρ1 G1 σ1 H1 e1 s1 r1 q1 => ⟨ρ1, G1, D', E, s1, r1, q1, k.ext e1, x.ext e1⟩, k.bk, k.ct, k.rt⟩, x⟩
/-- o.f = e -/
def sFldD (c f : Str) (o a : DE) : DS := fun D E ρ G => a ρ G (fun d G1 => o ρ G1 (fun z G2 => match insOf G2 c z with
  | some y => y.2.length < 1000 ∧ D.nx ρ (gup G2 y.1 (.ins c (putD f d y.2)))
  | none => False) E) E
theorem ups_fld (g : Good I F X) {c f : Str} (hf : FlFact X.K X.mg c f) {o e : Expr} {od ed : DE} {pos pos' : Pos} (hn : noComp e = true) (ho : PE X o (up F X od)) (he : PE X e (up F X ed)) :
    PS X (.Assign [.Attribute o f pos'] e pos) (upS F X (sFldD c f od ed)) :=
  PS_imp (ps_fld ho he (swap_no hn)) fun D σ H ⟨ρ, G, D', E, s, r, q, k, x⟩ => ⟨ρ, G, _, E, s, r, q, fun d G1 v H1 e1 r1 i1 q1 => ⟨ρ, G1, _, E, s.ext e1, r1, q1, fun z G2 w H2 e2 r2 i2 q2 => by
    cases q3 : insOf G2 c z with
    | none => simp only [q3] at q2
    | some y =>
      simp only [q3] at q2
      obtain ⟨e3, e4, C, dx, ys, hm, e5, e6⟩ := insOf_ok r2 i2 q3
      obtain ⟨h1, h2⟩ := hf.h C hm
      have n1 : ¬ Stay (.ins C dx ys) := fun z => z
      have e7 : Ext H2 (upd H2 y.1 (.ins C dx (putF f v ys))) := Ext.upd e5 n1
      refine ⟨y.1, C, dx, ys, e3, e5, h1, h2, by rw [e6.length]; exact q2.1, k.nx ρ _ σ _ ((e1.trans e2).trans e7) (s.ext ((e1.trans e2).trans e7)) ?_ q2.2⟩
      exact r2.set (w := .ins c (putD f d y.2)) e5 n1 (fun ps z => by cases z) ⟨C, dx, _, hm, upd_same, (isP_putF (Is.ext e2 d v i1) e6).ext e7⟩, x.at.ext e1⟩, x.at⟩

/-! ### loops -/
def forD (tg : DG) (b : DS) (Z : DEnds) (E : XD) (stab : GS → Prop) : List D → Rho → GS → Prop
  | [], ρ, G => stab G ∧ Z.nx ρ G
  | d :: ds, ρ, G => stab G ∧ tg d ρ G (fun ρ1 G1 => b { Z with nx := forD tg b Z E stab ds, ct := forD tg b Z E stab ds, bk := Z.nx } E ρ1 G1) E
def sFor (it : DI) (tg : DG) (b : DS) : DS := fun D E ρ G => it ρ G (fun ds stab G1 => forD tg b D E stab ds ρ G1) E
theorem ups_for (g : Good I F X) (hcm : I.calm = true) {tg iter : Expr} {body : List Stmt} {it : DI} {t : DG} {b : DS} {pos : Pos} (hl : I.lp = true) (hi : PI X tg iter (upI F X it)) (hg : PG X tg (upG F X t)) (hb : PSs X body (upS F X b)) (hs : ∀ x, foldedSetIterable iter X.env x = pure x) :
    PS X (.For tg iter body [] pos) (upS F X (sFor it t b)) :=
  PS_imp (ps_for (g.pass hl) (g.calm hcm) hi hg hb hs) fun D σ H ⟨ρ, G, D', E, s, r, q, k, x⟩ => ⟨ρ, G, _, E, s, r, q, fun ds stab G1 H1 J e1 r1 w q1 => by
    refine ⟨fun i m σ H => m = ds.length - i ∧ i ≤ ds.length ∧ Ext H1 H ∧ ∃ ρ G, SRep X.K H σ ρ ∧ HR F X σ G H ∧ forD t b D' E stab (ds.drop i) ρ G, ⟨ds.length, by simp, Nat.zero_le _, Ext.refl _, ρ, G1, s.ext e1, r1, q1⟩, ?_⟩
    rintro i m σ H2 ⟨rfl, hle, e2, ρ2, G2, s2, r2, q2⟩
    cases hd : ds.drop i with
    | nil =>
      rw [hd] at q2
      have hi : i = ds.length := by
        have h1 : (ds.drop i).length = 0 := by rw [hd]; rfl
        rw [List.length_drop] at h1
        omega
      obtain ⟨q3, q4⟩ := (show stab G2 ∧ D'.nx ρ2 G2 from q2)
      subst hi
      exact .inl ⟨w.stop (F.own σ) G2 H2 e2 r2 q3, k.nx ρ2 G2 σ H2 (e1.trans e2) s2 r2 q4⟩
    | cons d rest =>
      rw [hd] at q2
      have hi : i < ds.length := by
        have h1 : (ds.drop i).length = rest.length + 1 := by rw [hd]; rfl
        rw [List.length_drop] at h1
        omega
      have hget : ds[i]? = some d := by
        have h1 : (ds.drop i)[0]? = some d := by rw [hd]; rfl
        rw [List.getElem?_drop] at h1
        simpa using h1
      have hrest : ds.drop (i + 1) = rest := by
        rw [← List.drop_drop, hd]
        rfl
      obtain ⟨q3, q4⟩ := (show stab G2 ∧ t d ρ2 G2 (fun ρ1 G1 => b { D' with nx := forD t b D' E stab rest, ct := forD t b D' E stab rest, bk := D'.nx } E ρ1 G1) E from q2)
      refine .inr ⟨(w.go i (F.own σ) G2 H2 d e2 r2 q3 hget).1, fun σ' H' => Ext H1 H' ∧ ∃ ρ G, SRep X.K H' σ' ρ ∧ HR F X σ' G H' ∧ forD t b D' E stab rest ρ G, fun σ' H' n => ⟨ds.length - (i + 1), by omega, rfl, hi, n.1, by rw [hrest]; exact n.2⟩, fun y H3 yy => ?_⟩
      obtain ⟨e3, r3, i3⟩ := (w.go i (F.own σ) G2 H2 d e2 r2 q3 hget).2 y H3 yy
      have e13 : Ext H1 H3 := e2.trans e3
      refine ⟨d, ρ2, G2, _, E, i3, s2.ext e3, r3, q4, fun ρ4 G4 σ4 H4 e4 s4 r4 q5 => ?_, x.ext (e1.trans e13)⟩
      have nn : ∀ {P : Rho → GS → Prop}, P = forD t b D' E stab rest → SOk F X H4 P (fun σ' H' => Ext H1 H' ∧ ∃ ρ G, SRep X.K H' σ' ρ ∧ HR F X σ' G H' ∧ forD t b D' E stab rest ρ G) := fun {P} eP ρ5 G5 σ5 H5 e5 s5 r5 q6 => by
        subst eP
        exact ⟨(e13.trans e4).trans e5, ρ5, G5, s5, r5, q6⟩
      exact ⟨ρ4, G4, _, E, s4, r4, q5, ⟨nn rfl, k.nx.ext (e1.trans (e13.trans e4)), nn rfl, fun σ => (k.rt σ).ext (e1.trans (e13.trans e4))⟩, x.ext (e1.trans (e13.trans e4))⟩, x.at⟩
def whileD (c : DT) (b : DS) (D : DEnds) (E : XD) : Nat → Rho → GS → Prop
  | 0, _, _ => False
  | n + 1, ρ, G => c ρ G (fun t G1 => if t = true then b { D with nx := whileD c b D E n, ct := whileD c b D E n, bk := D.nx } E ρ G1 else D.nx ρ G1) E
def sWhile (c : DT) (b : DS) : DS := fun D E ρ G => ∃ n, whileD c b D E n ρ G
theorem ups_while (g : Good I F X) {c : Expr} {body : List Stmt} {t : DT} {b : DS} {pos : Pos} (hl : I.lp = true) (hc : PT X c (upT F X t)) (hb : PSs X body (upS F X b)) : PS X (.While c body [] pos) (upS F X (sWhile t b)) :=
  PS_imp (ps_while (g.pass hl) hc hb) fun D σ H ⟨ρ, G, D', E, s, r, ⟨n0, q⟩, k, x⟩ => by
    refine ⟨fun m σ H1 => Ext H H1 ∧ ∃ ρ G, SRep X.K H1 σ ρ ∧ HR F X σ G H1 ∧ whileD t b D' E m ρ G, ⟨n0, Ext.refl _, ρ, G, s, r, q⟩, ?_⟩
    rintro m σ H1 ⟨e1, ρ1, G1, s1, r1, q1⟩
    cases m with
    | zero => exact q1.elim
    | succ n =>
      refine ⟨ρ1, G1, _, E, s1, r1, q1, fun c G2 H2 e2 r2 q2 => ?_, x.at.ext e1⟩
      cases c with
      | true =>
        simp only [if_true] at q2 ⊢
        refine ⟨fun σ' H' => Ext H H' ∧ ∃ ρ G, SRep X.K H' σ' ρ ∧ HR F X σ' G H' ∧ whileD t b D' E n ρ G, fun σ' H' z => ⟨n, Nat.lt_succ_self n, z⟩, ?_⟩
        have nn : ∀ {P : Rho → GS → Prop}, P = whileD t b D' E n → SOk F X H2 P (fun σ' H' => Ext H H' ∧ ∃ ρ G, SRep X.K H' σ' ρ ∧ HR F X σ' G H' ∧ whileD t b D' E n ρ G) := fun {P} eP ρ5 G5 σ5 H5 e5 s5 r5 q6 => by
          subst eP
          exact ⟨(e1.trans e2).trans e5, ρ5, G5, s5, r5, q6⟩
        exact ⟨ρ1, G2, _, E, s1.ext e2, r2, q2, ⟨nn rfl, k.nx.ext (e1.trans e2), nn rfl, fun σ => (k.rt σ).ext (e1.trans e2)⟩, x.ext (e1.trans e2)⟩
      | false =>
        simp only [Bool.false_eq_true, if_false] at q2 ⊢
        exact k.nx ρ1 G2 σ H2 (e1.trans e2) (s1.ext e2) r2 q2

/-! ### comprehensions -/
/-- the slots of a comprehension's target -/
inductive CT where
  | one (i : Nat)
  | tup (is : List Nat)
def CT.slots : CT → List Nat
  | .one i => [i]
  | .tup is => is
def setAll : List Nat → List D → Rho → Option Rho
  | [], [], ρ => some ρ
  | i :: is, d :: ds, ρ => setAll is ds (ρ.set i (some d))
  | _, _, _ => none
def CT.put (t : CT) (d : D) (ρ : Rho) : Option Rho := match t with
  | .one i => some (ρ.set i (some d))
  | .tup is => (match d with
    | .tup ds => setAll is ds ρ
    | _ => none)
/-- nothing is raised -/
def noX : XD := fun _ _ _ => False
def compD (tg : CT) (c : DT) (e : DE) (ρ : Rho) (stab : GS → Prop) (p : Addr) (Q : DK) : List D → GS → Prop
  | [], G => stab G ∧ Q (.ref p) G
  | d :: ds, G => stab G ∧ (match tg.put d ρ with
    | some ρ1 => c ρ1 G (fun b G1 => if b = true then e ρ1 G1 (fun y G2 => (match lstOf G2 p with
        | some acc => acc.length < 100000 ∧ compD tg c e ρ stab p Q ds (gup G2 p (.lst (acc ++ [y])))
        | none => False)) noX
      else compD tg c e ρ stab p Q ds G1) noX
    | none => False)
def dLcK (ct : GS → GS) (it : DI) (tg : CT) (c : DT) (e : DE) : DE := fun ρ G Q E => it ρ G (fun ds stab G1 => ∀ p, G1 p = none → compD tg c e ρ stab p Q ds (gup (ct G1) p (.lst []))) E
def dLc (it : DI) (tg : CT) (c : DT) (e : DE) : DE := fun ρ G Q E => it ρ G (fun ds stab G1 => ∀ p, G1 p = none → compD tg c e ρ stab p Q ds (gup G1 p (.lst []))) E
/-- a frame that lets nothing out -/
abbrev Fx.no (F : Fx) : Fx := { F with W := fun _ _ _ _ => False, own := fun _ => noneOf F.h0 }
theorem noX_ok {F : Fx} {X : Cx} {σ : L2.St} {H : Hp} : EOk F X σ H noX := fun _ _ _ _ _ _ _ _ _ h => h.elim
def dYes : DT := fun _ G Q _ => Q true G
theorem upTs_nil : PTs X [] (upT F X dYes) := ⟨fun pins s σ H Q Iv ⟨ρ, G, Q', E, s1, r, q, k, x⟩ => pts_nil.run pins s σ H Q Iv (k true G H (Ext.refl H) r q)⟩
theorem upTs_one {c : Expr} {t : DT} (h : PT X c (upT F X t)) : PTs X [c] (upT F X t) := pts_one h
/-- the target of a comprehension as the hand layer has it -/
def ctG (K : PySem.W.Frag) : CT → TG
  | .one i => gName i
  | .tup is => gTup K is.length (is.foldr (fun i t => gCons (gName i) t) gNil)
def setV : List Nat → List V → L2.St → L2.St
  | i :: is, v :: vs, σ => setV is vs (σ.set i (some v))
  | _, _, σ => σ
theorem gsV_of : ∀ {is : List Nat} {vs : List V} {σ : L2.St} {H : Hp} {Q : L2.St → Hp → Prop}, vs.length = is.length → Q (setV is vs σ) H → (is.foldr (fun i t => gCons (gName i) t) gNil) vs σ H Q
  | [], [], _, _, _, _, h => ⟨rfl, h⟩
  | _ :: _, v :: vs, _, _, _, e, h => ⟨v, vs, rfl, gsV_of (by simpa using e) h⟩
  | [], _ :: _, _, _, _, e, _ => by simp at e
  | _ :: _, [], _, _, _, e, _ => by simp at e
theorem wipe_set {σ : L2.St} {i : Nat} {v : Option V} : ∀ {vs : List Nat}, i ∈ vs → wipe (σ.set i v) vs = wipe σ vs
  | w :: vs, h => by
    unfold wipe
    by_cases e : i ∈ vs
    · rw [wipe_set e]
    · have ew : i = w := by
        rcases List.mem_cons.mp h with z | z
        · exact z
        · exact absurd z e
      subst ew
      have push : ∀ (us : List Nat), i ∉ us → wipe (σ.set i v) us = (wipe σ us).set i v := by
        intro us
        induction us with
        | nil => intro _; rfl
        | cons u us ih =>
          intro hn
          simp only [List.mem_cons, not_or] at hn
          unfold wipe
          rw [ih hn.2, List.set_comm _ _ hn.1]
      rw [push vs e, List.set_set]
theorem wipe_setV {vs : List Nat} : ∀ {is : List Nat} {xs : List V} {σ : L2.St}, (∀ i ∈ is, i ∈ vs) → wipe (setV is xs σ) vs = wipe σ vs
  | [], _, _, _ => by unfold setV; rfl
  | _ :: _, [], _, _ => by unfold setV; rfl
  | i :: is, v :: xs, σ, h => by
    unfold setV
    rw [wipe_setV fun j hj => h j (List.mem_cons_of_mem _ hj)]
    exact wipe_set (h i List.mem_cons_self)
theorem wipe_wipe {σ : L2.St} : ∀ {vs : List Nat}, ∀ us : List Nat, (∀ i ∈ us, i ∈ vs) → wipe (wipe σ us) vs = wipe σ vs
  | vs, [], _ => rfl
  | vs, u :: us, h => by
    show wipe ((wipe σ us).set u none) vs = _
    rw [wipe_set (h u List.mem_cons_self)]
    exact wipe_wipe us fun i hi => h i (List.mem_cons_of_mem _ hi)
theorem setAll_rep {K : PySem.W.Frag} {H : Hp} : ∀ {is : List Nat} {ds : List D} {vs : List V} {σ : L2.St} {ρ ρ1 : Rho}, SRep K H σ ρ → IsL K H vs ds → setAll is ds ρ = some ρ1 → SRep K H (setV is vs σ) ρ1 ∧ vs.length = is.length
  | [], [], vs, σ, ρ, ρ1, s, i, e => by
    rw [isL_nil.mp i]
    unfold setAll at e
    cases e
    exact ⟨s, rfl⟩
  | i :: is, d :: ds, vs, σ, ρ, ρ1, s, il, e => by
    obtain ⟨x, xs, rfl, h1, h2⟩ := isL_cons.mp il
    unfold setAll at e
    obtain ⟨h3, h4⟩ := setAll_rep (s.set (i := i) h1) h2 e
    exact ⟨h3, by simp [h4]⟩
  | [], _ :: _, _, _, _, _, _, _, e => by unfold setAll at e; cases e
  | _ :: _, [], _, _, _, _, _, _, e => by unfold setAll at e; cases e
/-- slots that a target sets anyway may have been wiped -/
def SRepX (K : PySem.W.Frag) (H : Hp) (vs : List Nat) (σ : L2.St) (ρ : Rho) : Prop := ρ.length = σ.length ∧ ∀ (i : Nat) (d : D), i ∉ vs → ρ[i]? = some (some d) → ∃ v, σ[i]? = some (some v) ∧ Is K H v d
theorem SRepX.set {K : PySem.W.Frag} {H : Hp} {vs : List Nat} {σ : L2.St} {ρ : Rho} {i : Nat} {v : V} {d : D} (h : SRepX K H vs σ ρ) (r : Is K H v d) : SRepX K H (vs.filter (· ≠ i)) (σ.set i (some v)) (ρ.set i (some d)) := by
  refine ⟨by simp [h.1], fun j e hn q => ?_⟩
  by_cases hj : j = i
  · subst hj
    have hl : j < ρ.length := by
      have h2 := (List.getElem?_eq_some_iff.mp q).1
      simpa using h2
    rw [List.getElem?_set_self hl] at q
    cases q
    exact ⟨v, List.getElem?_set_self (by rw [← h.1]; exact hl), r⟩
  · rw [List.getElem?_set_ne (Ne.symm hj)] at q
    have hv : j ∉ vs := fun z => hn (List.mem_filter.mpr ⟨z, by simpa using hj⟩)
    obtain ⟨w, e1, e2⟩ := h.2 j e hv q
    exact ⟨w, by rw [List.getElem?_set_ne (Ne.symm hj)]; exact e1, e2⟩
theorem wipe_look {σ : L2.St} {j : Nat} : ∀ {vs : List Nat}, j ∉ vs → (wipe σ vs)[j]? = σ[j]?
  | [], _ => rfl
  | v :: vs, h => by
    simp only [List.mem_cons, not_or] at h
    unfold wipe
    rw [List.getElem?_set_ne (Ne.symm h.1)]
    exact wipe_look h.2
theorem SRepX.of_wipe {K : PySem.W.Frag} {H : Hp} {vs : List Nat} {σ : L2.St} {ρ : Rho} (h : SRep K H σ ρ) : SRepX K H vs (wipe σ vs) ρ := ⟨by rw [wipe_length]; exact h.1, fun i d hn q => by
  rw [wipe_look hn]
  exact h.2 i d q⟩
theorem SRepX.all {K : PySem.W.Frag} {H : Hp} : ∀ {is : List Nat} {ds : List D} {xs : List V} {σ : L2.St} {ρ ρ1 : Rho} {vs : List Nat}, SRepX K H vs σ ρ → (∀ i ∈ vs, i ∈ is) → IsL K H xs ds → setAll is ds ρ = some ρ1 → SRep K H (setV is xs σ) ρ1 ∧ xs.length = is.length
  | [], [], xs, σ, ρ, ρ1, vs, s, hv, i, e => by
    rw [isL_nil.mp i]
    unfold setAll at e
    cases e
    exact ⟨⟨s.1, fun j d q => s.2 j d (fun z => absurd (hv j z) (by simp)) q⟩, rfl⟩
  | i :: is, d :: ds, xs, σ, ρ, ρ1, vs, s, hv, il, e => by
    obtain ⟨x, ys, rfl, h1, h2⟩ := isL_cons.mp il
    unfold setAll at e
    obtain ⟨h3, h4⟩ := SRepX.all (s.set (i := i) h1) (fun j hj => by
      obtain ⟨z1, z2⟩ := List.mem_filter.mp hj
      rcases List.mem_cons.mp (hv j z1) with z | z
      · exact absurd z (by simpa using z2)
      · exact z) h2 e
    exact ⟨h3, by simp [h4]⟩
  | [], _ :: _, _, _, _, _, _, _, _, _, e => by unfold setAll at e; cases e
  | _ :: _, [], _, _, _, _, _, _, _, _, e => by unfold setAll at e; cases e
theorem ct_run {K : PySem.W.Frag} {H : Hp} {tg : CT} {v : V} {d : D} {σ : L2.St} {ρ ρ1 : Rho} {Q : L2.St → Hp → Prop} (s : SRep K H σ ρ) (i : Is K H v d) (e : tg.put d ρ = some ρ1) (q : ∀ σ1, SRep K H σ1 ρ1 → wipe σ1 tg.slots = wipe σ tg.slots → Q σ1 H) :
    ctG K tg v (wipe σ tg.slots) H Q := by
  cases tg with
  | one j =>
    have e : some (ρ.set j (some d)) = some ρ1 := e
    cases e
    have h1 := (SRepX.of_wipe (vs := [j]) s).set (i := j) i
    refine q _ ⟨h1.1, fun n d' q' => h1.2 n d' (by simp) q'⟩ ?_
    show wipe ((wipe σ [j]).set j (some v)) [j] = _
    rw [wipe_set (by simp)]
    exact wipe_wipe [j] fun _ h => h
  | tup is =>
    cases d with
    | tup ds =>
      have e : setAll is ds ρ = some ρ1 := e
      obtain ⟨a, xs, rfl, h1, h2⟩ := is_tup.mp i
      obtain ⟨h3, h4⟩ := SRepX.all (SRepX.of_wipe (vs := is) s) (fun _ h => h) h2 e
      refine ⟨a, xs, rfl, h1.sq, h4, gsV_of h4 (q _ h3 ?_)⟩
      show wipe (setV is xs (wipe σ is)) is = wipe σ is
      rw [wipe_setV fun _ h => h]
      exact wipe_wipe is fun _ h => h
    | _ => cases e
/-- the reading of a comprehension from its meaning -/
theorem lc_upK (ct : GS → GS) (to : ∀ σ G H, HR F X σ G H → HRep F.Γ X.K X.mg (noneOf F.h0) (ct G) H) (back : ∀ σ G H, HRep F.Γ X.K X.mg (noneOf F.h0) G H → HR F X σ G H) (it : DI) (tg : CT) (c : DT) (e : DE) : ∀ σ H Q, up F X (dLcK ct it tg c e) σ H Q → tLc (upI F X it) (ctG X.K tg) (upT F.no X c) (up F.no X e) tg.slots σ H Q := by
  intro σ H Q ⟨ρ, G, Q', E, s, r, q, k, x⟩
  refine ⟨ρ, G, _, E, s, r, q, fun ds stab G1 H1 J e1 r1 w q1 => ?_, x⟩
  intro p hp
  have hGp := r1.fresh hp
  have ep : Ext H1 (upd H1 p (.lst [])) := Ext.new hp
  have rp : HRep F.Γ X.K X.mg (noneOf F.h0) (gup (ct G1) p (.lst [])) (upd H1 p (.lst [])) := (to σ G1 H1 r1).new (u := .lst []) hp ⟨[], upd_same, isL_nil.mpr rfl⟩
  refine ⟨fun i m H => m = ds.length - i ∧ i ≤ ds.length ∧ Ext H1 H ∧ ∃ G, HRep F.Γ X.K X.mg (noneOf F.h0) G H ∧ compD tg c e ρ stab p Q' (ds.drop i) G, ⟨ds.length, by simp, Nat.zero_le _, ep, _, rp, q1 p hGp⟩, ?_⟩
  rintro i m H2 ⟨rfl, hle, e2, G2, r2, q2⟩
  cases hd : ds.drop i with
  | nil =>
    rw [hd] at q2
    have hi : i = ds.length := by
      have h1 : (ds.drop i).length = 0 := by rw [hd]; rfl
      rw [List.length_drop] at h1
      omega
    obtain ⟨q3, q4⟩ := (show stab G2 ∧ Q' (.ref p) G2 from q2)
    subst hi
    exact .inl ⟨w.stop (noneOf F.h0) G2 H2 e2 r2 q3, k (.ref p) G2 _ H2 (e1.trans e2) (back σ G2 H2 r2) (is_ref.mpr rfl) q4⟩
  | cons d rest =>
    rw [hd] at q2
    have hi : i < ds.length := by
      have h1 : (ds.drop i).length = rest.length + 1 := by rw [hd]; rfl
      rw [List.length_drop] at h1
      omega
    have hget : ds[i]? = some d := by
      have h1 : (ds.drop i)[0]? = some d := by rw [hd]; rfl
      rw [List.getElem?_drop] at h1
      simpa using h1
    have hrest : ds.drop (i + 1) = rest := by
      rw [← List.drop_drop, hd]
      rfl
    unfold compD at q2
    obtain ⟨q3, q4⟩ := q2
    cases hput : tg.put d ρ with
    | none => simp only [hput] at q4
    | some ρ1 =>
      simp only [hput] at q4
      refine .inr ⟨(w.go i (noneOf F.h0) G2 H2 d e2 r2 q3 hget).1, fun H' => Ext H1 H' ∧ ∃ G, HRep F.Γ X.K X.mg (noneOf F.h0) G H' ∧ compD tg c e ρ stab p Q' rest G, fun H' n => ⟨ds.length - (i + 1), by omega, rfl, hi, n.1, by rw [hrest]; exact n.2⟩, fun y H3 yy => ?_⟩
      obtain ⟨e3, r3, i3⟩ := (w.go i (noneOf F.h0) G2 H2 d e2 r2 q3 hget).2 y H3 yy
      have e13 : Ext H1 H3 := e2.trans e3
      refine ct_run (s.ext (e1.trans e13)) i3 hput fun σ1 s1 hw => ⟨hw, ?_⟩
      refine ⟨ρ1, G2, _, noX, s1, r3, q4, fun b G4 H4 e4 r4 q5 => ?_, noX_ok⟩
      cases b with
      | false =>
        simp only [Bool.false_eq_true, if_false] at q5 ⊢
        exact ⟨e13.trans e4, G4, r4, q5⟩
      | true =>
        simp only [if_true] at q5 ⊢
        refine ⟨ρ1, G4, _, noX, s1.ext e4, r4, q5, fun z G5 v H5 e5 r5 i5 q6 => ?_, noX_ok⟩
        cases hl : lstOf G5 p with
        | none => simp only [hl] at q6
        | some acc =>
          simp only [hl] at q6
          obtain ⟨vs, h1, h2⟩ := r5.obj p _ (lstOf_eq hl)
          have n1 : ¬ Stay (.lst vs) := fun z => z
          have e6 : Ext H5 (upd H5 p (.lst (vs ++ [v]))) := Ext.upd h1 n1
          refine ⟨vs, h1, by rw [h2.length]; exact Nat.lt_of_lt_of_le q6.1 (by decide), (((e13.trans e4).trans e5).trans e6), gup G5 p (.lst (acc ++ [z])), ?_, q6.2⟩
          exact r5.set (w := .lst (acc ++ [z])) h1 n1 (fun ps z => by cases z) ⟨_, upd_same, (h2.append (IsL.one i5)).ext e6⟩
theorem to_none (g : Good I F X) (hl : I.lam = false) : ∀ σ G H, HR F X σ G H → HRep F.Γ X.K X.mg (noneOf F.h0) G H := fun σ G H r => by
  rw [← own_none g hl σ]
  exact r
theorem of_none (g : Good I F X) : ∀ σ G H, HRep F.Γ X.K X.mg (noneOf F.h0) G H → HR F X σ G H := fun σ G H r =>
  hr_none (fun c v z => z) (by rw [own_h0 g]; exact r.old) r
theorem lc_up (g : Good I F X) (hl : I.lam = false) (it : DI) (tg : CT) (c : DT) (e : DE) : ∀ σ H Q, up F X (dLc it tg c e) σ H Q → tLc (upI F X it) (ctG X.K tg) (upT F.no X c) (up F.no X e) tg.slots σ H Q :=
  lc_upK (fun G => G) (to_none g hl) (of_none g) it tg c e
def dLcC (g0 : GS) (it : DI) (tg : CT) (c : DT) (e : DE) : DE := dLcK (keepC g0) it tg c e
theorem lc_upC (g : Good I F X) (hl : I.lam = true) (it : DI) (tg : CT) (c : DT) (e : DE) : ∀ σ H Q, up F X (dLcC F.g0 it tg c e) σ H Q → tLc (upI F X it) (ctG X.K tg) (upT F.no X c) (up F.no X e) tg.slots σ H Q :=
  lc_upK (keepC F.g0) (fun σ G H r => by
    have e : Ext F.h0 H := by
      rw [← own_h0 g σ]
      exact r.old
    exact keep_rep (g.old hl) e e r) (of_none g) it tg c e
end
end GL
set_option Elab.async false
set_option linter.all false
set_option maxRecDepth 100000
set_option maxHeartbeats 2000000
/-! G7: methods of lists and dicts, what is raised and caught. -/
namespace GL
open PySem PySem.Spec PyProof.Rows L2
section
variable {I : Inf} {F : Fx} {X : Cx}

theorem hu1 (g : Good I F X) : X.A.units + 1 < cLine := by
  have := g.un
  omega
/-! ### methods of lists -/
abbrev OpM := D → List D → GS → DK → Prop
def dMth (op : OpM) (o : DE) (a : DA) : DE := fun ρ G Q E => o ρ G (fun d G1 => a ρ G1 (fun ds G2 => op d ds G2 Q) E) E
def RMt (F : Fx) (X : Cx) (T : String) (r : V → List V → Hp → VK → Prop) (ty : GS → D → Prop) (op : OpM) : Prop :=
  (∀ σ H G v d, HR F X σ G H → Is X.K H v d → ty G d → tyV X.K T v H) ∧ ∀ σ H G v d vs ds Q' Q, HR F X σ G H → Is X.K H v d → IsL X.K H vs ds → op d ds G Q' → KOk F X σ H Q' Q → r v vs H Q
/-- o.m(..) of a built-in class; ty: o is such a thing as it is asked for -/
def dMthT (ty : GS → D → Prop) (op : OpM) (o : DE) (a : DA) : DE := fun ρ G Q E => o ρ G (fun d G1 => ty G1 d ∧ a ρ G1 (fun ds G2 => op d ds G2 Q) E) E
theorem few_ok {es : List Expr} {cpos : Pos} {env : Env} (hs : es.all notStar = true) (hn : es.length < 30) :
    ((backTo cpos (starEach es env)).all (fun x => !x.1) && (backToKw cpos (keywordEach [] env)).all (fun x => x.1.isSome) && decide (es.length + ([] : List Keyword).length + (if ([] : List Keyword).isEmpty then 0 else 1) < 30)) = true := by
  have h1 : ((backTo cpos (starEach es env)).all fun x => !x.1) = true := by
    rw [List.all_eq_not_any_not]
    have := star_any (env := env) (pos := cpos) hs
    simpa using this
  rw [h1]
  simp [backToKw, keywordEach, hn]
theorem up_mth {T id : String} {name : Str} {r : V → List V → Hp → VK → Prop} {ty : GS → D → Prop} {op : OpM} {o e : Expr} {es : List Expr} {od : DE} {a : DA} {apos cpos : Pos} (pa : PlainAttrs T) (slot : Slot T name id) (hty : typeOf (.builtin id) = pure (.type "method_descriptor")) (hm : MtR X id r) (ro : RMt F X T r ty op)
    (hb : plainBase o = true) (hl : (apos.endLine == cpos.line) = true) (hs : (e :: es).all notStar = true) (hn : (e :: es).length < 30) (ho : PE X o (up F X od)) (ha : PA X (e :: es) (upA F X a)) :
    PE X (.Call (.Attribute o name apos) (e :: es) [] cpos) (up F X (dMthT ty op od a)) := by
  have hs' := hs
  simp only [List.all_cons, Bool.and_eq_true] at hs'
  refine PE_imp (pe_bm pa slot hty hm ho ha (base_plain hb) (few_ok hs hn) hl (star_cons hs'.1) (star_any hs'.2)) fun σ H Q ⟨ρ, G, Q', E, s, r0, q, k, x⟩ => ?_
  exact ⟨ρ, G, _, E, s, r0, q, fun d G1 v H1 e1 r1 i1 q1 => ⟨ro.1 σ H1 G1 v d r1 i1 q1.1, ρ, G1, _, E, s.ext e1, r1, q1.2, fun ds G2 vs H2 e2 r2 i2 q2 => ro.2 σ H2 G2 v d vs ds Q' Q r2 (Is.ext e2 d v i1) i2 q2 (k.ext (e1.trans e2)), x.ext e1⟩, x⟩
/-- a list -/
def isLstD (G : GS) (d : D) : Prop := match d with
  | .ref a => (match lstOf G a with
    | some _ => True
    | none => False)
  | _ => False
theorem lst_ty : ∀ σ H G v d, HR F X σ G H → Is X.K H v d → isLstD G d → tyV X.K "list" v H := by
  intro σ H G v d r i t
  unfold isLstD at t
  cases d with
  | ref a =>
    rw [is_ref.mp i]
    cases e : lstOf G a with
    | some xs =>
      obtain ⟨vs, h1, _⟩ := r.obj a _ (lstOf_eq e)
      exact .inl ⟨rfl, vs, SqL.of h1⟩
    | none =>
      simp only [e] at t
  | _ => exact t.elim
def opAppend : OpM
  | .ref a, [y], G, Q => (match lstOf G a with
    | some xs => xs.length < 100000 ∧ Q .non (gup G a (.lst (xs ++ [y])))
    | none => False)
  | _, _, _, _ => False
def opExtend : OpM
  | .ref a, [.ref b], G, Q => (match lstOf G a, lstOf G b with
    | some xs, some ys => xs.length + ys.length ≤ 100000 ∧ Q .non (gup G a (.lst (xs ++ ys)))
    | _, _ => False)
  | _, _, _, _ => False
def opPopAt : OpM
  | .ref a, [.int i], G, Q => (match lstOf G a with
    | some xs => (match ixN xs.length i with
      | some k => (match xs[k]? with
        | some y => (-(2 ^ 63) ≤ i ∧ i < 2 ^ 63) ∧ Q y (gup G a (.lst (xs.eraseIdx k)))
        | none => False)
      | none => False)
    | none => False)
  | _, _, _, _ => False
/-- a list told anew -/
theorem set_lst {σ : L2.St} {H : Hp} {G : GS} {a : Addr} {vs ws : List V} {es : List D} {v : V} {d : D} {Q' : DK} {Q : VK} (r : HR F X σ G H) (h : H a = some (.lst vs)) (i : IsL X.K H ws es) (iv : Is X.K H v d) (q : Q' d (gup G a (.lst es))) (k : KOk F X σ H Q' Q) : Q v (upd H a (.lst ws)) := by
  have n1 : ¬ Stay (.lst vs) := fun z => z
  have e := Ext.upd (o := .lst ws) h n1
  exact k d _ v _ e (r.set (w := .lst es) h n1 (fun ps z => by cases z) ⟨ws, upd_same, i.ext e⟩) (Is.ext e d v iv) q
theorem rm_append : RMt F X "list" rAppend isLstD opAppend := by
  refine ⟨lst_ty, fun σ H G v d vs ds Q' Q r i il q k => ?_⟩
  unfold opAppend at q
  split at q
  · rename_i a y
    obtain ⟨w, r1, rfl, i1, i2⟩ := isL_cons.mp il
    rw [isL_nil.mp i2, is_ref.mp i]
    split at q
    · rename_i xs e
      obtain ⟨zs, h1, h2⟩ := r.obj a _ (lstOf_eq e)
      exact ⟨a, zs, w, rfl, rfl, h1, by rw [h2.length]; exact Nat.lt_of_lt_of_le q.1 (by decide), set_lst r h1 (h2.append (IsL.one i1)) (is_non.mpr rfl) q.2 k⟩
    · exact q.elim
  · exact q.elim
theorem rm_extend : RMt F X "list" rExtend isLstD opExtend := by
  refine ⟨lst_ty, fun σ H G v d vs ds Q' Q r i il q k => ?_⟩
  unfold opExtend at q
  split at q
  · rename_i a b
    obtain ⟨w, r1, rfl, i1, i2⟩ := isL_cons.mp il
    rw [isL_nil.mp i2, is_ref.mp i, is_ref.mp i1]
    split at q
    · rename_i xs ys e e2
      obtain ⟨zs, h1, h2⟩ := r.obj a _ (lstOf_eq e)
      obtain ⟨ws, h3, h4⟩ := r.obj b _ (lstOf_eq e2)
      exact ⟨a, b, zs, ws, rfl, rfl, h1, h3, by rw [h2.length, h4.length]; exact Nat.le_trans q.1 (by decide), set_lst r h1 (h2.append h4) (is_non.mpr rfl) q.2 k⟩
    · exact q.elim
  · exact q.elim
theorem rm_popAt : RMt F X "list" rPopAt isLstD opPopAt := by
  refine ⟨lst_ty, fun σ H G v d vs ds Q' Q r i il q k => ?_⟩
  unfold opPopAt at q
  split at q
  · rename_i a n
    obtain ⟨w, r1, rfl, i1, i2⟩ := isL_cons.mp il
    rw [isL_nil.mp i2, is_ref.mp i, is_int.mp i1]
    split at q
    · rename_i xs e
      obtain ⟨zs, h1, h2⟩ := r.obj a _ (lstOf_eq e)
      split at q
      · rename_i j e2
        split at q
        · rename_i y e3
          obtain ⟨v', e4, i4⟩ := h2.get e3
          obtain ⟨s1, s2, s3, s4⟩ := ixN_seq e2
          exact ⟨a, zs, n, j, v', rfl, rfl, h1, q.1.1, q.1.2, by rw [h2.length]; exact s1, e4, set_lst r h1 (h2.eraseIdx j) i4 q.2 k⟩
        · exact q.elim
      · exact q.elim
    · exact q.elim
  · exact q.elim

/-! ### dicts -/
def keyD : D → Option Key
  | .int i => some (.inl i)
  | .str x => some (.inr x)
  | _ => none
def keysL : List D → Option (List Key)
  | [] => some []
  | d :: ds => (keyD d).bind fun k => (keysL ds).map fun ks => k :: ks
def keysD : D → Option (List Key)
  | .tup ds => if keyish ds = true then keysL ds else none
  | _ => none
theorem keyD_ok {K : PySem.W.Frag} {H : Hp} {d : D} {v : V} {k : Key} (i : Is K H v d) (e : keyD d = some k) : v = kV k := by
  unfold keyD at e
  split at e
  · cases e; exact is_int.mp i
  · cases e; exact is_str.mp i
  · cases e
theorem keysL_ok {K : PySem.W.Frag} {H : Hp} : ∀ {ds : List D} {vs : List V} {ks : List Key}, IsL K H vs ds → keysL ds = some ks → vs = ks.map kV
  | [], _, _, i, e => by
    rw [isL_nil.mp i]
    unfold keysL at e
    cases e
    rfl
  | d :: ds, _, _, i, e => by
    obtain ⟨x, xs, rfl, h1, h2⟩ := isL_cons.mp i
    unfold keysL at e
    cases q : keyD d with
    | none => rw [q] at e; cases e
    | some k =>
      cases q2 : keysL ds with
      | none => rw [q, q2] at e; cases e
      | some ks =>
        rw [q, q2] at e
        cases e
        rw [keyD_ok h1 q, keysL_ok h2 q2]
        rfl
theorem keysD_ok {K : PySem.W.Frag} {H : Hp} {d : D} {v : V} {ks : List Key} (i : Is K H v d) (e : keysD d = some ks) : ∃ b, v = .ref b ∧ H b = some (.tup (ks.map kV)) := by
  unfold keysD at e
  split at e
  · split at e
    · rename_i hk
      obtain ⟨a, xs, rfl, h1, h2⟩ := is_tup.mp i
      rw [keysL_ok h2 e] at h1
      rcases h1 with h1 | ⟨_, h1⟩
      · exact ⟨a, rfl, h1⟩
      · rw [hk] at h1
        cases h1
    · cases e
  · cases e
section
variable {κ : Type} [DecidableEq κ]
def valD (kvs : List (κ × D)) (k : κ) : Option D := (kvs.find? fun kv => decide (kv.1 = k)).map (·.2)
def putDk (kvs : List (κ × D)) (k : κ) (v : D) : List (κ × D) :=
  if (kvs.any fun kv => decide (kv.1 = k)) = true then kvs.map (fun kv => if kv.1 = k then (kv.1, v) else kv) else kvs ++ [(k, v)]
def dropDk (kvs : List (κ × D)) (k : κ) : List (κ × D) := kvs.filter fun kv => decide (kv.1 ≠ k)
variable {K : PySem.W.Frag} {H : Hp}
theorem IsP.val : ∀ {ds : List (κ × D)} {vs : List (κ × V)} (k : κ), IsP K H vs ds → (valD ds k = none ∧ valV vs k = none) ∨ ∃ d v, valD ds k = some d ∧ valV vs k = some v ∧ Is K H v d
  | [], _, k, h => by rw [show _ = _ from h]; exact .inl ⟨rfl, rfl⟩
  | (k', d) :: ds, _, k, h => by
    obtain ⟨v, r, rfl, h1, h2⟩ := h
    by_cases e : k' = k
    · exact .inr ⟨d, v, by simp [valD, List.find?_cons, e], by simp [valV, List.find?_cons, e], h1⟩
    · have a1 : valD ((k', d) :: ds) k = valD ds k := by simp [valD, List.find?_cons, e]
      have a2 : valV ((k', v) :: r) k = valV r k := by simp [valV, List.find?_cons, e]
      rw [a1, a2]
      exact h2.val k
theorem IsP.append : ∀ {ds es : List (κ × D)} {vs ws : List (κ × V)}, IsP K H vs ds → IsP K H ws es → IsP K H (vs ++ ws) (ds ++ es)
  | [], _, _, _, h, q => by rw [show _ = _ from h]; exact q
  | (k, d) :: ds, _, _, _, h, q => by
    obtain ⟨v, r, rfl, h1, h2⟩ := h
    exact ⟨v, _, rfl, h1, h2.append q⟩
theorem IsP.anyK (k : κ) : ∀ {ds : List (κ × D)} {vs : List (κ × V)}, IsP K H vs ds → (vs.any fun kv => decide (kv.1 = k)) = (ds.any fun kv => decide (kv.1 = k))
  | [], _, h => by rw [show _ = _ from h]; rfl
  | (k', d) :: ds, _, h => by
    obtain ⟨v, r, rfl, h1, h2⟩ := h
    simp only [List.any_cons, h2.anyK k]
theorem IsP.repl {k : κ} {v : V} {d : D} (hv : Is K H v d) : ∀ {ds : List (κ × D)} {vs : List (κ × V)}, IsP K H vs ds →
    IsP K H (vs.map fun kv => if kv.1 = k then (kv.1, v) else kv) (ds.map fun kv => if kv.1 = k then (kv.1, d) else kv)
  | [], _, h => by rw [show _ = _ from h]; rfl
  | (k', e) :: ds, _, h => by
    obtain ⟨x, r, rfl, h1, h2⟩ := h
    simp only [List.map_cons]
    by_cases q : k' = k
    · rw [if_pos q, if_pos q]
      exact ⟨v, _, rfl, hv, h2.repl hv⟩
    · rw [if_neg q, if_neg q]
      exact ⟨x, _, rfl, h1, h2.repl hv⟩
theorem IsP.put {k : κ} {v : V} {d : D} (hv : Is K H v d) {ds : List (κ × D)} {vs : List (κ × V)} (h : IsP K H vs ds) : IsP K H (putK vs k v) (putDk ds k d) := by
  unfold putK putDk
  rw [h.anyK k]
  split
  · exact h.repl hv
  · exact h.append ⟨v, [], rfl, hv, rfl⟩
theorem IsP.drop {k : κ} : ∀ {ds : List (κ × D)} {vs : List (κ × V)}, IsP K H vs ds → IsP K H (dropK vs k) (dropDk ds k)
  | [], _, h => by rw [show _ = _ from h]; rfl
  | (k', e) :: ds, _, h => by
    obtain ⟨x, r, rfl, h1, h2⟩ := h
    unfold dropK dropDk
    simp only [List.filter_cons]
    by_cases q : k' = k
    · simp only [q, ne_eq, not_true_eq_false, decide_false, Bool.false_eq_true, if_false]
      exact h2.drop
    · simp only [ne_eq, q, not_false_eq_true, decide_true, if_true]
      exact ⟨x, _, rfl, h1, h2.drop⟩
end
/-- what a dict holds at a key; none: no dict, no key -/
def dLook (G : GS) (d k : D) : Option (Option D) := match d with
  | .ref a => (match G a with
    | some (.dK kvs) => (keyD k).map (valD kvs)
    | some (.dT kvs) => (keysD k).map (valD kvs)
    | _ => none)
  | _ => none
theorem dLook_ok {Γ : Gm} {K : PySem.W.Frag} {mg : Str → Option Value} {own : Own} {G : GS} {H : Hp} {x y : V} {d k : D} {o : Option D} (r : HRep Γ K mg own G H) (ix : Is K H x d) (iy : Is K H y k) (e : dLook G d k = some o) :
    ∃ a w, x = .ref a ∧ IsD H a ∧ DGet H a y w ∧ ((o = none ∧ w = none) ∨ ∃ z v, o = some z ∧ w = some v ∧ Is K H v z) := by
  unfold dLook at e
  cases d with
  | ref a =>
    rw [is_ref.mp ix]
    cases eG : G a with
    | none => simp only [eG] at e; cases e
    | some g =>
      cases g with
      | dK kvs =>
        simp only [eG] at e
        cases ek : keyD k with
        | none => rw [ek] at e; cases e
        | some kk =>
          rw [ek] at e
          cases e
          obtain ⟨ys, h1, h2⟩ := r.obj a _ eG
          rw [keyD_ok iy ek]
          refine ⟨a, _, rfl, .inl ⟨ys, .inl h1⟩, DGet.k h1, ?_⟩
          rcases h2.val kk with ⟨z1, z2⟩ | ⟨z, v, z1, z2, z3⟩
          · exact .inl ⟨z1, z2⟩
          · exact .inr ⟨z, v, z1, z2, z3⟩
      | dT kvs =>
        simp only [eG] at e
        cases ek : keysD k with
        | none => rw [ek] at e; cases e
        | some kk =>
          rw [ek] at e
          cases e
          obtain ⟨ys, h1, h2⟩ := r.obj a _ eG
          obtain ⟨b, rfl, hb⟩ := keysD_ok iy ek
          refine ⟨a, _, rfl, .inr ⟨ys, .inl h1⟩, DGet.t h1 hb, ?_⟩
          rcases h2.val kk with ⟨z1, z2⟩ | ⟨z, v, z1, z2, z3⟩
          · exact .inl ⟨z1, z2⟩
          · exact .inr ⟨z, v, z1, z2, z3⟩
      | _ => simp only [eG] at e; cases e
  | _ => cases e
/-- d[k], there -/
def opDGet : OpD := fun d k G Q _ => match dLook G d k with
  | some (some x) => Q x G
  | _ => False
def opDIn : OpD := fun k d G Q _ => match dLook G d k with
  | some o => Q (.bl o.isSome) G
  | none => False
def opDNotIn : OpD := fun k d G Q _ => match dLook G d k with
  | some o => Q (.bl (!o.isSome)) G
  | none => False
theorem up_dget (g : Good I F X) {o i : Expr} {od id : DE} {pos : Pos} (hn : notSlice i = true) (ho : PE X o (up F X od)) (hi : PE X i (up F X id)) : PE X (.Subscript o i pos) (up F X (dBin opDGet od id)) := by
  have hu : X.A.units + 1 < cLine := hu1 g
  refine PE_imp (pe_dget hu ho hi (plainIx hn)) fun σ H Q ⟨ρ, G, Q', E, s, r, q, k, x⟩ => ⟨ρ, G, _, E, s, r, q, fun d G1 v H1 e1 r1 i1 q1 => ⟨ρ, G1, _, E, s.ext e1, r1, q1, fun d2 G2 v2 H2 e2 r2 i2 q2 => ?_, x.ext e1⟩, x⟩
  have q2 : (match dLook G2 d d2 with | some (some x) => Q' x G2 | _ => False) := q2
  cases el : dLook G2 d d2 with
  | none => rw [el] at q2; exact q2.elim
  | some o =>
    rw [el] at q2
    cases o with
    | none => exact q2.elim
    | some z =>
      obtain ⟨a, w, ex, _, hg, h⟩ := dLook_ok r2 (Is.ext e2 d v i1) i2 el
      rcases h with ⟨h, _⟩ | ⟨z', v', h1, h2, h3⟩
      · cases h
      · cases h1
        subst h2
        exact ⟨a, v', ex, hg, k z G2 v' H2 (e1.trans e2) r2 h3 q2⟩
theorem up_din_core {neg : Bool} {i o : Expr} {id od : DE} : ∀ σ H Q, up F X (dBin (if neg then opDNotIn else opDIn) id od) σ H Q → (if neg then tDNotIn (up F X id) (up F X od) else tDIn (up F X id) (up F X od)) σ H Q := by
  intro σ H Q ⟨ρ, G, Q', E, s, r, q, k, x⟩
  cases neg with
  | false =>
    refine ⟨ρ, G, _, E, s, r, q, fun d G1 v H1 e1 r1 i1 q1 => ⟨ρ, G1, _, E, s.ext e1, r1, q1, fun d2 G2 v2 H2 e2 r2 i2 q2 => ?_, x.ext e1⟩, x⟩
    have q2 : (match dLook G2 d2 d with | some o => Q' (.bl o.isSome) G2 | none => False) := q2
    cases el : dLook G2 d2 d with
    | none => rw [el] at q2; exact q2.elim
    | some o =>
      rw [el] at q2
      obtain ⟨a, w, ex, _, hg, h⟩ := dLook_ok r2 i2 (Is.ext e2 d v i1) el
      refine ⟨a, w, ex, hg, ?_⟩
      have es : w.isSome = o.isSome := by
        rcases h with ⟨h1, h2⟩ | ⟨z', v', h1, h2, h3⟩
        · rw [h1, h2] <;> rfl
        · rw [h1, h2] <;> rfl
      rw [es]
      exact k _ G2 _ H2 (e1.trans e2) r2 (is_bl.mpr rfl) q2
  | true =>
    refine ⟨ρ, G, _, E, s, r, q, fun d G1 v H1 e1 r1 i1 q1 => ⟨ρ, G1, _, E, s.ext e1, r1, q1, fun d2 G2 v2 H2 e2 r2 i2 q2 => ?_, x.ext e1⟩, x⟩
    have q2 : (match dLook G2 d2 d with | some o => Q' (.bl (!o.isSome)) G2 | none => False) := q2
    cases el : dLook G2 d2 d with
    | none => rw [el] at q2; exact q2.elim
    | some o =>
      rw [el] at q2
      obtain ⟨a, w, ex, _, hg, h⟩ := dLook_ok r2 i2 (Is.ext e2 d v i1) el
      refine ⟨a, w, ex, hg, ?_⟩
      have es : w.isSome = o.isSome := by
        rcases h with ⟨h1, h2⟩ | ⟨z', v', h1, h2, h3⟩
        · rw [h1, h2] <;> rfl
        · rw [h1, h2] <;> rfl
      rw [es]
      exact k _ G2 _ H2 (e1.trans e2) r2 (is_bl.mpr rfl) q2
def notSet : Expr → Bool
  | .Set _ _ _ => false
  | _ => true
theorem mark_no {b : Expr} {op : CmpOp} (h : notSet b = true) : behindInMarks op b = false := by
  cases b <;> first | rfl | cases h
theorem pc_up_din (g : Good I F X) {i o : Expr} {id od : DE} (hi : PE X i (up F X id)) (ho : PE X o (up F X od)) : PC X .In i o (up F X (dBin opDIn id od)) :=
  ⟨fun pins s σ H Q Iv q => (pc_din (hu1 g) hi ho).run pins s σ H Q Iv (up_din_core (neg := false) (i := i) (o := o) σ H Q q)⟩
theorem pc_up_dnotin (g : Good I F X) {i o : Expr} {id od : DE} (hi : PE X i (up F X id)) (ho : PE X o (up F X od)) : PC X .NotIn i o (up F X (dBin opDNotIn id od)) :=
  ⟨fun pins s σ H Q Iv q => (pc_dnotin (hu1 g) hi ho).run pins s σ H Q Iv (up_din_core (neg := true) (i := i) (o := o) σ H Q q)⟩
theorem upT_pc {op : CmpOp} {a b : Expr} {t : DE} {pos : Pos} (h : PC X op a b (up F X t)) (hm : behindInMarks op b = false) : PT X (.Compare a [op] [b] pos) (upT F X (dTst t)) :=
  PT_imp (pt_cmp h hm) fun σ H Q ⟨ρ, G, Q', E, s, r0, q, k, x⟩ => ⟨ρ, G, _, E, s, r0, q, fun d G1 v H1 e1 r1 i1 q1 => by
    obtain ⟨b, e2, _, q2⟩ := dBool_ok i1 q1
    exact ⟨b, e2, k b G1 H1 e1 r1 q2⟩, x⟩
/-- d[k] = v -/
def rSetD : TSet := fun o i v H Q => ∃ a H', o = .ref a ∧ DPut H a i v H' ∧ Q H'
theorem set_dict (hu : X.A.units + 1 < cLine) : PSet X rSetD := by
  intro pins s σ H o i v ov iv u Q Iv ro ri rv ⟨a, H', eo, hp, q⟩
  subst eo
  cases ro
  exact d_setItem hu Iv hp ri rv fun s' I' => ⟨H', I', q⟩
def opSetD : OpS := fun d k v G P => match d with
  | .ref a => (match G a with
    | some (.dK kvs) => (match keyD k with
      | some kk => kvs.length < 100000 ∧ P (gup G a (.dK (putDk kvs kk v)))
      | none => False)
    | some (.dT kvs) => (match keysD k with
      | some kk => kvs.length < 100000 ∧ P (gup G a (.dT (putDk kvs kk v)))
      | none => False)
    | _ => False)
  | _ => False
theorem rs_dict : RSet F X rSetD opSetD := by
  intro σ H G x y v dx dy dv P' Q r ix iy iv q k
  unfold opSetD at q
  cases dx with
  | ref a =>
    rw [is_ref.mp ix]
    cases eG : G a with
    | none => simp only [eG] at q
    | some g =>
      cases g with
      | dK kvs =>
        simp only [eG] at q
        cases ek : keyD dy with
        | none => simp only [ek] at q
        | some kk =>
          simp only [ek] at q
          obtain ⟨ys, h1, h2⟩ := r.obj a _ eG
          rw [keyD_ok iy ek]
          have n1 : ¬ Stay (.dK ys) := fun z => z
          have e1 := Ext.upd (o := .dK (putK ys kk v)) h1 n1
          refine ⟨a, _, rfl, DPut.k h1 (by rw [h2.length]; exact Nat.lt_of_lt_of_le q.1 (by decide)), k _ _ e1 ?_ q.2⟩
          exact r.set (w := .dK (putDk kvs kk dv)) h1 n1 (fun ps z => by cases z) ⟨_, upd_same, (h2.put iv).ext e1⟩
      | dT kvs =>
        simp only [eG] at q
        cases ek : keysD dy with
        | none => simp only [ek] at q
        | some kk =>
          simp only [ek] at q
          obtain ⟨ys, h1, h2⟩ := r.obj a _ eG
          obtain ⟨b, rfl, hb⟩ := keysD_ok iy ek
          have n1 : ¬ Stay (.dT ys) := fun z => z
          have e1 := Ext.upd (o := .dT (putK ys kk v)) h1 n1
          refine ⟨a, _, rfl, DPut.t h1 hb (by rw [h2.length]; exact Nat.lt_of_lt_of_le q.1 (by decide)), k _ _ e1 ?_ q.2⟩
          exact r.set (w := .dT (putDk kvs kk dv)) h1 n1 (fun ps z => by cases z) ⟨_, upd_same, (h2.put iv).ext e1⟩
      | _ => simp only [eG] at q
  | _ => exact q.elim
/-- {} -/
def dNewK : DE := fun _ G Q _ => dNew G (.dK []) Q
def dNewT : DE := fun _ G Q _ => dNew G (.dT []) Q
theorem up_newK {pos : Pos} : PE X (.Dict [] [] pos) (up F X dNewK) := PE_imp pe_dnewK fun σ H Q ⟨ρ, G, Q', E, s, r, q, k, x⟩ => fun p hp =>
  k (.ref p) _ _ _ (Ext.new hp) (r.new (u := .dK []) hp ⟨[], upd_same, rfl⟩) (is_ref.mpr rfl) (q p (r.fresh hp))
theorem up_newT {pos : Pos} : PE X (.Dict [] [] pos) (up F X dNewT) := PE_imp pe_dnewT fun σ H Q ⟨ρ, G, Q', E, s, r, q, k, x⟩ => fun p hp =>
  k (.ref p) _ _ _ (Ext.new hp) (r.new (u := .dT []) hp ⟨[], upd_same, rfl⟩) (is_ref.mpr rfl) (q p (r.fresh hp))
/-- d.get(k), d.get(k, x) -/
def isDictD (G : GS) (d : D) : Prop := match d with
  | .ref a => (match G a with
    | some (.dK _) => True
    | some (.dT _) => True
    | _ => False)
  | _ => False
theorem isDictD_ok {Γ : Gm} {K : PySem.W.Frag} {mg : Str → Option Value} {own : Own} {G : GS} {H : Hp} {x : V} {d : D} (r : HRep Γ K mg own G H) (ix : Is K H x d) (t : isDictD G d) : ∃ a, x = .ref a ∧ d = .ref a ∧ IsD H a := by
  unfold isDictD at t
  cases d with
  | ref a =>
    cases eG : G a with
    | none => simp only [eG] at t
    | some g =>
      cases g with
      | dK kvs =>
        obtain ⟨ys, h1, _⟩ := r.obj a _ eG
        exact ⟨a, is_ref.mp ix, rfl, .inl ⟨ys, .inl h1⟩⟩
      | dT kvs =>
        obtain ⟨ys, h1, _⟩ := r.obj a _ eG
        exact ⟨a, is_ref.mp ix, rfl, .inr ⟨ys, .inl h1⟩⟩
      | _ => simp only [eG] at t
  | _ => exact t.elim
def dGet2 (o i y : DE) : DE := fun ρ G Q E => o ρ G (fun d G1 => isDictD G1 d ∧ i ρ G1 (fun k G2 => y ρ G2 (fun z G3 => match dLook G3 d k with
  | some w => Q (w.getD z) G3
  | none => False) E) E) E
theorem up_dget2 (g : Good I F X) {o i y : Expr} {od id yd : DE} {apos pos : Pos} (hb : plainBase o = true) (hl : (apos.endLine == pos.line) = true) (hs : notStar i = true) (hs2 : notStar y = true) (ho : PE X o (up F X od)) (hi : PE X i (up F X id)) (hy : PE X y (up F X yd)) :
    PE X (.Call (.Attribute o "get" apos) [i, y] [] pos) (up F X (dGet2 od id yd)) := by
  have m : M2 X o "get" apos i y pos := ⟨base_plain hb, few_ok (by simp [hs, hs2]) (by simp), hl, by rw [star_cons hs, star_cons hs2]; rfl⟩
  refine PE_imp (pe_dget2 (hu1 g) ho hi hy m) fun σ H Q ⟨ρ, G, Q', E, s, r, q, k, x⟩ => ⟨ρ, G, _, E, s, r, q, fun d G1 v H1 e1 r1 i1 q1 => ?_, x⟩
  obtain ⟨a, ev, _, hd⟩ := isDictD_ok r1 i1 q1.1
  refine ⟨a, ev, hd, ρ, G1, _, E, s.ext e1, r1, q1.2, fun d2 G2 v2 H2 e2 r2 i2 q2 => ⟨ρ, G2, _, E, s.ext (e1.trans e2), r2, q2, fun d3 G3 v3 H3 e3 r3 i3 q3 => ?_, x.ext (e1.trans e2)⟩, x.ext e1⟩
  have ee := (e1.trans e2).trans e3
  cases el : dLook G3 d d2 with
  | none => simp only [el] at q3
  | some o =>
    simp only [el] at q3
    obtain ⟨a', w, ex, _, hg, h⟩ := dLook_ok r3 (Is.ext (e2.trans e3) d v i1) (Is.ext e3 d2 v2 i2) el
    rw [ev] at ex
    cases ex
    refine ⟨w, hg, ?_⟩
    rcases h with ⟨h1, h2⟩ | ⟨z', v', h1, h2, h3⟩
    · rw [h1] at q3
      rw [h2]
      exact k d3 G3 v3 H3 ee r3 i3 q3
    · rw [h1] at q3
      rw [h2]
      exact k z' G3 v' H3 ee r3 h3 q3

/-! ### raise -/
/-- an own error class over ValueError without a making of its own -/
structure ExFact (K : PySem.W.Frag) (mg : Str → Option Value) (x : Str) : Prop where
  h : ∃ C, mg x = some (.ref C) ∧ PySem.W.excIn K C He.veBase "ValueError.__new__" = true ∧ PySem.W.keepIn K (.ref C) = true ∧ PySem.W.subIn K (.ref C) (.type "BaseException") = some true ∧ PySem.W.typeIn K (.ref C) = some (.type "type")
def sRaise (x : Str) : DS := fun _ E _ G => E x [] G
theorem ups_raise (g : Good I F X) (hcm : I.calm = true) {x m : Str} {j : Nat} {p p2 pos pos' : Pos} (hf : ExFact X.K X.mg x) (hg : I.sc.names.lookup x = some .globalImplicit) (hdb : (x == ("__debug__" : Str)) = false) :
    PS X (.Raise (some (.Call (.Name x p) [.Constant (.str m) j p2] [] pos)) none pos') (upS F X (sRaise x)) := by
  obtain ⟨C, h1, h2, h3, h4, h5⟩ := hf.h
  refine PS_imp (ps_raise (g.calm hcm) g.takes (pmk_own PySem.F.excBase_ValueError h2 h1 h3 (raises_own h4 h5) (gl_of g hg) hdb)) fun D σ H ⟨ρ, G, D', E, s, r, q, k, x⟩ => ?_
  exact x _ _ G _ _ σ H (Ext.refl H) r ⟨h1, ⟨C, rfl⟩, .inl ⟨rfl, rfl⟩⟩ q

/-! ### try -/
/-- x catches what is raised of the classes cs (told), else not -/
structure CtFact (K : PySem.W.Frag) (mg : Str → Option Value) (x : Str) (cs : List (Str × Bool)) : Prop where
  h : ∃ C, mg x = some (.ref C) ∧ ∀ c b, (c, b) ∈ cs → ∀ D, mg c = some (.ref D) → PySem.W.exmOne K (.ref D) (.ref C) = some b
/-- a suite: return, or return a text -/
inductive Su where
  | retN
  | retS (z : Str)
def Su.den (u : Su) : DK → GS → Prop := fun Q G => match u with
  | .retN => Q .non G
  | .retS z => Q (.str z) G
def catchD : List (Str × List (Str × Bool) × Su) → DK → XD → XD
  | [], _, E, cn, p, G => E cn p G
  | (_, cs, u) :: r, Q, E, cn, p, G => (match cs.lookup cn with
    | some true => u.den Q G
    | some false => catchD r Q E cn p G
    | none => False)
def sTry (hs : List (Str × List (Str × Bool) × Su)) (b : DS) : DS := fun D E ρ G => b D (catchD hs D.rt E) ρ G
end
end GL
set_option Elab.async false
set_option linter.all false
set_option maxRecDepth 100000
set_option maxHeartbeats 2000000
/-! GC: lambdas made and called. -/
namespace GL
open PySem PySem.Spec PyProof.Rows L2

/-! ### parameters of a lambda: none, one, one with the default 0 -/
inductive ArgK where
  | z
  | o (x : Str)
  | d (x : Str)
def argK : Arguments → Option ArgK
  | ⟨[], [], none, [], [], none, []⟩ => some .z
  | ⟨[], [⟨x, none, _⟩], none, [], [], none, []⟩ => some (.o x)
  | ⟨[], [⟨x, none, _⟩], none, [], [], none, [.Constant (.int n) _ _]⟩ => if n = 0 then some (.d x) else none
  | _ => none
def ArgK.ar : ArgK → Nat
  | .o _ => 1
  | _ => 0
def ArgK.ps : ArgK → List Str
  | .z => []
  | .o x => [x]
  | .d x => [x]
theorem bind_z {l : LamD} {cl : List (Str × Addr)} {doc pm ct : Value} {c' : Addr} {fd : FuncData} (h : argK l.params = some .z) (e : fd.params = l.params) (e2 : fd.defaults = .none) : bindArgs fd ⟨[], []⟩ = pure [] := by
  obtain ⟨q, p, b, sc, fr⟩ := l
  simp only at h e
  unfold argK at h
  split at h <;> first | cases h | skip
  · unfold bindArgs
    rw [e, e2]
    rfl
  · split at h <;> cases h
theorem bind_o {l : LamD} {x : Str} {u : Value} {fd : FuncData} (h : argK l.params = some (.o x)) (e : fd.params = l.params) (e2 : fd.defaults = .none) : bindArgs fd ⟨[u], []⟩ = pure [(x, u)] := by
  obtain ⟨q, p, b, sc, fr⟩ := l
  simp only at h e
  unfold argK at h
  split at h <;> first | cases h | skip
  · unfold bindArgs
    rw [e, e2]
    have hx : (x == x) = true := by simp
    simp [seqItems?, List.lookup, hx]
    rfl
  · split at h <;> cases h
theorem bind_d {l : LamD} {x : Str} {u : Value} {t : Addr} {fd : FuncData} (h : argK l.params = some (.d x)) (e : fd.params = l.params) (e2 : fd.defaults = .ref t) : ∃ k, bindArgs fd ⟨[], []⟩ = seqItems? fd.defaults >>= k ∧ k (some #[u]) = pure [(x, u)] := by
  obtain ⟨q, p, b, sc, fr⟩ := l
  simp only at h e
  unfold argK at h
  split at h <;> first | cases h | skip
  · split at h
    · cases h
      have hx : (x == x) = true := by simp
      unfold bindArgs
      rw [e]
      exact ⟨_, rfl, by simp [List.lookup, hx]⟩
    · cases h
theorem argK_dv {p : Arguments} {k : ArgK} (h : argK p = some k) : p.kw_defaults = [] ∧ ((∃ j q, p.defaults = [Expr.Constant (.int 0) j q]) ∨ p.defaults = []) := by
  unfold argK at h
  split at h
  · exact ⟨rfl, .inr rfl⟩
  · exact ⟨rfl, .inr rfl⟩
  · rename_i x _ n j q
    by_cases hn : n = 0
    · subst hn
      exact ⟨rfl, .inl ⟨j, q, rfl⟩⟩
    · rw [if_neg hn] at h
      cases h
  · cases h

def ArgK.dk : ArgK → Arguments → Prop
  | .d _, p => p.defaults ≠ []
  | .z, p => p.defaults = []
  | .o _, p => p.defaults = []
theorem argK_dk {p : Arguments} {k : ArgK} (h : argK p = some k) : k.dk p := by
  unfold argK at h
  split at h
  · injection h with h; subst h; rfl
  · injection h with h; subst h; rfl
  · rename_i x _ n j q
    have h : (if n = 0 then some (ArgK.d x) else none) = some k := h
    by_cases hn : n = 0
    · rw [if_pos hn] at h
      injection h with h
      subst h
      exact fun z => by cases z
    · rw [if_neg hn] at h
      cases h
  · cases h
theorem isL_of {K : PySem.W.Frag} {H : Hp} : ∀ {vs : List V} {ds : List D}, vs.length = ds.length → (∀ (j : Nat) (v : V) (d : D), vs[j]? = some v → ds[j]? = some d → Is K H v d) → IsL K H vs ds
  | [], [], _, _ => isL_nil.mpr rfl
  | [], _ :: _, h, _ => by cases h
  | _ :: _, [], h, _ => by cases h
  | v :: vs, d :: ds, h, k => isL_cons.mpr ⟨v, vs, rfl, k 0 v d rfl rfl, isL_of (by simpa using h) fun j v' d' e1 e2 => k (j + 1) v' d' (by simpa using e1) (by simpa using e2)⟩
theorem srep_map {K : PySem.W.Frag} {H : Hp} {vs : List V} {ds : List D} {n : Nat} (h : IsL K H vs ds) : SRep K H (vs.map some ++ List.replicate n none) (ds.map some ++ List.replicate n none) := by
  have hl := h.length
  refine ⟨by simp [hl], fun i d e => ?_⟩
  by_cases hi : i < ds.length
  · rw [List.getElem?_append_left (by simpa using hi), List.getElem?_map] at e
    rw [List.getElem?_append_left (by simp; omega), List.getElem?_map]
    cases q : ds[i]? with
    | none => rw [q] at e; cases e
    | some d' =>
      rw [q] at e
      cases e
      obtain ⟨v, h1, h2⟩ := h.get q
      exact ⟨v, by rw [h1]; rfl, h2⟩
  · rw [List.getElem?_append_right (by simp; omega), List.getElem?_replicate] at e
    split at e <;> cases e

/-! ### a lambda made -/
section
variable {I : Inf} {F : Fx} {X : Cx}
theorem HRep.extN {Γ : Gm} {K : PySem.W.Frag} {mg : Str → Option Value} {own : Own} {G : GS} {H H' : Hp} (r : HRep Γ K mg own G H) (e : LamX.ExtN H H') (t : LamX.Tabs Γ.T H') : HRep Γ K mg own G H' := by
  have ee : Ext H H' := fun b o s h => e b o h fun ps z => by rw [z] at s; exact s
  refine ⟨fun a o q => (r.obj a o q).keep ee fun u hu => e a u hu fun ps z => ?_, t, cst_ext ee r.cst, r.old.trans ee⟩
  subst z
  have q := r.obj a o q
  cases o with
  | lst ds => obtain ⟨xs, q, _⟩ := q; rw [hu] at q; cases q
  | rol ds =>
    obtain ⟨xs, q | ⟨o, q⟩, _⟩ := q
    · rw [hu] at q; cases q
    · rw [hu] at q; cases q
  | dK kvs => obtain ⟨xs, q, _⟩ := q; rw [hu] at q; cases q
  | dT kvs => obtain ⟨xs, q, _⟩ := q; rw [hu] at q; cases q
  | ins cn fs => obtain ⟨C, dx, ys, _, q, _⟩ := q; rw [hu] at q; cases q
  | clo k ds => obtain ⟨l, _, ⟨⟨cl, dV, c', doc, pm, ctv, q, _⟩, _⟩⟩ := q; rw [hu] at q; cases q
  | oth k ds => exact q.elim
theorem lam_mk {pins : List (Addr × Obj)} {σ : L2.St} {H : Hp} {s : Shared} {T : List (Addr × Str)} {c P : Addr} {l : LamD} {dV : Value} {pos : Pos} {E : Value → Shared → Prop} {Q : Value → Shared → Prop} (Iv : Inv X pins σ H s) (TB : LamX.TabB X.base X.mg c P) (hcode : X.env.code = .ref c)
    (hm : (P, l.qual) ∈ T) (hu : ∀ p ∈ T, p.1 = P → p.2 = l.qual) (hT : LamX.Tabs T H) (hfree : ∀ y ∈ l.scope.names, y.2 = .free → ∃ c, X.env.cells.lookup y.1 = some c)
    (h : ∀ (f c' : Addr) (doc pm ctv : Value) (H1 : Hp) (s' : Shared), Inv X pins σ (upd H1 f (.frz (lamObj l (cloFrom X.env.cells l.scope.names []) dV doc pm c' ctv) (.own 0))) s' → LamX.ExtN H H1 → LamX.Tabs T H1 →
      H1 f = none → H1 c' = some (LamX.CodeO c' l.qual) → Q (.ref f) s') :
    wpAny (model X.prog X.w) X.A (makeTail "<lambda>" l.qual l.params (.expr l.body) l.scope X.env dV .none none pos pos.line) Q E s := by
  obtain ⟨ps, hP, ht, ha⟩ := hT _ hm
  have bP : s.heap.BuiltinsAt X.mg P := TB.bm.keeps Iv.bk
  have hP' : s.heap.get? P = some { cls := .none, data := .fields ps } := Iv.hok P _ hP
  have fin : ∀ {h' : Heap} {tk : Tok} {H1 : Hp} {c' : Addr} {doc ctv : Value}, Inv X pins σ H1 { s with heap := h', toks := tk } → LamX.ExtN H H1 → LamX.Tabs T H1 → H1 c' = some (LamX.CodeO c' l.qual) →
      Q (.ref h'.objs.size) { s with heap := h'.push (lamObj l (cloFrom X.env.cells l.scope.names []) dV doc ((X.mg "__name__").getD .none) c' ctv), toks := tk } := by
    intro h' tk H1 c' doc ctv I1 eN T1 hc'
    have hf : H1 h'.objs.size = none := I1.hok.fresh (Nat.le_refl _)
    exact h h'.objs.size c' doc _ ctv H1 _ (I1.laid (t' := tk) (fun b u e => Heap.get?_push_of_some _ e) (Nat.le_refl _) ⟨Heap.get?_push_size _ rfl, _, Heap.get?_push_size _ rfl⟩) eN T1 hf hc'
  cases hc : codeAmong pos ps.toList with
  | none =>
    refine PySem.W.kdv_makeTail (mg := X.mg) (c := c) (P := P) (ps := ps) (closure_ok hfree) Iv.ok.glob (Iv.mod.glob.keeps Iv.bk) hcode (TB.code.keeps Iv.bk) hP' ht hc TB.gP bP fun c' ctv doc h' tk hx hge hlt hrec htb => ?_
    obtain ⟨c2, oc, vs, t, e2, hoc, hd, hv⟩ := hrec
    cases e2
    have nC : H c' = none := Iv.hok.fresh hge
    have I1 := LamX.inv_table (t' := tk) (more := #[rawInt pos.line, rawInt pos.col, .ref c']) (h' := h') Iv hP (fun b o hb e => hx b o hb e) htb hge ⟨oc, vs, t, hoc, hd, hv⟩
    have hE : LamX.ExtN H (upd (upd H P (.tbl (ps ++ #[rawInt pos.line, rawInt pos.col, .ref c']))) c' (LamX.CodeO c' l.qual)) := fun b o e n => by
      rw [upd_ne (ne_of_none e nC), upd_ne (fun z => n ps (Option.some.inj (e.symm.trans (by rw [z]; exact hP))))]
      exact e
    have eL : (ps ++ #[rawInt pos.line, rawInt pos.col, .ref c']).toList = ps.toList ++ [rawInt pos.line, rawInt pos.col, .ref c'] := by simp
    refine fin (c' := c') I1 hE (fun p hp => ?_) upd_same
    by_cases hb : p.1 = P
    · rw [hu p hp hb, hb]
      refine ⟨_, by rw [upd_ne (ne_of_none hP nC), upd_same], by rw [eL]; exact PySem.TriplesOk_snoc _ _ _ _ ht, fun p' cv hcv => ?_⟩
      rw [eL] at hcv
      rcases LamX.among_app _ ht hcv with z | z
      · obtain ⟨c0, e1, e2⟩ := ha p' cv z
        exact ⟨c0, e1, hE _ _ e2 LamX.codeO_ne⟩
      · exact ⟨c', z, upd_same⟩
    · obtain ⟨ps', a1, a2, a3⟩ := hT p hp
      refine ⟨ps', by rw [upd_ne (ne_of_none a1 nC), upd_ne hb]; exact a1, a2, fun p' cv hcv => ?_⟩
      obtain ⟨c0, e1, e2⟩ := a3 p' cv hcv
      exact ⟨c0, e1, hE _ _ e2 LamX.codeO_ne⟩
  | some cv =>
    obtain ⟨c', e, hco⟩ := ha pos cv hc
    subst e
    refine PySem.W.kdv_makeTailHit (mg := X.mg) (c := c) (P := P) (ps := ps) (closure_ok hfree) Iv.ok.glob (Iv.mod.glob.keeps Iv.bk) hcode (TB.code.keeps Iv.bk) hP' ht hc bP fun ctv doc h' tk hx hsz => ?_
    have I1 : Inv X pins σ H { s with heap := h', toks := tk } := Iv.kept fun b o e => hx b o e
    exact fin (c' := c') I1 (fun b o e _ => e) hT hco
/-- what is asked of a lambda in its frame; is: the slots of what it captures -/
structure LamFact (I : Inf) (Γ : Gm) (k : Nat) (l : LamD) (is : List Nat) : Prop where
  lam : Γ.lam k = some l
  qual : l.qual = I.qual ++ "<lambda>"
  ix : is.map (fun i => I.N[i]?) = l.free.map some
  nm : ∀ y ∈ l.scope.names, y.2 = .free → y.1 ∈ l.free
  fr : ∀ y ∈ l.free, (y, NameKind.free) ∈ l.scope.names ∧ (I.sc.names.lookup y = some .cell ∨ I.sc.names.lookup y = some .free)
def rhoGet (ρ : Rho) : List Nat → Option (List D)
  | [] => some []
  | i :: is => (match ρ[i]? with
    | some (some d) => (rhoGet ρ is).map fun r => d :: r
    | _ => none)
theorem rhoGet_ix {ρ : Rho} : ∀ {is : List Nat} {ds : List D}, rhoGet ρ is = some ds → ds.length = is.length ∧ ∀ (j : Nat) (d : D), ds[j]? = some d → ∃ i, is[j]? = some i ∧ ρ[i]? = some (some d)
  | [], ds, h => by
    cases h
    exact ⟨rfl, fun j d e => by simp at e⟩
  | i :: is, ds, h => by
    unfold rhoGet at h
    split at h
    · rename_i d e
      cases q : rhoGet ρ is with
      | none => rw [q] at h; cases h
      | some r =>
        rw [q] at h
        cases h
        obtain ⟨h1, h2⟩ := rhoGet_ix q
        refine ⟨by simp [h1], fun j d' e' => ?_⟩
        cases j with
        | zero =>
          simp at e'
          subst e'
          exact ⟨i, rfl, e⟩
        | succ j => exact h2 j d' (by simpa using e')
    · cases h
def dLam (k : Nat) (is : List Nat) : DE := fun ρ G Q _ => match rhoGet ρ is with
  | some ds => dNew G (.clo k ds) Q
  | none => False
theorem clo_mem {cells : List (Str × Addr)} {names : List (Str × NameKind)} (hfree : ∀ y ∈ names, y.2 = .free → ∃ c, cells.lookup y.1 = some c) {y : Str} {c : Addr} (e : (cloFrom cells names []).lookup y = some c) : (y, NameKind.free) ∈ names ∧ cells.lookup y = some c := by
  rcases cloFrom_mem (PySem.mem_of_lookup e) with hm | ⟨h1, h2⟩
  · cases hm
  · obtain ⟨c1, hc⟩ := hfree _ h1 rfl
    refine ⟨h1, ?_⟩
    have hc : cells.lookup y = some c1 := hc
    rw [hc]
    rw [hc] at h2
    exact congrArg some h2.symm
theorem lam_done {pins : List (Addr × Obj)} {σ : L2.St} {H : Hp} {s : Shared} {k : Nat} {l : LamD} {is : List Nat} {ρ : Rho} {G : GS} {Q' : DK} {Q : VK} {dV : Value} {pos : Pos} {E : Value → Shared → Prop} {ds : List D} (g : Good I F X) (hl : I.lam = true) (hk : I.mkl = true) (lf : LamFact I F.Γ k l is)
    (Iv : Inv X pins σ H s) (sr : SRep X.K H σ ρ) (r : HR F X σ G H) (hd : (dV = .none ∧ l.params.defaults = []) ∨ ∃ t, dV = .ref t ∧ H t = some (.tup [.int 0]) ∧ l.params.defaults ≠ []) (e : rhoGet ρ is = some ds) (q : dNew G (.clo k ds) Q') (kk : KOk F X σ H Q' Q) :
    wpAny (model X.prog X.w) X.A (makeTail "<lambda>" l.qual l.params (.expr l.body) l.scope X.env dV .none none pos pos.line) (EP X pins σ Q) E s := by
  obtain ⟨c, P, TB, hcode, hm, hu⟩ := g.tab hk
  have eq : X.env.qual ++ "<lambda>" = l.qual := by rw [g.qual hk, lf.qual]
  have fk : ∀ y ∈ l.free, X.env.scope.names.lookup y = some .cell ∨ X.env.scope.names.lookup y = some .free := fun y hy => by
    rw [g.sc]
    exact (lf.fr y hy).2
  have hfree : ∀ y ∈ l.scope.names, y.2 = .free → ∃ c, X.env.cells.lookup y.1 = some c := fun y hy e => Iv.ok.has _ (fk _ (lf.nm y hy e))
  refine lam_mk (T := F.Γ.T) Iv TB hcode (by rw [← eq]; exact hm) (by rw [← eq]; exact hu) r.tabs hfree fun f c' doc pm ctv H1 s' I1 eN T1 hf hc' => ?_
  obtain ⟨o, ho⟩ : ∃ o, o = lamObj l (cloFrom X.env.cells l.scope.names []) dV doc pm c' ctv := ⟨_, rfl⟩
  rw [← ho] at I1
  have r1 : HR F X σ G H1 := r.extN eN T1
  have e1 : Ext H H1 := fun b o s h => eN b o h fun ps z => by rw [z] at s; exact s
  have e2 : Ext H1 (upd H1 f (.frz o (.own 0))) := Ext.new hf
  obtain ⟨g1, g2⟩ := rhoGet_ix e
  have ho2 : F.own σ = ownOf X F.h0 σ := own_lam g hl σ
  refine ⟨.ref f, _, I1, rfl, kk (.ref f) (gup G f (.clo k ds)) _ _ (e1.trans e2) (r1.new (u := .clo k ds) hf ⟨l, lf.lam, ⟨⟨cloFrom X.env.cells l.scope.names [], dV, c', doc, pm, ctv, ?_, ?_, ?_, fun j y d h1 h2 => ?_, fun p hp => ?_, fun x y c h1 h2 => ?_⟩, ?_⟩⟩) (is_ref.mpr rfl) (q f (r1.fresh hf))⟩
  · rw [upd_same, ho]
  · rw [upd_ne (ne_of_none hc' hf)]
    exact hc'
  · rcases hd with z | ⟨t, z, z2, z3⟩
    · exact .inl z
    · exact .inr ⟨t, z, (e1.trans e2) _ _ trivial z2, z3⟩
  · obtain ⟨i, h3, h4⟩ := g2 j d h2
    have h5 : I.N[i]? = some y := by
      have z := congrArg (fun l => l[j]?) lf.ix
      simp only [List.getElem?_map, h3, h1, Option.map_some] at z
      exact Option.some.inj z
    obtain ⟨v, h6, h7⟩ := sr.2 i d h4
    have hy : y ∈ l.free := List.mem_of_getElem? h1
    obtain ⟨c, hc⟩ := Iv.ok.has y (fk y hy)
    refine ⟨c, ?_, .inl ⟨v, ?_, Is.ext (e1.trans e2) d v h7⟩⟩
    · have z := mem_lookup (cloFrom_has (cells := X.env.cells) (acc := []) (lf.fr y hy).1)
      obtain ⟨c2, z⟩ := z
      have z2 := (clo_mem hfree z).2
      rw [hc] at z2
      cases z2
      exact z
    · rw [ho2]
      exact ⟨y, i, hc, by rw [g.N]; exact h5, h6, fk y hy⟩
  · rcases cloFrom_mem (show (p.1, p.2) ∈ _ from hp) with hm | ⟨h1, _⟩
    · cases hm
    · exact lf.nm _ h1 rfl
  · exact Iv.ok.inj x y c (clo_mem hfree h1).2 (clo_mem hfree h2).2
  · rw [g1]
    have z := congrArg List.length lf.ix
    simpa using z
theorem up_lam (g : Good I F X) (hl : I.lam = true) (hk : I.mkl = true) {k : Nat} {l : LamD} {is : List Nat} (lf : LamFact I F.Γ k l is) {pos : Pos} {ak : ArgK} (ha : argK l.params = some ak) :
    PE X (.Lambda l.params l.body l.scope pos) (up F X (dLam k is)) := by
  refine ⟨fun pins s σ H Q Iv ⟨ρ, G, Q', E, sr, r, q, kk, x⟩ => ?_⟩
  have q : (match rhoGet ρ is with | some ds => dNew G (.clo k ds) Q' | none => False) := q
  have eq : X.env.qual ++ "<lambda>" = l.qual := by rw [g.qual hk, lf.qual]
  cases e : rhoGet ρ is with
  | none => rw [e] at q; exact q.elim
  | some ds =>
    rw [e] at q
    rw [arm_eval_Lambda, defaultsOf_eq]
    show wpAny _ X.A (do let dv ← evalAll (evalEach l.params.defaults X.env); let kdv ← holding dv (evalAllOpt (evalEachOpt l.params.kw_defaults X.env)); makeFunction "<lambda>" (X.env.qual ++ "<lambda>") l.params (.expr l.body) l.scope X.env dv kdv [] pos pos.line) _ _ s
    rw [eq]
    obtain ⟨d1, d2⟩ := argK_dv ha
    rw [d1]
    rcases d2 with ⟨j, p, d3⟩ | d3
    · rw [d3]
      refine wpAny_bind (PySem.W.kdv_all1 (thn ((pe_int (X := X) (i := 0) (j := j) (pos := p)).run pins s σ H (fun v H1 => v = .int 0 ∧ H1 = H) Iv ⟨rfl, rfl⟩) fun u s1 ⟨v, H1, I1, r1, ev, eH⟩ => PySem.W.kdv_all0 ?_))
      subst ev
      subst eH
      refine wpAny_bind (wpAny_holding (wpAny_pure ?_))
      rw [makeFunction_eq]
      simp only [List.zip_nil_right, List.filterMap_nil, List.isEmpty_nil, if_true, pure_bind, List.isEmpty_cons, Bool.false_eq_true, if_false]
      refine wpAny_bind (wpAny_newTextTuple ?_)
      have hf : H1 s1.heap.objs.size = none := I1.hok.fresh (Nat.le_refl _)
      have I2 := I1.laid (a := s1.heap.objs.size) (o := .tup [.int 0]) (t' := s1.toks) (h' := s1.heap.push { cls := .type "tuple", data := .seq [u].toArray }) (fun b w e => Heap.get?_push_of_some _ e) (Nat.le_refl _) ⟨by decide, [u], .cons r1 .nil, _, Heap.get?_push_size _ rfl, rfl, 0, rfl⟩
      exact lam_done g hl hk lf I2 (sr.ext (Ext.new hf)) (r.grow hf) (.inr ⟨_, rfl, upd_same, by rw [d3]; simp⟩) e q (kk.ext (Ext.new hf))
    · rw [d3]
      refine wpAny_bind (wpAny_pure (wpAny_bind (wpAny_holding (wpAny_pure ?_))))
      rw [makeFunction_eq]
      simp only [List.zip_nil_right, List.filterMap_nil, List.isEmpty_nil, if_true, pure_bind]
      exact lam_done g hl hk lf Iv sr r (.inl ⟨rfl, d3⟩) e q kk
end

/-! ### a lambda's promise -/
structure ClE where
  ar : Nat
  lev : Nat
  sp : List D → Spec
structure ClFact (P : Program) (w : World) (K : PySem.W.Frag) (mg : Str → Option Value) (base : Heap) (Γ : Gm) (k : Nat) (e : ClE) : Prop where
  run : ∀ (A : Around) (outer : List Env) (s : Shared) (H : Hp) (f : Addr) (cds : List D) (us : List Value) (vs : List V) (Q : VK) (E : XK), Room e.lev A → Env0 P w K mg base A outer s H → (∃ l, Γ.lam k = some l ∧ CloR K NoOwn H f l cds) → Vals vs us →
    lift Γ K mg e.ar (e.sp cds) vs H Q E → codeAny (model P w) A (.call (.ref f) ⟨us, []⟩) (CR (L2.CX P w) outer P w H s Q E) s
/-- the closure at d is called -/
def opClo (cs : Nat → Option ClE) (d : D) (ds : List D) (G : GS) (Q : DK) (E : XD) : Prop := match d with
  | .ref f => (match G f with
    | some (.clo k cds) => (match cs k with
      | some e => ds.length = e.ar ∧ e.sp cds ds G Q E
      | none => False)
    | _ => False)
  | _ => False
theorem clo_at {Γ : Gm} {K : PySem.W.Frag} {mg : Str → Option Value} {own : Own} {G : GS} {H : Hp} {f : Addr} {k : Nat} {cds : List D} (r : HRep Γ K mg own G H) (h : G f = some (.clo k cds)) : ∃ l, Γ.lam k = some l ∧ CloR K own H f l cds := r.obj f _ h
theorem clo_fn {K : PySem.W.Frag} {own : Own} {H : Hp} {P : Program} {w : World} {h : Heap} {f : Addr} {l : LamD} {cds : List D} (c : CloR K own H f l cds) (ok : HOk P w H h) : PySem.W.FnAt f h := by
  obtain ⟨cl, dV, c', doc, pm, ctv, h1, _⟩ := c.ex
  exact ⟨_, _, _, _, (ok f _ h1).1⟩
theorem run_clo {I : Inf} {F : Fx} {X : Cx} (hcm : I.calm = true) {cs : Nat → Option ClE} {f : Addr} {pins : List (Addr × Obj)} {σ : L2.St} {H : Hp} {s : Shared} {G : GS} {Q' : DK} {E : XD} {Q : VK} {us : List Value} {vs : List V} {ds : List D} (g : Good I F X)
    (hc : ∀ k e, cs k = some e → ClFact X.prog X.w X.K X.mg X.base F.Γ k e ∧ e.lev ≤ I.lev) (Iv : Inv X pins σ H s) (rv : Vals vs us) (r : HR F X σ G H) (i : IsL X.K H vs ds) (q : opClo cs (.ref f) ds G Q' E) (k : KOk F X σ H Q' Q) (x : EOk F X σ H E) :
    wpAny (model X.prog X.w) X.A (call (.ref f) us) (EP X pins σ Q) X.xe s := by
  unfold opClo at q
  simp only at q
  split at q
  · rename_i kk cds eG
    split at q
    · rename_i e ec
      obtain ⟨cf, lv⟩ := hc kk e ec
      have pre : CallPre F X σ e.ar (fun ds G Q E => G f = some (.clo kk cds) ∧ e.sp cds ds G Q E) vs H Q := ⟨ds, G, Q', E, q.1, i, r, ⟨eG, q.2⟩, k, x⟩
      have rc := fn_goR (f := f) (args := ⟨us, []⟩) (A := X.A) g (fun H Q E e0 l => by
        obtain ⟨ds, G, Q', E', hn, i, r, ⟨q0, q⟩, k, x⟩ := l
        exact cf.run X.A X.stack s H f cds us vs Q E ((g.room hcm).mono lv) e0 (clo_at r q0) rv ⟨ds, G, Q', E', hn, i, r, q, k, x⟩) Iv.env0 Iv pre
      refine wpAny_call (codeAny_mono rc fun r s' hq => ?_)
      cases r with
      | error e => exact passAt g.takes σ pins H s e s' Iv hq
      | ok fl =>
        cases fl with
        | ret u => exact Iv.after hq
        | next => exact False.elim hq
        | brk => exact False.elim hq
        | cont => exact False.elim hq
    · exact q.elim
  · exact q.elim
def isCloD (G : GS) : D → Prop
  | .ref f => (match G f with
    | some (.clo _ _) => True
    | _ => False)
  | _ => False
/-- x(..), x a name of the frame's own -/
def dClo (cs : Nat → Option ClE) (o : DE) (a : DA) : DE := fun ρ G Q E => o ρ G (fun d G1 => isCloD G1 d ∧ a ρ G1 (fun ds G2 => opClo cs d ds G2 Q E) E) E
theorem isCloD_ok {Γ : Gm} {K : PySem.W.Frag} {mg : Str → Option Value} {own : Own} {G : GS} {H : Hp} {v : V} {d : D} (r : HRep Γ K mg own G H) (i : Is K H v d) (t : isCloD G d) : ∃ f l cds, d = .ref f ∧ v = .ref f ∧ CloR K own H f l cds := by
  unfold isCloD at t
  split at t
  · rename_i f
    split at t
    · rename_i k cds e
      obtain ⟨l, _, c⟩ := clo_at r e
      exact ⟨f, l, cds, rfl, is_ref.mp i, c⟩
    · exact t.elim
  · exact t.elim
section
variable {I : Inf} {F : Fx} {X : Cx} {cs : Nat → Option ClE}
theorem up_clo0 (g : Good I F X) (hcm : I.calm = true) (hc : ∀ k e, cs k = some e → ClFact X.prog X.w X.K X.mg X.base F.Γ k e ∧ e.lev ≤ I.lev) {x : Str} {p1 p2 : Pos} {od : DE} (ho : PE X (.Name x p1) (up F X od)) : PE X (.Call (.Name x p1) [] [] p2) (up F X (dClo cs od aNil)) := by
  refine ⟨fun pins s σ H Q Iv ⟨ρ, G, Q', E, sr, r, q, k, xx⟩ => ?_⟩
  refine wpAny_Call_Name_kw (thn (ho.run pins s σ H (fun v H1 => ∃ d G1, HR F X σ G1 H1 ∧ Is X.K H1 v d ∧ isCloD G1 d ∧ opClo cs d [] G1 Q' E ∧ Ext H H1) Iv ⟨ρ, G, _, E, sr, r, q, fun d G1 v H1 e1 r1 i1 q1 => ⟨d, G1, r1, i1, q1.1, q1.2, e1⟩, xx⟩) fun u s1 ⟨v, H1, I1, ru, d, G1, r1, i1, t1, q1, e1⟩ => ?_)
  obtain ⟨f, l, cds, ed, ev, c⟩ := isCloD_ok r1 i1 t1
  subst ed
  subst ev
  obtain rfl : u = Value.ref f := ru
  refine PySem.W.callWith_F0 (first := []) (clo_fn c I1.hok) ?_
  exact run_clo hcm (us := []) (vs := []) (ds := []) g hc I1 .nil r1 (isL_nil.mpr rfl) q1 (k.ext e1) (xx.ext e1)
theorem up_clo (g : Good I F X) (hcm : I.calm = true) (hc : ∀ k e, cs k = some e → ClFact X.prog X.w X.K X.mg X.base F.Γ k e ∧ e.lev ≤ I.lev) {x : Str} {p1 p2 : Pos} {od : DE} {e0 : Expr} {es : List Expr} {a : DA} (hs : (e0 :: es).all notStar = true) (ho : PE X (.Name x p1) (up F X od)) (ha : PA X (e0 :: es) (upA F X a)) : PE X (.Call (.Name x p1) (e0 :: es) [] p2) (up F X (dClo cs od a)) := by
  refine ⟨fun pins s σ H Q Iv ⟨ρ, G, Q', E, sr, r, q, k, xx⟩ => ?_⟩
  refine wpAny_Call_Name_kw (thn (ho.run pins s σ H (fun v H1 => ∃ d G1, HR F X σ G1 H1 ∧ Is X.K H1 v d ∧ isCloD G1 d ∧ a ρ G1 (fun ds G2 => opClo cs d ds G2 Q' E) E ∧ Ext H H1) Iv ⟨ρ, G, _, E, sr, r, q, fun d G1 v H1 e1 r1 i1 q1 => ⟨d, G1, r1, i1, q1.1, q1.2, e1⟩, xx⟩) fun u s1 ⟨v, H1, I1, ru, d, G1, r1, i1, t1, q1, e1⟩ => ?_)
  obtain ⟨f, l, cds, ed, ev, c⟩ := isCloD_ok r1 i1 t1
  subst ed
  subst ev
  obtain rfl : u = Value.ref f := ru
  simp only [List.all_cons, Bool.and_eq_true] at hs
  have keepF : ∀ {H2 : Hp} {s2 : Shared}, Ext H1 H2 → HOk X.prog X.w H2 s2.heap → PySem.W.FnAt f s2.heap := fun e2 ok => clo_fn (c.ext e2) ok
  refine PySem.W.callWith_F (first := []) (clo_fn c I1.hok) (thn (ha.run p2 pins s1 σ H1 (fun vs H2 => ∃ ds G2, Ext H1 H2 ∧ HR F X σ G2 H2 ∧ IsL X.K H2 vs ds ∧ opClo cs (.ref f) ds G2 Q' E) I1
    ⟨ρ, G1, _, E, sr.ext e1, r1, q1, fun ds G2 vs H2 e2 r2 i2 q2 => ⟨ds, G2, e2, r2, i2, q2⟩, xx.ext e1⟩) fun us s2 ⟨vs, H2, I2, rv, ds, G2, e2, r2, i2, q2⟩ => ⟨keepF e2 I2.hok, ?_⟩) (star_cons hs.1) (star_any hs.2)
  exact run_clo hcm (us := us) (vs := vs) (ds := ds) g hc I2 rv r2 i2 q2 (k.ext (e1.trans e2)) (xx.ext (e1.trans e2))
end

/-! ### a lambda's promise by its body -/
theorem choose_list {p : Nat → V → Prop} : ∀ {n : Nat}, (∀ j, j < n → ∃ v, p j v) → ∃ l : List V, l.length = n ∧ ∀ j v, l[j]? = some v → p j v
  | 0, _ => ⟨[], rfl, fun j v e => by simp at e⟩
  | n + 1, h => by
    obtain ⟨l, h1, h2⟩ := choose_list (n := n) fun j hj => h j (Nat.lt_succ_of_lt hj)
    obtain ⟨v, hv⟩ := h n (Nat.lt_succ_self n)
    refine ⟨l ++ [v], by simp [h1], fun j w e => ?_⟩
    by_cases hj : j < n
    · rw [List.getElem?_append_left (by omega)] at e
      exact h2 j w e
    · have hl : j < (l ++ [v]).length := (List.getElem?_eq_some_iff.mp e).1
      simp only [List.length_append, List.length_singleton] at hl
      have : j = n := by omega
      subst this
      rw [List.getElem?_append_right (by omega), h1] at e
      simp at e
      subst e
      exact hv
def ArgK.vals (ak : ArgK) (ds : List D) : List D := match ak with
  | .d _ => [.int 0]
  | .o _ => ds
  | .z => []
/-- the slots at a lambda's start -/
def startL (N : List Str) (ak : ArgK) (ds cds : List D) : Rho := (ak.vals ds).map some ++ (cds.map some ++ List.replicate (N.length - (ak.vals ds).length - cds.length) none)
theorem startF_free {N ps fr : List Str} {sc : Scope} {vs : List V} {ws : List (Option V)} (S : NdefX.NScope N ps fr sc) (hl : vs.length = ps.length) (hw : ws.length = fr.length) {j : Nat} {y : Str} (h : fr[j]? = some y) : N[ps.length + j]? = some y ∧ (NdefX.startF N vs ws)[ps.length + j]? = ws[j]? := by
  have hj : j < fr.length := (List.getElem?_eq_some_iff.mp h).1
  constructor
  · have q : (N.take (ps.length + fr.length))[ps.length + j]? = some y := by
      rw [S.pre, List.getElem?_append_right (by omega)]
      simpa using h
    rw [List.getElem?_take_of_lt (by omega)] at q
    exact q
  · unfold NdefX.startF
    rw [List.getElem?_append_right (by simp; omega)]
    simp only [List.length_map, hl]
    rw [Nat.add_sub_cancel_left, List.getElem?_append_left (by omega)]
theorem nodup_ix {N : List Str} (nd : N.Nodup) {i j : Nat} {y : Str} (h : N[i]? = some y) (h2 : N[j]? = some y) : i = j := by
  obtain ⟨a, ha⟩ := List.getElem?_eq_some_iff.mp h
  obtain ⟨b, hb⟩ := List.getElem?_eq_some_iff.mp h2
  exact (List.getElem_inj nd).mp (ha.trans hb.symm)
section
variable {P : Program} {w : World} {K : PySem.W.Frag} {mg : Str → Option Value} {base : Heap} {Γ : Gm}
theorem clfact_of {k lev : Nat} {l : LamD} {N : List Str} {ak : ArgK} {sp : List D → Spec} {d : DE} {q0 : Str} (hlam : Γ.lam k = some l) (hak : argK l.params = some ak) (S : NdefX.NScope N ak.ps l.free l.scope)
    (body : ∀ F X, X.prog = P → X.w = w → X.K = K → X.mg = mg → X.base = base → F.Γ = Γ → Good { N := N, sc := l.scope, lev := lev, lp := false, blk := true, lam := true, qual := q0 } F X → PE X l.body (up F X d))
    (hd : ∀ cds ds G Q E, cds.length = l.free.length → ds.length = ak.ar → sp cds ds G Q E → d (startL N ak ds cds) G Q E) :
    ClFact P w K mg base Γ k ⟨ak.ar, lev + 1, sp⟩ := by
  refine ⟨fun A outer s H f cds us vs Q E hr e0 ⟨l', hl', c⟩ rv hL => ?_⟩
  rw [hlam] at hl'
  cases hl'
  obtain ⟨⟨cl, dV, c', doc, pm, ctv, h1, h2, h3, h4, h5, h6⟩, h7⟩ := c
  obtain ⟨ds, G, Q', E', hn, i, r0, q, kk, x⟩ := hL
  have lim : s.heap.NoLimit := e0.mod.nolimit.keeps fun b o e => (e0.bs b o e).1
  -- the cells
  have cf : ∀ j, j < l.free.length → ∃ v, ∃ y d a o u, l.free[j]? = some y ∧ cds[j]? = some d ∧ cl.lookup y = some a ∧ H a = some (.frz o (.own 0)) ∧ o.data = .cell (some u) ∧ RelV v u ∧ Is K H v d := fun j hj => by
    have e1 : l.free[j]? = some l.free[j] := List.getElem?_eq_getElem hj
    have e2 : cds[j]? = some (cds[j]'(by omega)) := List.getElem?_eq_getElem (by omega)
    obtain ⟨a, e3, e4⟩ := h4 j _ _ e1 e2
    rcases e4 with ⟨v, z, _⟩ | ⟨o, u, v, z1, z2, z3, z4⟩
    · exact z.elim
    · exact ⟨v, _, _, a, o, u, e1, e2, e3, z1, z2, z3, z4⟩
  obtain ⟨ws, w1, w2⟩ := choose_list cf
  obtain ⟨C, hC⟩ : ∃ C : Addr → Prop, C = fun a => ∃ y, cl.lookup y = some a := ⟨_, rfl⟩
  have cC : ∀ a, C a → ∃ (y : Str) (j : Nat) (v : V) (d : D) (o : Obj) (u : Value), cl.lookup y = some a ∧ l.free[j]? = some y ∧ ws[j]? = some v ∧ cds[j]? = some d ∧ H a = some (.frz o (.own 0)) ∧ s.heap.get? a = some o ∧ o.data = .cell (some u) ∧ RelV v u ∧ Is K H v d := fun a ha => by
    rw [hC] at ha
    obtain ⟨y, hy⟩ := ha
    obtain ⟨j, hj⟩ := List.mem_iff_getElem?.mp (h5 _ (PySem.mem_of_lookup hy))
    have hj2 : j < l.free.length := (List.getElem?_eq_some_iff.mp hj).1
    have e2 : ws[j]? = some (ws[j]'(by omega)) := List.getElem?_eq_getElem (by omega)
    obtain ⟨y', d, a', o, u, z1, z2, z3, z4, z5, z6, z7⟩ := w2 j _ e2
    rw [hj] at z1
    cases z1
    rw [hy] at z3
    cases z3
    exact ⟨y, j, _, d, o, u, hy, hj, e2, z2, z4, (e0.hok a _ z4).1, z5, z6, z7⟩
  have n1 : ∀ c, C c → ∃ o, H c = some (.frz o (.own 0)) ∧ s.heap.get? c = some o := fun c hc => by
    obtain ⟨y, j, v, d, o, u, z1, z2, z3, z4, z5, z6, z7, z8, z9⟩ := cC c hc
    exact ⟨o, z5, z6⟩
  have nf : ∀ c, C c → c ∉ frs outer := fun c hc hm => by
    obtain ⟨o, z, _⟩ := n1 c hc
    rw [e0.frf c hm] at z
    cases z
  have nb : ∀ c, C c → base.get? c = none := fun c hc => by
    obtain ⟨o, z, _⟩ := n1 c hc
    cases e : base.get? c with
    | none => rfl
    | some o' =>
      rw [(e0.bs c o' e).2] at z
      cases z
  have mC : Mv C H (unlk C H) := ⟨fun c hc => by
    obtain ⟨y, j, v, d, o, u, z1, z2, z3, z4, z5, z6, z7, z8, z9⟩ := cC c hc
    exact ⟨o, _, z5, z7⟩, fun b u z nl => by rw [unlk_out nl]; exact z⟩
  -- the arguments
  have ar : ∃ us' vs', vs'.length = ak.ps.length ∧ Vals vs' us' ∧ IsL K H vs' (ak.vals ds) ∧ BindsTo s (PySem.W.kdv_fn "<lambda>" l.qual l.params (.expr l.body) l.scope cl dV doc pm (.ref c') ctv) ⟨us, []⟩ (ak.ps.zip us') := by
    have hl1 : us.length = ak.ar := by rw [← rv.length, i.length, hn]
    have dk := argK_dk hak
    cases ak with
    | z =>
      obtain rfl : us = [] := List.length_eq_zero_iff.mp hl1
      rcases h3 with ⟨h3, _⟩ | ⟨t, _, _, z⟩
      · exact ⟨[], [], rfl, .nil, isL_nil.mpr rfl, BindsTo.of_eq (by rw [bind_z (cl := cl) (doc := doc) (pm := pm) (ct := ctv) (c' := c') hak rfl h3]; rfl)⟩
      · exact absurd dk z
    | o x =>
      obtain ⟨u, rfl⟩ := List.length_eq_one_iff.mp hl1
      rcases h3 with ⟨h3, _⟩ | ⟨t, _, _, z⟩
      · exact ⟨[u], vs, by rw [rv.length]; rfl, rv, i, BindsTo.of_eq (by rw [bind_o hak rfl h3]; rfl)⟩
      · exact absurd dk z
    | d x =>
      obtain rfl : us = [] := List.length_eq_zero_iff.mp hl1
      rcases h3 with ⟨_, z⟩ | ⟨t, h3, ht, _⟩
      · exact absurd z dk
      · obtain ⟨_, its, rt, ob, e1, e2, n, e3⟩ := e0.hok t _ ht
        obtain ⟨u, hu, ru⟩ := rt.get (i := 0) (x := .int 0) rfl
        have hits : its = [u] := by
          have z := rt.length
          cases its with
          | nil => cases z
          | cons a r =>
            cases r with
            | nil => simp at hu; rw [hu]
            | cons b r => simp at z
        subst hits
        obtain ⟨k, k1, k2⟩ := bind_d (u := u) (fd := PySem.W.kdv_fn "<lambda>" l.qual l.params (.expr l.body) l.scope cl dV doc pm (.ref c') ctv) hak rfl h3
        exact ⟨[u], [.int 0], rfl, .cons ru .nil, IsL.one (is_int.mpr rfl), BindsTo.of_defaults h3 e1 e3 k1 (by rw [k2]; rfl)⟩
  obtain ⟨us', vs', a1, a2, a3, a4⟩ := ar
  have hws : (ws.map some).length = l.free.length := by rw [List.length_map, w1]
  obtain ⟨NF, hNF⟩ : ∃ NF : NdefX.NF, NF = ⟨"<lambda>", l.qual, l.params, [], l.scope, cl, c'⟩ := ⟨_, rfl⟩
  refine codeAny_mono ?_ fun r s' hq => cr_re (L := C) n1 nf hq
  refine PySem.W.kla_callFunE hr.depth (e0.hok f _ h1).1 rfl S.co S.gen rfl ?_ ?_
  · obtain ⟨⟨oc, vs2, t, e1, e2, e3⟩, _⟩ := e0.hok c' _ h2
    exact ⟨c', oc, vs2, t, rfl, e1, e2, e3⟩
  refine a4 _ _ _ _ (wpAny_newFunctionEnv S.nocell (fun ⟨n, _⟩ hy => S.par n (List.of_mem_zip hy).1) (fun h₁ hns hsb => ⟨lim.fresh _ hsb, ?_⟩) S.kind)
  have kp : ∀ b o, s.heap.get? b = some o → h₁.get? b = some o := fun b o e => hsb.extBut b o (Nat.ne_of_lt (Heap.lt_size e)) (Heap.get?_push_of_some _ e)
  obtain ⟨Q2, hQ2⟩ : ∃ Q2 : VK, Q2 = fun v H1 => (∀ c, C c → H1 c = none) → Q v (relk C H H1) := ⟨_, rfl⟩
  obtain ⟨E2, hE2⟩ : ∃ E2 : XK, E2 = fun cls d H1 => (∀ c, C c → H1 c = none) → E cls d (relk C H H1) := ⟨_, rfl⟩
  rw [← hQ2, ← hE2]
  obtain ⟨X, hX⟩ : ∃ X : Cx, X = NdefX.ncx (L2.CX P w) P w K mg base N NF f A outer s (unlk C H) E2 := ⟨_, rfl⟩
  have CA : NdefX.CellsAt NF.cl l.free (ws.map some) s.heap (unlk C H) := by
    subst hNF
    refine ⟨hws, fun y c hy => ?_, h6, fun j y hj => ?_⟩
    · have hc : C c := by rw [hC]; exact ⟨y, hy⟩
      obtain ⟨y, j, v, d, o, u, z1, z2, z3, z4, z5, z6, z7, z8, z9⟩ := cC c hc
      exact ⟨unlk_in hc, _, o, z6, z7⟩
    · have hj2 : j < l.free.length := (List.getElem?_eq_some_iff.mp hj).1
      have e2 : ws[j]? = some (ws[j]'(by omega)) := List.getElem?_eq_getElem (by omega)
      obtain ⟨y', d, a', o, u, z1, z2, z3, z4, z5, z6, z7⟩ := w2 j _ e2
      rw [hj] at z1
      cases z1
      refine ⟨a', z3, fun v hv => ?_⟩
      rw [List.getElem?_map, e2] at hv
      cases hv
      exact ⟨u, z6, o, (e0.hok a' _ z4).1, z5⟩
  have S' : NdefX.NScope N ak.ps l.free NF.scope := by rw [hNF]; exact S
  have e0' := env0_un n1 e0
  have Iv : Inv X [] (NdefX.startF N vs' (ws.map some)) (unlk C H) { s with heap := h₁, toks := s.toks + (ak.ps.zip us').length } := by
    rw [hX]
    exact NdefX.inv_startN S' hr.hd e0' a1 a2 CA hns kp
  have xcl : X.env.cells = cl := by rw [hX, hNF]; rfl
  have xN : X.N = N := by rw [hX]; rfl
  -- own cells, by the places
  have slot : ∀ j v, ws[j]? = some v → ∀ y, l.free[j]? = some y → N[ak.ps.length + j]? = some y ∧ (NdefX.startF N vs' (ws.map some))[ak.ps.length + j]? = some (some v) := fun j v hv y hy => by
    obtain ⟨b1, b2⟩ := startF_free S a1 hws hy
    exact ⟨b1, by rw [b2, List.getElem?_map, hv]; rfl⟩
  have ownC : ∀ h0 a v, (ownOf X h0 (NdefX.startF N vs' (ws.map some))).cell a v → ∃ o u, H a = some (.frz o (.own 0)) ∧ o.data = .cell (some u) ∧ RelV v u ∧ C a := fun h0 a v ⟨y, j, b1, b2, b3, b4⟩ => by
    rw [xcl] at b1
    rw [xN] at b2
    have hc : C a := by rw [hC]; exact ⟨y, b1⟩
    obtain ⟨y', j', v', d, o, u, z1, z2, z3, z4, z5, z6, z7, z8, z9⟩ := cC a hc
    have : y = y' := h6 _ _ _ b1 z1
    subst this
    obtain ⟨t1, t2⟩ := slot j' v' z3 y z2
    have := nodup_ix S.nd b2 t1
    subst this
    rw [t2] at b3
    cases b3
    exact ⟨o, u, z5, z7, z8, hc⟩
  have gd : Good { N := N, sc := l.scope, lev := lev, lp := false, blk := true, lam := true, qual := q0 } ⟨Γ, ownOf X (unlk C H), fun cls d _ H => E2 cls d H, unlk C H, fun _ => none⟩ X := by
    subst hX
    subst hNF
    refine ⟨rfl, S.nd, rfl, fun _ => rfl, ?_, takes_of rfl rfl rfl rfl, fun _ => hr.deeper _, rfl, fun _ => .inr fun y c hy => ?_, fun _ a k ds z => ?_, fun z => ?_, fun z => ?_, fun _ _ z => ?_, fun z => ?_, fun z => ?_⟩
    · have z := (hr.deeper (NdefX.envF ⟨"<lambda>", l.qual, l.params, [], l.scope, cl, c'⟩ f s.heap.objs.size)).un
      show (A.deeper _).units + 200 < cLine
      omega
    · have hc : C c := by rw [hC]; exact ⟨y, hy⟩
      exact ⟨nb c hc, nf c hc⟩
    · cases z
    · cases z
    · cases z
    · cases z
    · cases z
    · cases z
  have hB := body _ X (by rw [hX]; rfl) (by rw [hX]; rfl) (by rw [hX]; rfl) (by rw [hX]; rfl) (by rw [hX]; rfl) rfl gd
  have xK : X.K = K := by rw [hX]; rfl
  have xm : X.mg = mg := by rw [hX]; rfl
  refine PySem.W.kla_codeExpr ?_
  have rd : up ⟨Γ, ownOf X (unlk C H), fun cls d _ H => E2 cls d H, unlk C H, fun _ => none⟩ X d (NdefX.startF N vs' (ws.map some)) (unlk C H) Q2 := by
    have back : ∀ {G' : GS} {H' : Hp}, (∀ c, C c → H' c = none) → Ext (unlk C H) H' → HRep Γ K mg (ownOf X (unlk C H) (NdefX.startF N vs' (ws.map some))) G' H' → HRep Γ K mg NoOwn G' (relk C H H') ∧ Ext H (relk C H H') ∧ ∀ b u, H' b = some u → relk C H H' b = some u := fun {G' H'} kn e r' => by
      have sm : ∀ b u, H' b = some u → relk C H H' b = some u := fun b u z => by
        rw [relk_out fun hc => by rw [kn b hc] at z; cases z]
        exact z
      refine ⟨r'.mv (Mv.of sm) (fun y a d z => ?_) ext_none, fun b o st z => ?_, sm⟩
      · rcases z with ⟨v, z, z2⟩ | ⟨o, u, v, z1, z2, z3, z4⟩
        · obtain ⟨o, u, t1, t2, t3, t4⟩ := ownC _ a v z
          exact .inr ⟨o, u, v, by rw [relk_in t4]; exact t1, t2, t3, Is.tk (fun b xs z => sm b _ z) _ _ z2⟩
        · exact .inr ⟨o, u, v, sm a _ z1, z2, z3, Is.tk (fun b xs z => sm b _ z) _ _ z4⟩
      · by_cases hc : C b
        · rw [relk_in hc]; exact z
        · rw [relk_out hc]
          exact e b o st (by rw [unlk_out hc]; exact z)
    refine ⟨startL N ak ds cds, G, Q', E', ?_, ?_, hd cds ds G Q' E' h7 hn q, fun d G' v H' e r' i' q' => ?_, fun cn p G' cls dd H' e r' i' q' => ?_⟩
    · have wc : IsL K H ws cds := isL_of (by rw [w1, h7]) fun j v d hv hd => by
        obtain ⟨y, d', a, o, u, z1, z2, z3, z4, z5, z6, z7⟩ := w2 j v hv
        rw [hd] at z2
        cases z2
        exact z7
      have z := srep_map (n := N.length - (ak.vals ds).length - cds.length) (IsL.tk mC.tup _ _ (a3.append wc))
      rw [xK]
      unfold startL NdefX.startF
      rw [List.map_append, List.map_append, List.append_assoc, List.append_assoc] at z
      rw [a3.length, List.length_map, wc.length]
      exact z
    · show HRep Γ X.K X.mg _ G (unlk C H)
      rw [xK, xm]
      refine r0.mv mC (fun y a d z => ?_) (Ext.refl _)
      rcases z with ⟨v, z, _⟩ | ⟨o, u, v, z1, z2, z3, z4⟩
      · exact z.elim
      · by_cases hc : C a
        · obtain ⟨y', j', v', d', o', u', t1, t2, t3, t4, t5, t6, t7, t8, t9⟩ := cC a hc
          rw [t5] at z1
          cases z1
          rw [t7] at z2
          cases z2
          have := z3.inj t8
          subst this
          obtain ⟨b1, b2⟩ := slot j' v t3 y' t2
          refine .inl ⟨v, ⟨y', _, by rw [xcl]; exact t1, by rw [xN]; exact b1, b2, .inr ?_⟩, Is.tk mC.tup _ _ z4⟩
          have : X.env.scope = l.scope := by rw [hX, hNF]; rfl
          rw [this]
          exact S.frk y' (List.mem_of_getElem? t2)
        · exact .inr ⟨o, u, v, by rw [unlk_out hc]; exact z1, z2, z3, Is.tk mC.tup _ _ z4⟩
    · rw [hQ2]
      intro kn
      have r'' : HRep Γ K mg (ownOf X (unlk C H) (NdefX.startF N vs' (ws.map some))) G' H' := by
        have r' : HRep Γ X.K X.mg (ownOf X (unlk C H) (NdefX.startF N vs' (ws.map some))) G' H' := r'
        rw [xK, xm] at r'
        exact r'
      obtain ⟨b1, b2, b3⟩ := back kn e r''
      rw [xK] at i'
      exact kk d G' v _ b2 b1 (Is.tk (fun b xs z => b3 b _ z) _ _ i') q'
    · show E2 cls dd H'
      rw [hE2]
      intro kn
      have r'' : HRep Γ K mg (ownOf X (unlk C H) (NdefX.startF N vs' (ws.map some))) G' H' := by
        have r' : HRep Γ X.K X.mg (ownOf X (unlk C H) (NdefX.startF N vs' (ws.map some))) G' H' := r'
        rw [xK, xm] at r'
        exact r'
      obtain ⟨b1, b2, b3⟩ := back kn e r''
      rw [xK, xm] at i'
      exact x cn p G' cls dd _ b2 b1 (XIs.tk (Mv.of b3) i') q'
  have run := hB.run [] _ _ (unlk C H) Q2 Iv rd
  subst hX
  subst hNF
  refine wpAny_mono run (fun v s' hq => ?_) fun e s' hq => hq
  obtain ⟨w', H', J', rv, q⟩ := hq
  exact ⟨w', H', J'.os, J'.bare, J'.base, J'.hok, rv, q⟩
end
end GL
set_option Elab.async false
set_option linter.all false
set_option maxRecDepth 100000
set_option maxHeartbeats 2000000
/-! GF: a def's promise by its body. -/
namespace GL
open PySem PySem.Spec PyProof.Rows L2
def cutK (lam : Bool) (g0 G : GS) : GS := if lam = true then keepC g0 G else G
def startD (N : List Str) (ds : List D) : Rho := ds.map some ++ List.replicate (N.length - ds.length) none
def endsD (lam : Bool) (g0 : GS) (Q : DK) : DEnds := { nx := fun _ G => Q .non (cutK lam g0 G), rt := fun v G => Q v (cutK lam g0 G) }
section
variable {P : Program} {w : World} {K : PySem.W.Frag} {mg : Str → Option Value} {base : Heap} {Γ : Gm}
theorem fnok_of {x qual : Str} {params : Arguments} {body : List Stmt} {scope : Scope} {f : Addr} {fd : FuncData} {N ps : List Str} {k : Nat} {sp : Spec} {d : GS → DS} {lam mkl : Bool} (FD : FunD K x qual params body scope [] [] f fd) (S : FnScope N ps scope) (hlm : mkl = true → lam = true)
    (tabs : mkl = true → ∃ c P, LamX.TabB base mg c P ∧ fd.code = .ref c ∧ (P, qual ++ ".<locals>." ++ "<lambda>") ∈ Γ.T ∧ ∀ p ∈ Γ.T, p.1 = P → p.2 = qual ++ ".<locals>." ++ "<lambda>")
    (hb : ∀ F X, X.prog = P → X.w = w → X.K = K → X.mg = mg → X.base = base → F.Γ = Γ → X.stack = X.env :: X.outer → X.env.frame = some X.env.locals → Good { N := N, sc := scope, lev := k, lam := lam, mkl := mkl, qual := qual ++ ".<locals>." } F X → PSs X body (upS F X (d F.g0)))
    (hd : ∀ ds G Q E, ds.length = ps.length → sp ds G Q E → d G (endsD lam G Q) (fun cn p G' => E cn p (cutK lam G G')) (startD N ds) G) :
    FnOk P w K mg base (L2.CX P w) (k + 1) f fd ps (lift Γ K mg ps.length sp) := by
  obtain ⟨oc, od, dV, kV, doc, pm, an, cdv, ct, osl, rfl, lk, hcd, _, _⟩ := FD.ex
  refine fn_of lk hcd S (fun vs H Q E h => ?_) fun A outer s H vs Q E hr hL => ?_
  · obtain ⟨ds, G, Q', E', hn, i, _⟩ := h
    rw [i.length, hn]
  · obtain ⟨ds, G, Q', E', hn, i, r0, q, kk, x⟩ := hL
    obtain ⟨X, hX⟩ : ∃ X : Cx, X = cxOf (L2.CX P w) P w K mg base N qual scope f cdv A outer s H E := ⟨_, rfl⟩
    obtain ⟨F, hF⟩ : ∃ F : Fx, F = ⟨Γ, if lam = true then ownOf X H else fun _ => noneOf H, fun cls d _ H => E cls d H, H, G⟩ := ⟨_, rfl⟩
    have eΓ : F.Γ = Γ := by rw [hF]
    have e0 : F.g0 = G := by rw [hF]
    have eh : F.h0 = H := by rw [hF]
    have gd : Good { N := N, sc := scope, lev := k, lam := lam, mkl := mkl, qual := qual ++ ".<locals>." } F X := by
      subst hF
      subst hX
      refine ⟨rfl, S.nd, rfl, fun _ => rfl, ?_, takes_of rfl rfl rfl rfl, fun _ => hr, rfl, fun _ => .inl fun _ => rfl, fun _ a k ds z => r0.obj a _ z, fun _ => rfl, fun hm => ?_, fun _ _ z => (by cases z), fun _ _ => rfl, fun _ => passes_of rfl⟩
      · have z := hr.un
        show (A.deeper _).units + 200 < cLine
        omega
      · obtain ⟨c, P, t1, t2, t3, t4⟩ := tabs hm
        exact ⟨c, P, t1, t2, t3, t4⟩
    have xK : X.K = K := by rw [hX]; rfl
    have xm : X.mg = mg := by rw [hX]; rfl
    have hB := hb F X (by rw [hX]; rfl) (by rw [hX]; rfl) xK xm (by rw [hX]; rfl) eΓ (by rw [hX]; rfl) (by rw [hX]; rfl) gd
    rw [e0] at hB
    rw [← hX]
    refine ⟨_, hB, ?_⟩
    -- out of the frame
    have out : ∀ {σ : L2.St} {G' : GS} {H' : Hp}, Ext H H' → HR F X σ G' H' → HRep Γ K mg NoOwn (cutK lam G G') H' := fun {σ G' H'} e r => by
      have r : HRep F.Γ X.K X.mg (F.own σ) G' H' := r
      rw [eΓ, xK, xm] at r
      cases hl : lam with
      | false =>
        have eo : F.own σ = noneOf H := by rw [hF, hl]; rfl
        rw [eo] at r
        exact hr_none (fun c v z => z) ext_none r
      | true =>
        show HRep Γ K mg NoOwn (keepC G G') H'
        exact keep_rep (h0 := H) (fun a k ds z => r0.obj a _ z) e ext_none r
    refine ⟨startD N ds, G, endsD lam G Q', fun cn p G' => E' cn p (cutK lam G G'), ?_, ?_, hd ds G Q' E' hn q, ⟨fun ρ G' σ H' e s r q => ?_, fun ρ G' σ H' e s r q => q.elim, fun ρ G' σ H' e s r q => q.elim, fun σ d G' v H' e r i q => ?_⟩, fun cn p G' cls dd σ H' e r i q => ?_⟩
    · rw [xK]
      have z := srep_map (n := N.length - ds.length) i
      unfold startD L2.start
      rw [i.length]
      exact z
    · show HRep F.Γ X.K X.mg (F.own _) G H
      rw [eΓ, xK, xm]
      refine hr_none (fun c v z => z) ?_ r0
      rw [own_h0 gd, eh]
      exact Ext.refl H
    · exact kk .non _ .non H' e (out e r) (is_non.mpr rfl) q
    · rw [xK] at i
      exact kk d _ v H' e (out e r) i q
    · have : F.W cls dd σ H' = E cls dd H' := by rw [hF]
      rw [this]
      rw [xK, xm] at i
      exact x cn p _ cls dd H' e (out e r) i q
end
end GL
set_option Elab.async false
set_option linter.all false
set_option maxRecDepth 100000
set_option maxHeartbeats 2000000
/-! G8: operators and built-ins, by letters. -/
namespace GL
open PySem PySem.Spec PyProof.Rows L2
section
variable {I : Inf} {F : Fx} {X : Cx}
/-! ### in -/
def flatD : D → Bool
  | .non => true
  | .bl _ => true
  | .int _ => true
  | .str _ => true
  | _ => false
def eqF : D → D → Bool
  | .non, .non => true
  | .bl a, .bl b => a == b
  | .bl a, .int b => (if a then 1 else 0) == b
  | .int a, .bl b => a == (if b then 1 else 0)
  | .int a, .int b => a == b
  | .str a, .str b => a == b
  | _, _ => false
def toV : D → V
  | .non => .non
  | .bl b => .bl b
  | .int i => .int i
  | .str s => .str s
  | _ => .non
theorem toV_ok {K : PySem.W.Frag} {H : Hp} {v : V} {d : D} (i : Is K H v d) (f : flatD d = true) : v = toV d ∧ flatV v = true := by
  cases d with
  | non => rw [is_non.mp i]; exact ⟨rfl, rfl⟩
  | bl b => rw [is_bl.mp i]; exact ⟨rfl, rfl⟩
  | int n => rw [is_int.mp i]; exact ⟨rfl, rfl⟩
  | str s => rw [is_str.mp i]; exact ⟨rfl, rfl⟩
  | tup _ => cases f
  | ref _ => cases f
  | ty _ => cases f
theorem toVs_ok {K : PySem.W.Frag} {H : Hp} : ∀ {vs : List V} {ds : List D}, IsL K H vs ds → ds.all flatD = true → vs = ds.map toV ∧ vs.all flatV = true
  | vs, [], i, _ => by rw [isL_nil.mp i]; exact ⟨rfl, rfl⟩
  | vs, d :: ds, i, f => by
    obtain ⟨x, xs, rfl, h1, h2⟩ := isL_cons.mp i
    simp only [List.all_cons, Bool.and_eq_true] at f
    obtain ⟨e1, e2⟩ := toV_ok h1 f.1
    obtain ⟨e3, e4⟩ := toVs_ok h2 f.2
    refine ⟨by rw [e1, e3]; rfl, ?_⟩
    rw [List.all_cons, e2, e4]
    rfl
theorem eqF_V {d e : D} (h1 : flatD d = true) (h2 : flatD e = true) : eqV (toV d) (toV e) = eqF d e := by
  cases d <;> cases e <;> first | rfl | exact Bool.noConfusion (show false = true from h1) | exact Bool.noConfusion (show false = true from h2)
def inF (d : D) (xs : List D) : Bool := xs.any fun y => eqF y d
theorem inF_V {d : D} (hd : flatD d = true) : ∀ {xs : List D}, xs.all flatD = true → inV (toV d) (xs.map toV) = inF d xs
  | [], _ => rfl
  | x :: xs, h => by
    simp only [List.all_cons, Bool.and_eq_true] at h
    have ih := inF_V hd h.2
    unfold inV inF at ih ⊢
    simp only [List.map_cons, List.any_cons, eqF_V h.1 hd]
    rw [ih]
/-- x in a sequence of plain values -/
def opInF (neg : Bool) : OpD := fun d e G Q _ => match seqOf G e with
  | some xs => (flatD d = true ∧ xs.all flatD = true) ∧ Q (.bl (if neg then !inF d xs else inF d xs)) G
  | none => False
theorem ro_inF {neg : Bool} : ROp F X (rIn X.K neg) (opInF neg) := by
  intro σ H G x y d e Q' E Q r i j q k _
  unfold opInF at q
  split at q
  · rename_i xs es
    obtain ⟨a, ys, rfl, h1, h2⟩ := seqOf_sq r j es
    obtain ⟨f1, f2⟩ := toV_ok i q.1.1
    obtain ⟨f3, f4⟩ := toVs_ok h2 q.1.2
    refine ⟨a, ys, rfl, h1, f2, f4, ?_⟩
    rw [f1, f3, inF_V q.1.1 q.1.2]
    exact k _ G _ H (Ext.refl H) r (is_bl.mpr rfl) q.2
  · exact q.elim
/-- .. of values of any depth -/
def opInP (neg : Bool) : OpD := fun d e G Q _ => match py d, pyG G e with
  | some a, some (.list xs) => (a.depth ≤ 64 ∧ (PyData.list xs).depth ≤ 64) ∧ Q (.bl (if neg then !xs.any (fun z => PyData.eqv z a) else xs.any fun z => PyData.eqv z a)) G
  | _, _ => False
theorem shaped_of {d : PyData} (h1 : d.canLay0 = true) (h2 : d.depth ≤ 64) : SeqAt.shaped d = true := by
  unfold SeqAt.shaped
  rw [h1, decide_eq_true h2]
  rfl
theorem ro_inP : ROp F X (rInD X.K) (opInP false) := by
  intro σ H G x y d e Q' E Q r i j q k _
  unfold opInP at q
  split at q
  · rename_i a xs e1 e2
    obtain ⟨h1, h2⟩ := py_dp _ _ _ i e1
    obtain ⟨h3, h4⟩ := pyG_dp r j e2
    exact ⟨a, xs, h1, h3, shaped_of h2 q.1.1, shaped_of h4 q.1.2, k _ G _ H (Ext.refl H) r (is_bl.mpr rfl) q.2⟩
  · exact q.elim
theorem ro_notInP : ROp F X (rNotInD X.K) (opInP true) := by
  intro σ H G x y d e Q' E Q r i j q k _
  unfold opInP at q
  split at q
  · rename_i a xs e1 e2
    obtain ⟨h1, h2⟩ := py_dp _ _ _ i e1
    obtain ⟨h3, h4⟩ := pyG_dp r j e2
    exact ⟨a, xs, h1, h3, shaped_of h2 q.1.1, shaped_of h4 q.1.2, k _ G _ H (Ext.refl H) r (is_bl.mpr rfl) q.2⟩
  · exact q.elim
/-- a sign in a text -/
def opInS (neg : Bool) : OpD := fun d e G Q _ => match d, e with
  | .str ⟨cs⟩, .str z => (match cs.toList with
    | [c] => Q (.bl (if neg then !decide (c ∈ z.cps.toList) else decide (c ∈ z.cps.toList))) G
    | _ => False)
  | _, _ => False
theorem one_sign {cs : Array Nat} {c : Nat} (h : cs.toList = [c]) : cs = #[c] := by
  have : cs = cs.toList.toArray := by simp
  rw [this, h]
theorem ro_inS : ROp F X (fun x y H Q => ∃ (c : Nat) (z : Str), x = .str ⟨#[c]⟩ ∧ y = .str z ∧ Q (.bl (decide (c ∈ z.cps.toList))) H) (opInS false) := by
  intro σ H G x y d e Q' E Q r i j q k _
  unfold opInS at q
  split at q
  · rename_i cs z
    split at q
    · rename_i c ec
      rw [is_str.mp i, is_str.mp j, one_sign ec]
      exact ⟨c, z, rfl, rfl, k _ G _ H (Ext.refl H) r (is_bl.mpr rfl) q⟩
    · exact q.elim
  · exact q.elim
theorem ro_notInS : ROp F X (fun x y H Q => ∃ (c : Nat) (z : Str), x = .str ⟨#[c]⟩ ∧ y = .str z ∧ Q (.bl (!decide (c ∈ z.cps.toList))) H) (opInS true) := by
  intro σ H G x y d e Q' E Q r i j q k _
  unfold opInS at q
  split at q
  · rename_i cs z
    split at q
    · rename_i c ec
      rw [is_str.mp i, is_str.mp j, one_sign ec]
      exact ⟨c, z, rfl, rfl, k _ G _ H (Ext.refl H) r (is_bl.mpr rfl) q⟩
    · exact q.elim
  · exact q.elim
/-! ### letters -/
inductive BO where
  | add | sub | mul | div | mod | pow
def BO.ast : BO → Operator
  | .add => .Add
  | .sub => .Sub
  | .mul => .Mult
  | .div => .FloorDiv
  | .mod => .Mod
  | .pow => .Pow
def BO.op : BO → OpD
  | .add => opAdd
  | .sub => opSub
  | .mul => opMul
  | .div => opDiv
  | .mod => opMod
  | .pow => opPow
theorem bo_ok (b : BO) : ∃ r, OpR X (binaryOp b.ast) r ∧ ROp F X r b.op := by
  cases b with
  | add => exact ⟨_, op_addAll, ro_add⟩
  | sub => exact ⟨_, op_sub, ro_sub⟩
  | mul => exact ⟨_, op_mulAll, ro_mul⟩
  | div => exact ⟨_, op_fdivW, ro_div⟩
  | mod => exact ⟨_, op_mod, ro_mod⟩
  | pow => exact ⟨_, op_pow, ro_pow⟩
inductive CO where
  | eq | ne | lt | le | gt | ge | isN | notN | inF | notInF | inP | notInP | inS | notInS
def CO.ast : CO → CmpOp
  | .eq => .Eq
  | .ne => .NotEq
  | .lt => .Lt
  | .le => .LtE
  | .gt => .Gt
  | .ge => .GtE
  | .isN => .Is
  | .notN => .IsNot
  | .inF => .In
  | .notInF => .NotIn
  | .inP => .In
  | .notInP => .NotIn
  | .inS => .In
  | .notInS => .NotIn
def CO.op : CO → OpD
  | .eq => opEq
  | .ne => opNe
  | .lt => opCmp fun i j => decide (i < j)
  | .le => opCmp fun i j => decide (i ≤ j)
  | .gt => opCmp fun i j => decide (j < i)
  | .ge => opCmp fun i j => decide (j ≤ i)
  | .isN => opIsN
  | .notN => opNotN
  | .inF => opInF false
  | .notInF => opInF true
  | .inP => opInP false
  | .notInP => opInP true
  | .inS => opInS false
  | .notInS => opInS true
theorem co_ok (g : Good I F X) (b : CO) : ∃ r, OpR X (compareOp b.ast) r ∧ ROp F X r b.op := by
  have hu := g.un
  have hu64 : X.A.units + 64 < cLine := by omega
  have hu65 : X.A.units + 65 < cLine := by omega
  cases b with
  | eq => exact ⟨_, op_eq.or (op_eqD hu64), ro_eq⟩
  | ne => exact ⟨_, op_ne.or (op_neD hu64), ro_ne⟩
  | lt => exact ⟨_, op_lt, ro_cmp⟩
  | le => exact ⟨_, op_le, ro_cmp⟩
  | gt => exact ⟨_, op_gt, ro_cmp⟩
  | ge => exact ⟨_, op_ge, ro_cmp⟩
  | isN => exact ⟨_, op_isN, ro_isN⟩
  | notN => exact ⟨_, op_notN, ro_notN⟩
  | inF => exact ⟨_, op_in_seq, ro_inF⟩
  | notInF => exact ⟨_, op_notIn_seq, ro_inF⟩
  | inP => exact ⟨_, op_inD hu65, ro_inP⟩
  | notInP => exact ⟨_, op_notInD hu65, ro_notInP⟩
  | inS => exact ⟨_, op_in_sign, ro_inS⟩
  | notInS => exact ⟨_, op_notIn_sign, ro_notInS⟩
/-- built-ins -/
inductive Bt where
  | len | isi | sum | min | max | sortI | list | tuple | int | str
def Bt.name : Bt → Str
  | .len => "len"
  | .isi => "isinstance"
  | .sum => "sum"
  | .min => "min"
  | .max => "max"
  | .sortI => "sorted"
  | .list => "list"
  | .tuple => "tuple"
  | .int => "int"
  | .str => "str"
def Bt.op : Bt → OpA
  | .len => opLen
  | .isi => opIsi
  | .sum => opSum
  | .min => opMin
  | .max => opMax
  | .sortI => opSortI
  | .list => opList
  | .tuple => opTuple
  | .int => opIntC
  | .str => opStrC
def Bt.calm : Bt → Bool
  | .sum => true
  | .min => true
  | .max => true
  | _ => false
theorem up_bt (g : Good I F X) (b : Bt) (hcm : (I.calm || !b.calm) = true) {e0 : Expr} {es : List Expr} {a : DA} {p pos : Pos} (hb : BtFact X.mg b.name) (hg : I.sc.names.lookup b.name = some .globalImplicit) (hs : (e0 :: es).all notStar = true) (ha : PA X (e0 :: es) (upA F X a)) :
    PE X (.Call (.Name b.name p) (e0 :: es) [] pos) (up F X (dApp b.op a)) := by
  simp only [List.all_cons, Bool.and_eq_true] at hs
  have h1 := star_cons (es := es) (env := X.env) hs.1
  have h2 := star_any (env := X.env) (pos := pos) hs.2
  have hg := gl_of g hg
  cases b with
  | len => exact PE_imp (pe_callB call_lenAll hg hb.h boot_len ha (by decide) (by decide) h1 h2) (up_app ro_len)
  | isi => exact PE_imp (pe_callB call_isi hg hb.h boot_isinstance ha (by decide) (by decide) h1 h2) (up_app ro_isi)
  | sum => exact PE_imp (pe_callB (cr_sum (g.calm (by simpa [Bt.calm] using hcm))) hg hb.h boot_sum ha (by decide) (by decide) h1 h2) (up_app ro_sum)
  | min => exact PE_imp (pe_callB ((cr_min (g.calm (by simpa [Bt.calm] using hcm))).or (call_min2 (g.calm (by simpa [Bt.calm] using hcm)))) hg hb.h boot_min ha (by decide) (by decide) h1 h2) (up_app ro_min)
  | max => exact PE_imp (pe_callB (call_max2 (g.calm (by simpa [Bt.calm] using hcm))) hg hb.h boot_max ha (by decide) (by decide) h1 h2) (up_app ro_max)
  | sortI => exact PE_imp (pe_callB cr_sortedI hg hb.h boot_sorted ha (by decide) (by decide) h1 h2) (up_app ro_sortI)
  | list => exact PE_imp (pe_callTy call_list_of hg hb.h boot_list ha (by decide) (by decide) h1 h2) (up_app ro_list)
  | tuple => exact PE_imp (pe_callTy call_tuple_of hg hb.h boot_tuple ha (by decide) (by decide) h1 h2) (up_app ro_tuple)
  | int => exact PE_imp (pe_callTy call_int1 hg hb.h boot_int ha (by decide) (by decide) h1 h2) (up_app ro_intC)
  | str => exact PE_imp (pe_callTy call_str_int hg hb.h boot_str ha (by decide) (by decide) h1 h2) (up_app ro_strC)
/-- names of built-in classes as values -/
inductive Tn where
  | int | bool | str | tuple | list | dict
def Tn.name : Tn → Str
  | .int => "int"
  | .bool => "bool"
  | .str => "str"
  | .tuple => "tuple"
  | .list => "list"
  | .dict => "dict"
def Tn.ty : Tn → String
  | .int => "int"
  | .bool => "bool"
  | .str => "str"
  | .tuple => "tuple"
  | .list => "list"
  | .dict => "dict"
theorem up_ty (g : Good I F X) (b : Tn) {p : Pos} (hb : BtFact X.mg b.name) (hg : I.sc.names.lookup b.name = some .globalImplicit) : PE X (.Name b.name p) (up F X (dC (.ty b.ty))) := by
  have hg := gl_of g hg
  cases b with
  | int => exact up_c (pe_bltn (v := .ty "int") hg hb.h boot_int rfl) fun H => is_ty.mpr rfl
  | bool => exact up_c (pe_bltn (v := .ty "bool") hg hb.h boot_bool rfl) fun H => is_ty.mpr rfl
  | str => exact up_c (pe_bltn (v := .ty "str") hg hb.h boot_str rfl) fun H => is_ty.mpr rfl
  | tuple => exact up_c (pe_bltn (v := .ty "tuple") hg hb.h boot_tuple rfl) fun H => is_ty.mpr rfl
  | list => exact up_c (pe_bltn (v := .ty "list") hg hb.h boot_list rfl) fun H => is_ty.mpr rfl
  | dict => exact up_c (pe_bltn (v := .ty "dict") hg hb.h boot_dict rfl) fun H => is_ty.mpr rfl
/-- a module's constant: plain, or tracked -/
def dCst (d : D) : DE := fun _ G Q _ => Q d G
theorem up_cst (g : Good I F X) {x : Str} {d : D} (hd : (x, d) ∈ F.Γ.C) (hg : I.sc.names.lookup x = some .globalImplicit) (hdb : (x == ("__debug__" : Str)) = false) {p : Pos} : PE X (.Name x p) (up F X (dC d)) := by
  refine ⟨fun pins s σ H Q Iv ⟨ρ, G, Q', E, sr, r, q, k, xx⟩ => ?_⟩
  obtain ⟨u, v, h1, h2, h3⟩ := r.cst x d hd
  exact ld_glob Iv (gl_of g hg) h1 ⟨v, H, Iv, h2, k d G v H (Ext.refl H) r h3 q⟩ hdb
theorem up_gl (g : Good I F X) {x : Str} {d : D} (hf : GlFact X.K X.mg x d) (hg : I.sc.names.lookup x = some .globalImplicit) (hdb : (x == ("__debug__" : Str)) = false) {p : Pos} : PE X (.Name x p) (up F X (dC d)) := by
  obtain ⟨u, v, h1, h2, h3⟩ := hf.h
  exact up_c (pe_glob (gl_of g hg) h1 h2 hdb) h3
/-! ### count, index of plain values -/
def rCountF (K : PySem.W.Frag) : V → List V → Hp → VK → Prop := fun x xs H Q => ∃ (a : Addr) (ys : List V) (y : V), x = V.ref a ∧ xs = [y] ∧ SqL K H a ys ∧ flatV y = true ∧ ys.all flatV = true ∧ Q (.int (ys.countP fun z => eqV z y : Nat)) H
theorem countU {y : V} {u : Value} (ry : RelV y u) : ∀ {its : List Value} {ys : List V}, Vals ys its → ys.all flatV = true → its.countP (eqU y) = ys.countP fun z => eqV z y
  | _, _, .nil, _ => rfl
  | _, _, .cons r t, f => by
    simp only [List.all_cons, Bool.and_eq_true] at f
    rw [List.countP_cons, List.countP_cons, countU ry t f.2, eqU_of r f.1]
theorem mt_countF : MtR X "list.count" (rCountF X.K) := by
  intro pins s σ H x xs v us Q I rx rxs h
  obtain ⟨a, ys, y, rfl, rfl, hs, fy, fys, q⟩ := h
  cases rx
  obtain ⟨u, rfl, ru⟩ := rxs.one
  obtain ⟨its, rv, ⟨⟨cls, dd, data, sl⟩, n, ho, hc, hdn, hd⟩, hlen⟩ := I.list hs
  simp only at hc hd
  subst hc hd
  refine call_meets PySem.F.slot_list_count ⟨_, ho, rfl⟩ PySem.F.entry_list_count (PySem.F.args_list_count_2 _ _)
    (SeqAt.list_countAt a its.toArray n dd sl u (eqU y)) ⟨ho, fun u' hu' => mem_eqAt ru fy rv fys u' (by simpa using hu'), ?_⟩
  have ec : its.toArray.toList.countP (eqU y) = ys.countP fun z => eqV z y := countU ru rv fys
  refine ⟨.int (ys.countP fun z => eqV z y : Nat), H, I.tok _, ⟨s.toks, ?_⟩, q⟩
  show Value.int ((its.toArray.toList.countP (eqU y) : Nat) : Int) s.toks = Value.int ((ys.countP fun z => eqV z y : Nat) : Int) s.toks
  rw [ec]
theorem countF_V {d : D} (hd : flatD d = true) : ∀ {xs : List D}, xs.all flatD = true → (xs.map toV).countP (fun z => eqV z (toV d)) = xs.countP fun z => eqF z d
  | [], _ => rfl
  | x :: xs, h => by
    simp only [List.all_cons, Bool.and_eq_true] at h
    rw [List.map_cons, List.countP_cons, List.countP_cons, countF_V hd h.2, eqF_V h.1 hd]
def opCount : OpM
  | .ref a, [y], G, Q => (match lsqOf G a with
    | some xs => (flatD y = true ∧ xs.all flatD = true) ∧ Q (.int (xs.countP fun z => eqF z y : Nat)) G
    | none => False)
  | _, _, _, _ => False
def opIndex : OpM
  | .ref a, [y], G, Q => (match lsqOf G a with
    | some xs => (flatD y = true ∧ xs.all flatD = true) ∧ (match xs.findIdx? (fun z => eqF z y) with
      | some j => Q (.int (j : Nat)) G
      | none => False)
    | none => False)
  | _, _, _, _ => False
theorem rm_count : RMt F X "list" (rCountF X.K) isLstD opCount := by
  refine ⟨lst_ty, fun σ H G v d vs ds Q' Q r i il q k => ?_⟩
  unfold opCount at q
  split at q
  · obtain ⟨w, r1, rfl, i1, i2⟩ := isL_cons.mp il
    rw [isL_nil.mp i2, is_ref.mp i]
    split at q
    · rename_i xs e
      obtain ⟨zs, h1, h2⟩ := lsqOf_sq r e
      obtain ⟨f1, f2⟩ := toV_ok i1 q.1.1
      obtain ⟨f3, f4⟩ := toVs_ok h2 q.1.2
      refine ⟨_, zs, w, rfl, rfl, h1, f2, f4, ?_⟩
      rw [f1, f3, countF_V q.1.1 q.1.2]
      exact k _ G _ H (Ext.refl H) r (is_int.mpr rfl) q.2
    · exact q.elim
  · exact q.elim
theorem rm_index : RMt F X "list" (rIndex X.K) isLstD opIndex := by
  refine ⟨lst_ty, fun σ H G v d vs ds Q' Q r i il q k => ?_⟩
  unfold opIndex at q
  split at q
  · rename_i a y
    obtain ⟨w, r1, rfl, i1, i2⟩ := isL_cons.mp il
    rw [isL_nil.mp i2, is_ref.mp i]
    split at q
    · rename_i xs e
      obtain ⟨⟨q1, q2⟩, q3⟩ := q
      obtain ⟨zs, h1, h2⟩ := lsqOf_sq r e
      obtain ⟨f1, f2⟩ := toV_ok i1 q1
      obtain ⟨f3, f4⟩ := toVs_ok h2 q2
      split at q3
      · rename_i j ej
        obtain ⟨hj, hp, hno⟩ := List.findIdx?_eq_some_iff_getElem.mp ej
        have at_ : ∀ (m : Nat) (hm : m < xs.length), zs[m]? = some (toV xs[m]) := fun m hm => by
          rw [f3, List.getElem?_map, List.getElem?_eq_getElem hm]
          rfl
        have fl : ∀ (m : Nat) (hm : m < xs.length), flatD xs[m] = true := fun m hm => List.all_eq_true.mp q2 _ (List.getElem_mem hm)
        refine ⟨a, zs, w, j, toV xs[j], rfl, rfl, h1, f2, f4, at_ j hj, ?_, fun m z' hm hz => ?_, k _ G _ H (Ext.refl H) r (is_int.mpr rfl) q3⟩
        · rw [f1, eqF_V (fl j hj) q1]
          exact hp
        · have hm2 : m < xs.length := Nat.lt_trans hm hj
          rw [at_ m hm2] at hz
          cases hz
          rw [f1, eqF_V (fl m hm2) q1]
          have := hno m hm
          simpa using this
      · exact q3.elim
    · exact q.elim
  · exact q.elim
/-! ### isinstance of the caught exception -/
structure IsEF (K : PySem.W.Frag) (mg : Str → Option Value) (cn x : Str) (b : Bool) : Prop where
  h : ∀ C, mg cn = some (.ref C) → ExcC K C ∧ ((∃ D, mg x = some (.ref D) ∧ PySem.W.kitOne K (.ref C) (.ref D) = some b) ∨ (x = "ValueError" ∧ mg x = none ∧ PySem.W.kitOne K (.ref C) (.type "ValueError") = some b))
def dIsE (i : Nat) (a : Addr) (b : Bool) : DE := fun ρ G Q _ => ρ[i]? = some (some (.ref a)) ∧ Q (.bl b) G
theorem up_isE (g : Good I F X) {a : Addr} {cn x y : Str} {b : Bool} {i : Nat} {p p1 p2 pos : Pos} (hx : I.exc = some (a, cn)) (hf : IsEF X.K X.mg cn x b) (hb : BtFact X.mg "isinstance") (hi : I.sc.names.lookup ("isinstance" : Str) = some .globalImplicit) (hN : I.N[i]? = some y) (hv : Vis I.sc y) (hd : (y == ("__debug__" : Str)) = false) (hcd : (y == ("__classdict__" : Str)) = false)
    (hg : I.sc.names.lookup x = some .globalImplicit) (hdb : (x == ("__debug__" : Str)) = false) : PE X (.Call (.Name "isinstance" p) [.Name y p1, .Name x p2] [] pos) (up F X (dIsE i a b)) := by
  obtain ⟨oe, C, pn, X0, e1, e2, e3, e4⟩ := g.exc a cn hx
  have hm : X.mg cn = some (.ref C) := e4
  have gN : X.N[i]? = some y := by rw [g.N]; exact hN
  have gV : Vis X.env.scope y := by rw [g.sc]; exact hv
  have gG : Gl X x := gl_of g hg
  have gI : Gl X "isinstance" := gl_of g hi
  obtain ⟨ec, hcl⟩ := hf.h C hm
  subst e1
  have arg : ∃ (c : V) (cv : Value), (∀ u, RelV c u → u = cv) ∧ PySem.W.kitOne X0.K (.ref C) cv = some b ∧ PE (X0.suite a ((a, oe) :: pn)) (.Name x p2) (tC c) := by
    rcases hcl with ⟨D, h1, h2⟩ | ⟨h0, h1, h2⟩
    · exact ⟨.ref D, .ref D, fun u r => r, h2, pe_glob gG h1 rfl hdb⟩
    · subst h0
      exact ⟨.ty "ValueError", .type "ValueError", fun u r => r, h2, pe_bltn gG h1 boot_ValueError rfl⟩
  obtain ⟨c, cv, a1, a2, a3⟩ := arg
  refine PE_imp (pe_callB (call_isE ec e2 e3) gI hb.h boot_isinstance (pa_cons (pe_var gN gV hd hcd) (pa_cons a3 pa_nil rfl) rfl) (by decide) (by decide) rfl rfl) fun σ H Q ⟨ρ, G, Q', E, s, r, q, k, xx⟩ => ?_
  obtain ⟨q1, q2⟩ := (q : ρ[i]? = some (some (.ref a)) ∧ Q' (.bl b) G)
  obtain ⟨v, h1, h2⟩ := s.2 i _ q1
  rw [is_ref.mp h2] at h1
  exact ⟨.ref a, h1, c, cv, b, rfl, a1, a2, k _ G _ H (Ext.refl H) r (is_bl.mpr rfl) q2⟩
end
end GL
set_option Elab.async false
set_option linter.all false
set_option maxRecDepth 100000
set_option maxHeartbeats 4000000
/-! GD: the display of a dict whose keys are given texts. -/
namespace GL
open PySem PySem.Spec PyProof.Rows L2
/-- the pairs' merge, by letters -/
def putAll (kvs : List (Key × D)) : List Str → List D → List (Key × D)
  | k :: ks, d :: ds => putAll (putDk kvs (.inr k) d) ks ds
  | _, _ => kvs
def dDisp (ks : List Str) (a : DA) : DE := fun ρ G Q E => ∀ p, G p = none → a ρ (gup G p (.dK [])) (fun ds G2 => (ds.length = ks.length ∧ ks.length ≤ 15 ∧ G2 p = some (.dK [])) ∧ Q (.ref p) (gup G2 p (.dK (putAll [] ks ds)))) E
section
variable {I : Inf} {F : Fx} {X : Cx}
def zipK (ks : List Str) (vs : List V) : List (Key × V) := (ks.zip vs).map fun p => (.inr p.1, p.2)
/-- the pairs of a display stand for these letters -/
def PDs (F : Fx) (X : Cx) (ks : List Str) (d : DA) (es : List (Option Expr)) (vs : List Expr) : Prop := ∀ pos, ∃ trs, PPs X pos es vs trs ∧ es.all (·.isSome) = true ∧ es.length = vs.length ∧ es.length = ks.length ∧
  ∀ σ H (Q : List (V × V) → Hp → Prop), upA F X d σ H (fun us H1 => us.length = ks.length → Q ((zipK ks us).map fun kv => (kV kv.1, kv.2)) H1) → tPairs trs σ H Q
theorem pds_nil : PDs F X [] aNil [] [] := fun pos => ⟨[], pps_nil, rfl, rfl, rfl, fun σ H Q ⟨ρ, G, Q', E, s, r, q, k, x⟩ => k [] G [] H (Ext.refl H) r rfl q rfl⟩
theorem pds_cons {k : Str} {j : Nat} {p : Pos} {v : Expr} {d : DE} {ks : List Str} {a : DA} {es : List (Option Expr)} {vs : List Expr} (hv : PE X v (up F X d)) (hr : PDs F X ks a es vs) : PDs F X (k :: ks) (aCons d a) (some (.Constant (.str k) j p) :: es) (v :: vs) := fun pos => by
  obtain ⟨trs, h1, h2, h3, h4, h5⟩ := hr pos
  refine ⟨_, pps_cons pe_str hv h1, by simpa using h2, by simp [h3], by simp [h4], fun σ H Q ⟨ρ, G, Q', E, s, r, q, kk, x⟩ => ?_⟩
  refine ⟨ρ, G, _, E, s, r, q, fun d1 G1 y H1 e1 r1 i1 q1 => h5 σ H1 _ ⟨ρ, G1, _, E, s.ext e1, r1, q1, fun ds G2 us H2 e2 r2 i2 q2 hl => ?_, x.ext e1⟩, x⟩
  exact kk (d1 :: ds) G2 (y :: us) H2 (e1.trans e2) r2 ⟨y, us, rfl, i1.ext e2, i2⟩ q2 (by simp [hl])
theorem isP_putAll {K : PySem.W.Frag} {H : Hp} : ∀ {ks : List Str} {us : List V} {ds : List D} {kvs : List (Key × V)} {dks : List (Key × D)}, IsP K H kvs dks → IsL K H us ds → us.length = ks.length → IsP K H (mergeK kvs (zipK ks us)) (putAll dks ks ds)
  | [], [], ds, _, _, h, i, _ => by
    cases ds <;> exact h
  | [], _ :: _, _, _, _, _, _, l => by cases l
  | _ :: _, [], _, _, _, _, _, l => by cases l
  | k :: ks, u :: us, [], kvs, dks, h, i, l => by cases i
  | k :: ks, u :: us, d :: ds, kvs, dks, h, i, l => by
    obtain ⟨v, vs, e, i1, i2⟩ := isL_cons.mp i
    cases e
    exact isP_putAll (kvs := putK kvs (.inr k) u) (h.put i1) i2 (by simpa using l)
theorem up_disp {ks : List Str} {a : DA} {es : List (Option Expr)} {vs : List Expr} {pos : Pos} (h : PDs F X ks a es vs) (h0 : ks ≠ []) (h15 : ks.length ≤ 15) : PE X (.Dict es vs pos) (up F X (dDisp ks a)) := by
  obtain ⟨trs, h1, h2, h3, h4, h5⟩ := h pos
  refine PE_imp (pe_disp h1 h2 h3 (fun z => h0 (by cases ks with | nil => rfl | cons => rw [z] at h4; cases h4)) (by omega)) fun σ H Q ⟨ρ, G, Q', E, s, r, q, k, x⟩ => fun p hp => ?_
  refine h5 σ _ _ ⟨ρ, gup G p (.dK []), _, E, s.ext (Ext.new hp), r.new (u := .dK []) hp ⟨[], upd_same, rfl⟩, q p (r.fresh hp), fun ds G2 us H2 e2 r2 i2 q2 hl => ?_, x.ext (Ext.new hp)⟩
  obtain ⟨⟨l1, l2, l3⟩, q3⟩ := q2
  obtain ⟨ys, y1, y2⟩ := r2.obj p _ l3
  have y2 : ys = [] := y2
  subst y2
  have n1 : ¬ Stay (.dK []) := fun z => z
  have e1 : Ext H2 (upd H2 p (.dK (mergeK [] (zipK ks us)))) := Ext.upd y1 n1
  refine ⟨y1, zipK ks us, rfl, by simp [zipK]; omega, ?_⟩
  refine k (.ref p) _ _ _ (((Ext.new hp).trans e2).trans e1) ?_ (is_ref.mpr rfl) q3
  exact r2.set (w := .dK (putAll [] ks ds)) y1 n1 (fun ps z => by cases z) ⟨_, upd_same, IsP.ext e1 (isP_putAll (show IsP X.K H2 [] [] from rfl) i2 hl)⟩
end
end GL
set_option Elab.async false
set_option linter.all false
set_option maxRecDepth 100000
set_option maxHeartbeats 4000000
/-! GI: the small language: expressions. -/
namespace GL
open PySem PySem.Spec PyProof.Rows L2
/-- methods of lists -/
inductive Mt where
  | append | extend | pop | count | index
def Mt.name : Mt → Str
  | .append => "append"
  | .extend => "extend"
  | .pop => "pop"
  | .count => "count"
  | .index => "index"
def Mt.op : Mt → OpM
  | .append => opAppend
  | .extend => opExtend
  | .pop => opPopAt
  | .count => opCount
  | .index => opIndex
inductive SK where
  | lst | dct
def SK.op : SK → OpS
  | .lst => opSetL
  | .dct => opSetD
inductive Ex where
  | var (i : Nat) | cI (n : Int) | cS (s : Str) | cB (b : Bool) | cN | gl (x : Str) (d : D) | cst (x : Str) (d : D) | ty (t : Tn)
  | bin (o : BO) (a b : Ex) | cmp (o : CO) (a b : Ex) | dIn (ng : Bool) (a b : Ex) | chain (o o' : CO) (a b c : Ex)
  | and (a b : Ex) | or (a b : Ex) | not (a : Ex) | neg (a : Ex) | ite (t a b : Ex)
  | tup (a : Ex) | lst (a : Ex) | nil | cons (a r : Ex)
  | ix (a b : Ex) | dget (a b : Ex) | sl (a lo hi : Ex) | rev (a : Ex) | noP | someP (a : Ex)
  | fld (c f : Str) (o : Ex) | call (e : FnE) (a : Ex) | meth (e : FnE) (o a : Ex) | make (e : FnE) (a : Ex)
  | bt (b : Bt) (a : Ex) | mth (m : Mt) (o a : Ex) | get2 (o i y : Ex) | dK | dT | disp (a : Ex) | dp0 | dpC (k : Str) (v r : Ex)
  | lc (c : CT) (it t e : Ex) | lcC (g0 : GS) (c : CT) (it t e : Ex)
  | iSeq (a : Ex) | iR1 (a : Ex) | iR2 (a b : Ex) | iEn (a : Ex)
  | tv (a : Ex) | tcmp (o : CO) (a b : Ex) | tdIn (ng : Bool) (a b : Ex) | tchain (o o' : CO) (a b c : Ex) | tnot (t : Ex) | tand (a b : Ex) | tor (a b : Ex) | tyes
  | gN (i : Nat) | gNc (g0 : GS) (i : Nat) | gT (n : Nat) (a : Ex) | gs0 | gsC (a r : Ex) | gSub (k : SK) (o i : Ex)
  | lam (k : Nat) (l : LamD) (is : List Nat) | clo (cs : Nat → Option ClE) (o a : Ex) | stop | isE (i : Nat) (a : Addr) (x : Str) (b : Bool)

/-! ### what it says -/
structure Den where
  e : DE := fun _ _ _ _ => False
  a : DA := fun _ _ _ _ => False
  t : DT := fun _ _ _ _ => False
  i : DI := fun _ _ _ _ => False
  o : DO := fun _ _ _ _ => False
  g : DG := fun _ _ _ _ _ => False
  gs : DGs := fun _ _ _ _ _ => False
  dk : List Str := []
  dv : DA := fun _ _ _ _ => False
def dChainT (p p' : OpD) (a b c : DE) : DT := dTst (dChain p p' a b c)
def whName : FnW → Str
  | .glob x => x
  | .meth c _ => c
  | .make c => c
def whMeth : FnW → Str
  | .meth _ m => m
  | _ => ""
def Ex.den : Ex → Den
  | .var i => { e := dVar i }
  | .cI n => { e := dC (.int n) }
  | .cS s => { e := dC (.str s) }
  | .cB b => { e := dC (.bl b) }
  | .cN => { e := dC .non }
  | .gl _ d => { e := dC d }
  | .cst _ d => { e := dC d }
  | .ty t => { e := dC (.ty t.ty) }
  | .bin o a b => { e := dBin o.op a.den.e b.den.e }
  | .cmp o a b => { e := dBin o.op a.den.e b.den.e }
  | .dIn ng a b => { e := dBin (if ng then opDNotIn else opDIn) a.den.e b.den.e }
  | .chain o o' a b c => { e := dChain o.op o'.op a.den.e b.den.e c.den.e }
  | .and a b => { e := dAndV a.den.e b.den.e }
  | .or a b => { e := dOrV a.den.e b.den.e }
  | .not a => { e := dNotV a.den.e }
  | .neg a => { e := dNeg a.den.e }
  | .ite t a b => { e := dIte t.den.t a.den.e b.den.e }
  | .tup a => { e := dTup a.den.a }
  | .lst a => { e := dLst a.den.a }
  | .nil => { a := aNil }
  | .cons a r => { a := aCons a.den.e r.den.a }
  | .ix a b => { e := dBin opIx a.den.e b.den.e }
  | .dget a b => { e := dBin opDGet a.den.e b.den.e }
  | .sl a lo hi => { e := dSl a.den.e lo.den.o hi.den.o }
  | .rev a => { e := dRev a.den.e }
  | .noP => { o := dNoPart }
  | .someP a => { o := dPart a.den.e }
  | .fld c f o => { e := dFld c f o.den.e }
  | .call e a => { e := dCall e.ar e.sp a.den.a }
  | .meth e o a => { e := dMeth (whName e.wh) (whMeth e.wh) e.ar e.sp o.den.e a.den.a }
  | .make e a => { e := dMake (whName e.wh) e.ar e.sp a.den.a }
  | .bt b a => { e := dApp b.op a.den.a }
  | .mth m o a => { e := dMthT isLstD m.op o.den.e a.den.a }
  | .get2 o i y => { e := dGet2 o.den.e i.den.e y.den.e }
  | .dK => { e := dNewK }
  | .dT => { e := dNewT }
  | .disp a => { e := dDisp a.den.dk a.den.dv }
  | .dp0 => { dv := aNil }
  | .dpC k v r => { dk := k :: r.den.dk, dv := aCons v.den.e r.den.dv }
  | .lc c it t e => { e := dLc it.den.i c t.den.t e.den.e }
  | .lcC g0 c it t e => { e := dLcC g0 it.den.i c t.den.t e.den.e }
  | .iSeq a => { i := dSeqI a.den.e }
  | .iR1 a => { i := dRng1 a.den.e }
  | .iR2 a b => { i := dRng2 a.den.e b.den.e }
  | .iEn a => { i := dEnum a.den.e }
  | .tv a => { t := dTst a.den.e }
  | .tcmp o a b => { t := dTst (dBin o.op a.den.e b.den.e) }
  | .tdIn ng a b => { t := dTst (dBin (if ng then opDNotIn else opDIn) a.den.e b.den.e) }
  | .tchain o o' a b c => { t := dTst (dChain o.op o'.op a.den.e b.den.e c.den.e) }
  | .tnot t => { t := dNotT t.den.t }
  | .tand a b => { t := dAndT a.den.t b.den.t }
  | .tor a b => { t := dOrT a.den.t b.den.t }
  | .tyes => { t := dYes }
  | .gN i => { g := GL.gN i }
  | .gNc g0 i => { g := GL.gNc g0 i }
  | .gT n a => { g := GL.gT n a.den.gs }
  | .gs0 => { gs := gsNil }
  | .gsC a r => { gs := gsCons a.den.g r.den.gs }
  | .gSub k o i => { g := gS o.den.e i.den.e k.op }
  | .lam k _ is => { e := dLam k is }
  | .clo cs o a => { e := dClo cs o.den.e a.den.a }
  | .stop => { e := fun _ _ _ _ => False }
  | .isE i a _ b => { e := dIsE i a b }

/-! ### does it stand for that text? -/
structure Chk where
  e : Expr → Bool := fun _ => false
  va : List Expr → Bool := fun _ => false
  vo : List Expr → Bool := fun _ => false
  a : List Expr → Bool := fun _ => false
  t : Expr → Bool := fun _ => false
  wa : List Expr → Bool := fun _ => false
  wo : List Expr → Bool := fun _ => false
  ts : List Expr → Bool := fun _ => false
  i : Expr → Expr → Bool := fun _ _ => false
  o : Option Expr → Bool := fun _ => false
  g : Expr → Bool := fun _ => false
  gs : List Expr → Bool := fun _ => false
  dp : List (Option Expr) → List Expr → Bool := fun _ _ => false
def one (f : Expr → Bool) : List Expr → Bool
  | [x] => f x
  | _ => false
def cE (f : Expr → Bool) : Chk := { e := f, va := one f, vo := one f }
def cT (f : Expr → Bool) : Chk := { t := f, wa := one f, wo := one f, ts := one f }
def isGl (sc : Scope) (x : Str) : Bool := decide (sc.names.lookup x = some .globalImplicit) && !(x == ("__debug__" : Str))
def isVis (sc : Scope) (x : Str) : Bool := (decide (sc.names.lookup x = some .local) || decide (sc.names.lookup x = some .cell) || decide (sc.names.lookup x = some .free)) && !(x == ("__debug__" : Str)) && !(x == ("__classdict__" : Str))
def isLoc (I : Inf) (x : Str) : Bool := decide (I.sc.names.lookup x = some .local) || (!I.blk && decide (I.sc.names.lookup x = some .cell))
def blkI (I : Inf) (scope : Scope) : Inf := { I with sc := relS scope I.sc, lp := false, blk := true, lam := false, mkl := false, exc := none }
def ctN (N : List Str) : CT → List (Str × Nat)
  | .one i => [((N[i]?).getD "", i)]
  | .tup is => is.map fun i => ((N[i]?).getD "", i)
def chkTgN (N : List Str) (sc : Scope) (i : Nat) : Expr → Bool
  | .Name x _ => decide (N[i]? = some x) && decide (sc.names.lookup x = some .local)
  | _ => false
def chkTgs (N : List Str) (sc : Scope) : List Nat → List Expr → Bool
  | [], [] => true
  | i :: is, e :: es => chkTgN N sc i e && chkTgs N sc is es
  | _, _ => false
def chkCT (N : List Str) (sc : Scope) : CT → Expr → Bool
  | .one i, e => chkTgN N sc i e
  | .tup is, .Tuple es _ _ => chkTgs N sc is es
  | _, _ => false
def isGlobW : FnW → Str → Bool
  | .glob y, x => y == x
  | _, _ => false
def isMethW : FnW → Str → Bool
  | .meth _ m, x => m == x
  | _, _ => false
def isMakeW : FnW → Str → Bool
  | .make c, x => c == x
  | _, _ => false
/-- the same expression, of the few sorts that stand in lambdas -/
def eqE : Nat → Expr → Expr → Bool
  | 0, _, _ => false
  | n + 1, a, b => match a, b with
    | .Name x p, .Name y q => (x == y) && decide (p = q)
    | .Constant c k p, .Constant d j q => decide (c = d) && (decide (k = j) && decide (p = q))
    | .Attribute x f p, .Attribute y g q => eqE n x y && ((f == g) && decide (p = q))
    | .Subscript x i p, .Subscript y j q => eqE n x y && (eqE n i j && decide (p = q))
    | .BinOp x o y p, .BinOp u w v q => eqE n x u && (decide (o = w) && (eqE n y v && decide (p = q)))
    | .UnaryOp o x p, .UnaryOp w u q => decide (o = w) && (eqE n x u && decide (p = q))
    | .Tuple xs k p, .Tuple ys j q => decide (xs.length = ys.length) && ((xs.zip ys).all (fun z => eqE n z.1 z.2) && (decide (k = j) && decide (p = q)))
    | .List xs p, .List ys q => decide (xs.length = ys.length) && ((xs.zip ys).all (fun z => eqE n z.1 z.2) && decide (p = q))
    | .Call f xs [] p, .Call g ys [] q => eqE n f g && (decide (xs.length = ys.length) && ((xs.zip ys).all (fun z => eqE n z.1 z.2) && decide (p = q)))
    | .Slice a none none p, .Slice b none none q => (match a, b with
      | some x, some y => eqE n x y && decide (p = q)
      | _, _ => false)
    | .Slice none a none p, .Slice none b none q => (match a, b with
      | some x, some y => eqE n x y && decide (p = q)
      | _, _ => false)
    | _, _ => false
theorem zip_eq {n : Nat} (ih : ∀ a b, eqE n a b = true → a = b) : ∀ {xs ys : List Expr}, xs.length = ys.length → (xs.zip ys).all (fun z => eqE n z.1 z.2) = true → xs = ys
  | [], [], _, _ => rfl
  | [], _ :: _, h, _ => by cases h
  | _ :: _, [], h, _ => by cases h
  | x :: xs, y :: ys, h, q => by
    simp only [List.zip_cons_cons, List.all_cons, Bool.and_eq_true] at q
    rw [ih _ _ q.1, zip_eq ih (by simpa using h) q.2]
theorem eqE_eq : ∀ (n : Nat) (a b : Expr), eqE n a b = true → a = b
  | 0, _, _, h => by cases h
  | n + 1, a, b, h => by
    have ih := eqE_eq n
    unfold eqE at h
    split at h <;> (try simp only [Bool.and_eq_true, decide_eq_true_eq, beq_iff_eq] at h)
    · rw [h.1, h.2]
    · rw [h.1, h.2.1, h.2.2]
    · rw [ih _ _ h.1, h.2.1, h.2.2]
    · rw [ih _ _ h.1, ih _ _ h.2.1, h.2.2]
    · rw [ih _ _ h.1, h.2.1, ih _ _ h.2.2.1, h.2.2.2]
    · rw [h.1, ih _ _ h.2.1, h.2.2]
    · rw [zip_eq ih h.1 h.2.1, h.2.2.1, h.2.2.2]
    · rw [zip_eq ih h.1 h.2.1, h.2.2]
    · rw [ih _ _ h.1, zip_eq ih h.2.1 h.2.2.1, h.2.2.2]
    · split at h
      · simp only [Bool.and_eq_true, decide_eq_true_eq] at h
        rw [ih _ _ h.1, h.2]
      · cases h
    · split at h
      · simp only [Bool.and_eq_true, decide_eq_true_eq] at h
        rw [ih _ _ h.1, h.2]
      · cases h
    · cases h
def eqA : List Arg → List Arg → Bool
  | [], [] => true
  | ⟨x, none, p⟩ :: r, ⟨y, none, q⟩ :: t => (x == y) && (decide (p = q) && eqA r t)
  | _, _ => false
theorem eqA_eq : ∀ {a b : List Arg}, eqA a b = true → a = b
  | [], [], _ => rfl
  | [], _ :: _, h => by cases h
  | ⟨_, none, _⟩ :: _, [], h => by cases h
  | ⟨_, some _, _⟩ :: _, [], h => by cases h
  | ⟨x, none, p⟩ :: r, ⟨y, none, q⟩ :: t, h => by
    unfold eqA at h
    simp only [Bool.and_eq_true, decide_eq_true_eq, beq_iff_eq] at h
    rw [h.1, h.2.1, eqA_eq h.2.2]
  | ⟨_, none, _⟩ :: _, ⟨_, some _, _⟩ :: _, h => by cases h
  | ⟨_, some _, _⟩ :: _, ⟨_, none, _⟩ :: _, h => by cases h
  | ⟨_, some _, _⟩ :: _, ⟨_, some _, _⟩ :: _, h => by cases h
def eqP : Arguments → Arguments → Bool
  | ⟨[], a, none, [], [], none, d⟩, ⟨[], b, none, [], [], none, e⟩ => eqA a b && (decide (d.length = e.length) && (d.zip e).all (fun z => eqE 2 z.1 z.2))
  | _, _ => false
theorem eqP_eq {a b : Arguments} (h : eqP a b = true) : a = b := by
  unfold eqP at h
  split at h
  · simp only [Bool.and_eq_true, decide_eq_true_eq] at h
    rw [eqA_eq h.1, zip_eq (eqE_eq 2) h.2.1 h.2.2]
  · cases h
def bopF (op : BoolOp) (p : Expr → Bool) (q : List Expr → Bool) : Expr → Bool
  | .BoolOp o (x :: y :: r) _ => decide (o = op) && (p x && q (y :: r))
  | _ => false
def bopL (f p : Expr → Bool) (q : List Expr → Bool) : List Expr → Bool
  | [x] => f x
  | x :: y :: r => p x && q (y :: r)
  | [] => false
def isNilE : Ex → Bool
  | .nil => true
  | _ => false
def Ex.chk : Ex → Inf → Chk
  | .var i, I => cE fun e => match e with
    | .Name x _ => decide (I.N[i]? = some x) && isVis I.sc x
    | _ => false
  | .cI n, _ => cE fun e => match e with
    | .Constant (.int m) _ _ => decide (m = n)
    | _ => false
  | .cS s, _ => cE fun e => match e with
    | .Constant (.str z) _ _ => z == s
    | _ => false
  | .cB b, _ => cE fun e => match e with
    | .Constant (.bool c) _ _ => c == b
    | _ => false
  | .cN, _ => cE fun e => match e with
    | .Constant .none _ _ => true
    | _ => false
  | .gl x _, I => cE fun e => match e with
    | .Name y _ => (y == x) && isGl I.sc x
    | _ => false
  | .cst x _, I => cE fun e => match e with
    | .Name y _ => (y == x) && isGl I.sc x
    | _ => false
  | .ty t, I => cE fun e => match e with
    | .Name y _ => (y == t.name) && isGl I.sc t.name
    | _ => false
  | .bin o a b, I => cE fun e => match e with
    | .BinOp x p y _ => decide (p = o.ast) && ((a.chk I).e x && (b.chk I).e y)
    | _ => false
  | .cmp o a b, I => cE fun e => match e with
    | .Compare x [p] [y] _ => decide (p = o.ast) && (notSet y && ((a.chk I).e x && (b.chk I).e y))
    | _ => false
  | .dIn ng a b, I => cE fun e => match e with
    | .Compare x [p] [y] _ => decide (p = if ng then .NotIn else .In) && (notSet y && ((a.chk I).e x && (b.chk I).e y))
    | _ => false
  | .chain o o' a b c, I => cE fun e => match e with
    | .Compare x [p, p'] [y, z] _ => decide (p = o.ast) && decide (p' = o'.ast) && (notSet z && ((a.chk I).e x && ((b.chk I).e y && (c.chk I).e z)))
    | _ => false
  | .and a b, I =>
    { e := bopF .And (a.chk I).e (b.chk I).va, va := bopL (bopF .And (a.chk I).e (b.chk I).va) (a.chk I).e (b.chk I).va, vo := one (bopF .And (a.chk I).e (b.chk I).va) }
  | .or a b, I =>
    { e := bopF .Or (a.chk I).e (b.chk I).vo, vo := bopL (bopF .Or (a.chk I).e (b.chk I).vo) (a.chk I).e (b.chk I).vo, va := one (bopF .Or (a.chk I).e (b.chk I).vo) }
  | .not a, I => cE fun e => match e with
    | .UnaryOp .Not x _ => (a.chk I).e x
    | _ => false
  | .neg a, I => cE fun e => match e with
    | .UnaryOp .USub x _ => (a.chk I).e x
    | _ => false
  | .ite t a b, I => cE fun e => match e with
    | .IfExp c x y _ => (t.chk I).t c && ((a.chk I).e x && (b.chk I).e y)
    | _ => false
  | .tup a, I => cE fun e => match e with
    | .Tuple es _ _ => (a.chk I).a es
    | _ => false
  | .lst a, I => cE fun e => match e with
    | .List es _ => (a.chk I).a es
    | _ => false
  | .nil, _ => { a := fun es => match es with
    | [] => true
    | _ => false }
  | .cons a r, I => { a := fun es => match es with
    | e :: es => notStar e && ((a.chk I).e e && (r.chk I).a es)
    | _ => false }
  | .ix a b, I => cE fun e => match e with
    | .Subscript x y _ => notSlice y && ((a.chk I).e x && (b.chk I).e y)
    | _ => false
  | .dget a b, I => cE fun e => match e with
    | .Subscript x y _ => notSlice y && ((a.chk I).e x && (b.chk I).e y)
    | _ => false
  | .sl a lo hi, I => cE fun e => match e with
    | .Subscript x (.Slice l h none _) _ => (a.chk I).e x && ((lo.chk I).o l && (hi.chk I).o h)
    | _ => false
  | .rev a, I => cE fun e => match e with
    | .Subscript x (.Slice none none (some (.UnaryOp .USub (.Constant (.int n) _ _) _)) _) _ => decide (n = 1) && (a.chk I).e x
    | _ => false
  | .noP, _ => { o := fun e => match e with
    | none => true
    | _ => false }
  | .someP a, I => { o := fun e => match e with
    | some x => (a.chk I).e x
    | _ => false }
  | .fld _ f o, I => cE fun e => match e with
    | .Attribute x g _ => (g == f) && (plainBase x && (o.chk I).e x)
    | _ => false
  | .call f a, I => cE fun e => match e with
    | .Call (.Name x _) es [] _ => I.calm && isGlobW f.wh x && (isGl I.sc x && (decide (f.lev ≤ I.lev) && (es.all notStar && ((!es.isEmpty || isNilE a) && (a.chk I).a es))))
    | _ => false
  | .meth f o a, I => cE fun e => match e with
    | .Call (.Attribute x m ap) es [] p => I.calm && isMethW f.wh m && (decide (f.lev ≤ I.lev) && (es.all notStar && (plainBase x && ((ap.endLine == p.line) && (decide (es.length < 30) && ((o.chk I).e x && ((!es.isEmpty || isNilE a) && (a.chk I).a es)))))))
    | _ => false
  | .make f a, I => cE fun e => match e with
    | .Call (.Name x _) es [] _ => I.calm && isMakeW f.wh x && (isGl I.sc x && (decide (f.lev + 1 ≤ I.lev) && (es.all notStar && ((!es.isEmpty || isNilE a) && (a.chk I).a es))))
    | _ => false
  | .bt b a, I => cE fun e => match e with
    | .Call (.Name x _) (e0 :: es) [] _ => (I.calm || !b.calm) && (x == b.name) && (isGl I.sc b.name && ((e0 :: es).all notStar && (a.chk I).a (e0 :: es)))
    | _ => false
  | .mth m o a, I => cE fun e => match e with
    | .Call (.Attribute x n ap) (e0 :: es) [] p => (n == m.name) && ((e0 :: es).all notStar && (plainBase x && ((ap.endLine == p.line) && (decide ((e0 :: es).length < 30) && ((o.chk I).e x && (a.chk I).a (e0 :: es))))))
    | _ => false
  | .get2 o i y, I => cE fun e => match e with
    | .Call (.Attribute x n ap) [u, v] [] p => (n == ("get" : Str)) && (notStar u && (notStar v && (plainBase x && ((ap.endLine == p.line) && ((o.chk I).e x && ((i.chk I).e u && (y.chk I).e v))))))
    | _ => false
  | .dK, _ => cE fun e => match e with
    | .Dict [] [] _ => true
    | _ => false
  | .dT, _ => cE fun e => match e with
    | .Dict [] [] _ => true
    | _ => false
  | .disp a, I => cE fun e => match e with
    | .Dict ks vs _ => !a.den.dk.isEmpty && (decide (a.den.dk.length ≤ 15) && (a.chk I).dp ks vs)
    | _ => false
  | .dp0, _ => { dp := fun ks vs => match ks, vs with
    | [], [] => true
    | _, _ => false }
  | .dpC k v r, I => { dp := fun ks vs => match ks, vs with
    | some (.Constant (.str z) _ _) :: ks, e :: vs => (z == k) && ((v.chk I).e e && (r.chk I).dp ks vs)
    | _, _ => false }
  | .lc c it t e, I => cE fun x => match x with
    | .ListComp elt [⟨tg, iter, ifs, 0⟩] scope _ => (I.calm && !I.lam) && (notSet iter && (blkC I.N I.sc scope (ctN I.N c) && (chkCT I.N (relS scope I.sc) c tg && ((it.chk I).i tg iter && ((t.chk (blkI I scope)).ts ifs && (e.chk (blkI I scope)).e elt)))))
    | _ => false
  | .lcC _ c it t e, I => cE fun x => match x with
    | .ListComp elt [⟨tg, iter, ifs, 0⟩] scope _ => (I.calm && I.lam) && (notSet iter && (blkC I.N I.sc scope (ctN I.N c) && (chkCT I.N (relS scope I.sc) c tg && ((it.chk I).i tg iter && ((t.chk (blkI I scope)).ts ifs && (e.chk (blkI I scope)).e elt)))))
    | _ => false
  | .iSeq a, I => { i := fun _ e => (a.chk I).e e }
  | .iR1 a, I => { i := fun _ e => match e with
    | .Call (.Name x _) [u] [] _ => (x == ("range" : Str)) && (isGl I.sc "range" && (notStar u && (a.chk I).e u))
    | _ => false }
  | .iR2 a b, I => { i := fun _ e => match e with
    | .Call (.Name x _) [u, v] [] _ => (x == ("range" : Str)) && (isGl I.sc "range" && (notStar u && (notStar v && ((a.chk I).e u && (b.chk I).e v))))
    | _ => false }
  | .iEn a, I => { i := fun tg e => match tg, e with
    | .Tuple _ _ _, .Call (.Name x _) [u] [] _ => (x == ("enumerate" : Str)) && (isGl I.sc "enumerate" && (notStar u && (a.chk I).e u))
    | _, _ => false }
  | .tv a, I => cT fun e => isVal e && (a.chk I).e e
  | .tcmp o a b, I => cT fun e => match e with
    | .Compare x [p] [y] _ => decide (p = o.ast) && (notSet y && ((a.chk I).e x && (b.chk I).e y))
    | _ => false
  | .tdIn ng a b, I => cT fun e => match e with
    | .Compare x [p] [y] _ => decide (p = if ng then .NotIn else .In) && (notSet y && ((a.chk I).e x && (b.chk I).e y))
    | _ => false
  | .tchain o o' a b c, I => cT fun e => match e with
    | .Compare x [p, p'] [y, z] _ => decide (p = o.ast) && decide (p' = o'.ast) && (notSet z && ((a.chk I).e x && ((b.chk I).e y && (c.chk I).e z)))
    | _ => false
  | .tnot t, I => cT fun e => match e with
    | .UnaryOp .Not x _ => (t.chk I).t x
    | _ => false
  | .tand a b, I =>
    { t := bopF .And (a.chk I).t (b.chk I).wa, ts := one (bopF .And (a.chk I).t (b.chk I).wa), wo := one (bopF .And (a.chk I).t (b.chk I).wa), wa := bopL (bopF .And (a.chk I).t (b.chk I).wa) (a.chk I).t (b.chk I).wa }
  | .tor a b, I =>
    { t := bopF .Or (a.chk I).t (b.chk I).wo, ts := one (bopF .Or (a.chk I).t (b.chk I).wo), wa := one (bopF .Or (a.chk I).t (b.chk I).wo), wo := bopL (bopF .Or (a.chk I).t (b.chk I).wo) (a.chk I).t (b.chk I).wo }
  | .tyes, _ => { ts := fun es => match es with
    | [] => true
    | _ => false }
  | .gN i, I => { g := fun e => match e with
    | .Name x _ => decide (I.N[i]? = some x) && (isLoc I x && (!I.lam || decide (I.sc.names.lookup x = some .local)))
    | _ => false }
  | .gNc _ i, I => { g := fun e => match e with
    | .Name x _ => decide (I.N[i]? = some x) && (isLoc I x && I.lam)
    | _ => false }
  | .gT n a, I => { g := fun e => match e with
    | .Tuple es _ _ => I.calm && decide (es.length = n) && (es.all notStar && (a.chk I).gs es)
    | _ => false }
  | .gs0, _ => { gs := fun es => match es with
    | [] => true
    | _ => false }
  | .gsC a r, I => { gs := fun es => match es with
    | e :: es => notStar e && ((a.chk I).g e && (r.chk I).gs es)
    | _ => false }
  | .gSub _ o i, I => { g := fun e => match e with
    | .Subscript x y _ => notSlice y && ((o.chk I).e x && (i.chk I).e y)
    | _ => false }
  | .lam _ l _, I => cE fun e => match e with
    | .Lambda p b sc _ => I.lam && (I.mkl && (eqP p l.params && (eqE 12 b l.body && (decide (sc = l.scope) && (argK l.params).isSome))))
    | _ => false
  | .clo _ o a, I => cE fun e => match e with
    | .Call (.Name x p) es [] _ => I.calm && es.all notStar && ((o.chk I).e (.Name x p) && ((!es.isEmpty || isNilE a) && (a.chk I).a es))
    | _ => false
  | .stop, _ => cE fun _ => true
  | .isE i _ x _, I => cE fun e => match e with
    | .Call (.Name f _) [.Name y _, .Name z _] [] _ => (f == ("isinstance" : Str)) && (isGl I.sc "isinstance" && ((z == x) && (isGl I.sc x && (decide (I.N[i]? = some y) && (isVis I.sc y && I.exc.isSome)))))
    | _ => false
end GL
set_option Elab.async false
set_option linter.all false
set_option maxRecDepth 100000
set_option maxHeartbeats 8000000
/-! GJ: the small language's expressions are sound. -/
namespace GL
open PySem PySem.Spec PyProof.Rows L2
section
variable (P : Program) (w : World) (K : PySem.W.Frag) (mg : Str → Option Value) (base : Heap) (Γ : Gm) (G0 : GS)
/-- the facts on which it leans -/
def Ex.ok : Ex → Inf → Prop
  | .var _, _ => True
  | .cI _, _ => True
  | .cS _, _ => True
  | .cB _, _ => True
  | .cN, _ => True
  | .gl x d, _ => GlFact K mg x d
  | .cst x d, _ => (x, d) ∈ Γ.C
  | .ty t, _ => BtFact mg t.name
  | .bin _ a b, I => a.ok I ∧ b.ok I
  | .cmp _ a b, I => a.ok I ∧ b.ok I
  | .dIn _ a b, I => a.ok I ∧ b.ok I
  | .chain _ _ a b c, I => a.ok I ∧ b.ok I ∧ c.ok I
  | .and a b, I => a.ok I ∧ b.ok I
  | .or a b, I => a.ok I ∧ b.ok I
  | .not a, I => a.ok I
  | .neg a, I => a.ok I
  | .ite t a b, I => t.ok I ∧ a.ok I ∧ b.ok I
  | .tup a, I => a.ok I
  | .lst a, I => a.ok I
  | .nil, _ => True
  | .cons a r, I => a.ok I ∧ r.ok I
  | .ix a b, I => a.ok I ∧ b.ok I
  | .dget a b, I => a.ok I ∧ b.ok I
  | .sl a lo hi, I => a.ok I ∧ lo.ok I ∧ hi.ok I
  | .rev a, I => a.ok I
  | .noP, _ => True
  | .someP a, I => a.ok I
  | .fld c f o, I => FlFact K mg c f ∧ o.ok I
  | .call e a, I => FnFact P w K mg base Γ e ∧ a.ok I
  | .meth e o a, I => FnFact P w K mg base Γ e ∧ o.ok I ∧ a.ok I
  | .make e a, I => FnFact P w K mg base Γ e ∧ a.ok I
  | .bt b a, I => BtFact mg b.name ∧ a.ok I
  | .mth _ o a, I => o.ok I ∧ a.ok I
  | .get2 o i y, I => o.ok I ∧ i.ok I ∧ y.ok I
  | .dK, _ => True
  | .dT, _ => True
  | .disp a, I => a.ok I
  | .dp0, _ => True
  | .dpC _ v r, I => v.ok I ∧ r.ok I
  | .lc _ it t e, I => it.ok I ∧ ∀ sc, t.ok (blkI I sc) ∧ e.ok (blkI I sc)
  | .lcC g0 _ it t e, I => G0 = g0 ∧ it.ok I ∧ ∀ sc, t.ok (blkI I sc) ∧ e.ok (blkI I sc)
  | .iSeq a, I => a.ok I
  | .iR1 a, I => BtFact mg "range" ∧ a.ok I
  | .iR2 a b, I => BtFact mg "range" ∧ a.ok I ∧ b.ok I
  | .iEn a, I => BtFact mg "enumerate" ∧ a.ok I
  | .tv a, I => a.ok I
  | .tcmp _ a b, I => a.ok I ∧ b.ok I
  | .tdIn _ a b, I => a.ok I ∧ b.ok I
  | .tchain _ _ a b c, I => a.ok I ∧ b.ok I ∧ c.ok I
  | .tnot t, I => t.ok I
  | .tand a b, I => a.ok I ∧ b.ok I
  | .tor a b, I => a.ok I ∧ b.ok I
  | .tyes, _ => True
  | .gN _, _ => True
  | .gNc g0 _, _ => G0 = g0
  | .gT _ a, I => a.ok I
  | .gs0, _ => True
  | .gsC a r, I => a.ok I ∧ r.ok I
  | .gSub _ o i, I => o.ok I ∧ i.ok I
  | .lam k l is, I => LamFact I Γ k l is
  | .stop, _ => True
  | .isE _ a x b, I => BtFact mg "isinstance" ∧ ∀ a' cn, I.exc = some (a', cn) → a' = a ∧ IsEF K mg cn x b
  | .clo cs o a, I => (∀ k e, cs k = some e → ClFact P w K mg base Γ k e ∧ e.lev ≤ I.lev) ∧ o.ok I ∧ a.ok I
end
structure Sound (I : Inf) (F : Fx) (X : Cx) (d : Den) (c : Chk) : Prop where
  e : ∀ x, c.e x = true → PE X x (up F X d.e) := by intro x h; exact nomatch h
  va : ∀ xs pos, c.va xs = true → PE X (.BoolOp .And xs pos) (up F X d.e) := by intro x pos h; exact nomatch h
  vo : ∀ xs pos, c.vo xs = true → PE X (.BoolOp .Or xs pos) (up F X d.e) := by intro x pos h; exact nomatch h
  a : ∀ xs, c.a xs = true → PA X xs (upA F X d.a) := by intro x h; exact nomatch h
  t : ∀ x, c.t x = true → PT X x (upT F X d.t) := by intro x h; exact nomatch h
  wa : ∀ xs pos, c.wa xs = true → PW X (.BoolOp .And xs pos) (upT F X d.t) := by intro x pos h; exact nomatch h
  wo : ∀ xs pos, c.wo xs = true → PW X (.BoolOp .Or xs pos) (upT F X d.t) := by intro x pos h; exact nomatch h
  ts : ∀ xs, c.ts xs = true → PTs X xs (upT F X d.t) := by intro x h; exact nomatch h
  i : ∀ tg x, c.i tg x = true → PI X tg x (upI F X d.i) := by intro tg x h; exact nomatch h
  o : ∀ x, c.o x = true → PO X x (upO F X d.o) := by intro x h; exact nomatch h
  g : ∀ x, c.g x = true → PG X x (upG F X d.g) := by intro x h; exact nomatch h
  gs : ∀ xs, c.gs xs = true → PGs X xs (upGs F X d.gs) := by intro x h; exact nomatch h
  dp : ∀ es vs, c.dp es vs = true → PDs F X d.dk d.dv es vs := by intro x y h; exact nomatch h
section
variable {I : Inf} {F : Fx} {X : Cx}
theorem one_inv {f : Expr → Bool} {xs : List Expr} (h : one f xs = true) : ∃ x, xs = [x] ∧ f x = true := by
  unfold one at h
  split at h
  · exact ⟨_, rfl, h⟩
  · cases h
theorem sE {d : DE} {f : Expr → Bool} (h : ∀ x, f x = true → PE X x (up F X d)) : Sound I F X { e := d } (cE f) where
  e := h
  va := fun xs pos q => by
    obtain ⟨x, rfl, q⟩ := one_inv q
    exact pe_one (h x q)
  vo := fun xs pos q => by
    obtain ⟨x, rfl, q⟩ := one_inv q
    exact pe_one (h x q)
theorem sT {d : DT} {f : Expr → Bool} (h : ∀ x, f x = true → PT X x (upT F X d)) : Sound I F X { t := d } (cT f) where
  t := h
  wa := fun xs pos q => by
    obtain ⟨x, rfl, q⟩ := one_inv q
    exact pw_and1 (h x q)
  wo := fun xs pos q => by
    obtain ⟨x, rfl, q⟩ := one_inv q
    exact pw_or1 (h x q)
  ts := fun xs q => by
    obtain ⟨x, rfl, q⟩ := one_inv q
    exact upTs_one (h x q)
theorem gl_inv {sc : Scope} {x : Str} (h : isGl sc x = true) : sc.names.lookup x = some .globalImplicit ∧ (x == ("__debug__" : Str)) = false := by
  unfold isGl at h
  simp only [Bool.and_eq_true, decide_eq_true_eq, Bool.not_eq_true'] at h
  exact h
theorem vis_inv {sc : Scope} {x : Str} (h : isVis sc x = true) : Vis sc x ∧ (x == ("__debug__" : Str)) = false ∧ (x == ("__classdict__" : Str)) = false := by
  unfold isVis at h
  simp only [Bool.and_eq_true, decide_eq_true_eq, Bool.not_eq_true', Bool.or_eq_true] at h
  obtain ⟨⟨h1, h2⟩, h3⟩ := h
  refine ⟨?_, h2, h3⟩
  rcases h1 with (h1 | h1) | h1
  · exact .inl h1
  · exact .inr (.inl h1)
  · exact .inr (.inr h1)
theorem pe_var_of (g : Good I F X) {i : Nat} {x : Str} {p : Pos} (h1 : I.N[i]? = some x) (h2 : isVis I.sc x = true) : PE X (.Name x p) (up F X (dVar i)) := by
  obtain ⟨v, a, b⟩ := vis_inv h2
  exact up_var (pe_var (by rw [g.N]; exact h1) (by rw [g.sc]; exact v) a b)
theorem loc_inv (g : Good I F X) {x : Str} (h : isLoc I x = true) : Loc X.env.scope x ∧ (X.fn x = true ∨ X.env.scope.names.lookup x = some .local) := by
  unfold isLoc at h
  simp only [Bool.and_eq_true, decide_eq_true_eq, Bool.not_eq_true', Bool.or_eq_true] at h
  rw [g.sc]
  rcases h with h | ⟨h1, h2⟩
  · exact ⟨.inl h, .inr h⟩
  · exact ⟨.inr h2, .inl (g.fn h1 x)⟩
theorem fold_no {iter : Expr} {env : Env} (h : notSet iter = true) : ∀ x, foldedSetIterable iter env x = pure x := by
  intro x
  cases iter <;> first | rfl | cases h
theorem pg_ctn {N : List Str} {sc : Scope} {X : Cx} (hN : X.N = N) (nd : X.N.Nodup) (hs : X.env.scope = sc) {i : Nat} {e : Expr} (h : chkTgN N sc i e = true) : PG X e (gName i) := by
  unfold chkTgN at h
  split at h
  · simp only [Bool.and_eq_true, decide_eq_true_eq] at h
    exact pg_name nd (by rw [hN]; exact h.1) (by rw [hs]; exact .inl h.2) (.inr (by rw [hs]; exact h.2))
  · cases h
theorem chkTgs_star {N : List Str} {sc : Scope} : ∀ {is : List Nat} {es : List Expr}, chkTgs N sc is es = true → es.all notStar = true ∧ es.length = is.length
  | [], [], _ => ⟨rfl, rfl⟩
  | [], _ :: _, h => by cases h
  | _ :: _, [], h => by cases h
  | i :: is, e :: es, h => by
    unfold chkTgs at h
    simp only [Bool.and_eq_true] at h
    obtain ⟨h1, h2⟩ := chkTgs_star h.2
    refine ⟨?_, by simp [h2]⟩
    rw [List.all_cons, h1, Bool.and_true]
    have := h.1
    unfold chkTgN at this
    split at this
    · rfl
    · cases this
theorem pgs_ctn {N : List Str} {sc : Scope} {X : Cx} (hN : X.N = N) (nd : X.N.Nodup) (hs : X.env.scope = sc) : ∀ {is : List Nat} {es : List Expr}, chkTgs N sc is es = true → PGs X es (is.foldr (fun i t => gCons (gName i) t) gNil)
  | [], [], _ => pgs_nil
  | [], _ :: _, h => by cases h
  | _ :: _, [], h => by cases h
  | i :: is, e :: es, h => by
    have st := (chkTgs_star h).1
    unfold chkTgs at h
    simp only [Bool.and_eq_true] at h
    simp only [List.all_cons, Bool.and_eq_true] at st
    exact pgs_cons (pg_ctn hN nd hs h.1) (pgs_ctn hN nd hs h.2) (assign_cons st.1)
theorem pg_ct {N : List Str} {sc : Scope} {X : Cx} (hc : X.calm = true) (hN : X.N = N) (nd : X.N.Nodup) (hs : X.env.scope = sc) {c : CT} {e : Expr} (h : chkCT N sc c e = true) : PG X e (ctG X.K c) := by
  unfold chkCT at h
  split at h
  · exact pg_ctn hN nd hs h
  · rename_i is es k p
    obtain ⟨st, ln⟩ := chkTgs_star h
    exact pg_tup hc (pgs_ctn hN nd hs h) (by rw [assign_len, ln]) (assign_star st)
  · cases h
theorem ctN_slots {N : List Str} {c : CT} : (ctN N c).map (·.2) = c.slots := by
  cases c with
  | one i => rfl
  | tup is =>
    unfold ctN CT.slots
    simp [Function.comp_def]
theorem good_blk (g : Good I F X) {s : Shared} {H : Hp} {scope : Scope} {C : Addr} {cl : List (Str × Addr)} {fp : List Addr} : Good (blkI I scope) F.no (X.blk s H scope (compEnvC scope cl C X.env) fp) := by
  refine ⟨g.N, g.nd, ?_, g.calm, g.un, takes_none5, g.room, rfl, fun z => (by cases z), fun z => (by cases z), fun z => (by cases z), fun z => (by cases z), fun _ _ z => (by cases z), fun z => (by cases z), fun z => (by cases z)⟩
  show relS scope X.env.scope = relS scope I.sc
  rw [g.sc]
theorem upT_chain {op op' : CmpOp} {r r' : R2} {od od' : OpD} {a b c : Expr} {da db dc : DE} {pos : Pos} (ho : OpR X (compareOp op) r) (ro : ROp F X r od) (ho' : OpR X (compareOp op') r') (ro' : ROp F X r' od') (hm : behindInMarks op' c = false) (ha : PE X a (up F X da)) (hb : PE X b (up F X db)) (hc : PE X c (up F X dc)) :
    PT X (.Compare a [op, op'] [b, c] pos) (upT F X (dTst (dChain od od' da db dc))) := PT_imp (pt_chain ho ho' ha hb hc hm) fun σ H Q ⟨ρ, G, Q', E, s, r0, q, k, x⟩ =>
  up_chain ro ro' σ H _ ⟨ρ, G, _, E, s, r0, q, fun d G1 v H1 e1 r1 i1 q1 => by
    obtain ⟨b, e2, _, q2⟩ := dBool_ok i1 q1
    exact ⟨b, e2, k b G1 H1 e1 r1 q2⟩, x⟩
theorem up_lstM (m : Mt) {o e : Expr} {es : List Expr} {od : DE} {a : DA} {apos cpos : Pos} (hb : plainBase o = true) (hl : (apos.endLine == cpos.line) = true) (hs : (e :: es).all notStar = true) (hn : (e :: es).length < 30) (ho : PE X o (up F X od)) (ha : PA X (e :: es) (upA F X a)) :
    PE X (.Call (.Attribute o m.name apos) (e :: es) [] cpos) (up F X (dMthT isLstD m.op od a)) := by
  cases m with
  | append => exact up_mth PySem.F.plainAttrs_list PySem.F.slot_list_append PySem.F.type_list_append mt_append rm_append hb hl hs hn ho ha
  | extend => exact up_mth PySem.F.plainAttrs_list PySem.F.slot_list_extend PySem.F.type_list_extend mt_extend rm_extend hb hl hs hn ho ha
  | count => exact up_mth PySem.F.plainAttrs_list PySem.F.slot_list_count PySem.F.type_list_count mt_countF rm_count hb hl hs hn ho ha
  | index => exact up_mth PySem.F.plainAttrs_list PySem.F.slot_list_index PySem.F.type_list_index mt_index rm_index hb hl hs hn ho ha
  | pop => exact up_mth PySem.F.plainAttrs_list PySem.F.slot_list_pop PySem.F.type_list_pop mt_popAt rm_popAt hb hl hs hn ho ha
theorem bopF_inv {op : BoolOp} {p : Expr → Bool} {q : List Expr → Bool} {x : Expr} (h : bopF op p q x = true) : ∃ a b r pos, x = .BoolOp op (a :: b :: r) pos ∧ p a = true ∧ q (b :: r) = true := by
  unfold bopF at h
  split at h
  · simp only [Bool.and_eq_true, decide_eq_true_eq] at h
    rw [h.1]
    exact ⟨_, _, _, _, rfl, h.2.1, h.2.2⟩
  · cases h
theorem bopL_inv {f p : Expr → Bool} {q : List Expr → Bool} {xs : List Expr} (h : bopL f p q xs = true) : (∃ x, xs = [x] ∧ f x = true) ∨ ∃ a b r, xs = a :: b :: r ∧ p a = true ∧ q (b :: r) = true := by
  unfold bopL at h
  split at h
  · exact .inl ⟨_, rfl, h⟩
  · simp only [Bool.and_eq_true] at h
    exact .inr ⟨_, _, _, rfl, h.1, h.2⟩
  · cases h
theorem nil_inv {il : Ex} {es : List Expr} (h : (!es.isEmpty || isNilE il) = true) : (∃ e r, es = e :: r) ∨ (es = [] ∧ il = .nil) := by
  cases es with
  | cons e r => exact .inl ⟨e, r, rfl⟩
  | nil =>
    have h : isNilE il = true := by simpa using h
    cases il <;> first | exact .inr ⟨rfl, rfl⟩ | cases h
theorem glw_inv {f : FnW} {y : Str} (h : isGlobW f y = true) : f = .glob y := by
  unfold isGlobW at h
  split at h
  · rw [beq_iff_eq.mp h]
  · cases h
theorem mkw_inv {f : FnW} {y : Str} (h : isMakeW f y = true) : f = .make y := by
  unfold isMakeW at h
  split at h
  · rw [beq_iff_eq.mp h]
  · cases h
theorem mtw_inv {f : FnW} {y : Str} (h : isMethW f y = true) : ∃ c, f = .meth c y := by
  unfold isMethW at h
  split at h
  · exact ⟨_, by rw [beq_iff_eq.mp h]⟩
  · cases h
theorem sound (P : Program) (w : World) (K : PySem.W.Frag) (mg : Str → Option Value) (base : Heap) (Γ : Gm) (G0 : GS) : ∀ (il : Ex) (I : Inf) (F : Fx) (X : Cx), X.prog = P → X.w = w → X.K = K → X.mg = mg → X.base = base → F.Γ = Γ → F.g0 = G0 → Good I F X →
    il.ok P w K mg base Γ G0 I → Sound I F X il.den (il.chk I) := by
  intro il
  induction il with
  | var i =>
    intro I F X e1 e2 e3 e4 e5 e6 e7 g k
    refine sE fun x h => ?_
    split at h
    · simp only [Bool.and_eq_true, decide_eq_true_eq] at h
      exact pe_var_of g h.1 h.2
    · cases h
  | cI n =>
    intro I F X e1 e2 e3 e4 e5 e6 e7 g k
    refine sE fun x h => ?_
    split at h
    · rw [of_decide_eq_true h]
      exact up_c pe_int fun H => is_int.mpr rfl
    · cases h
  | cS z =>
    intro I F X e1 e2 e3 e4 e5 e6 e7 g k
    refine sE fun x h => ?_
    split at h
    · rw [beq_iff_eq.mp h]
      exact up_c pe_str fun H => is_str.mpr rfl
    · cases h
  | cB b =>
    intro I F X e1 e2 e3 e4 e5 e6 e7 g k
    refine sE fun x h => ?_
    split at h
    · rw [beq_iff_eq.mp h]
      exact up_c pe_bl fun H => is_bl.mpr rfl
    · cases h
  | cN =>
    intro I F X e1 e2 e3 e4 e5 e6 e7 g k
    refine sE fun x h => ?_
    split at h
    · exact up_c pe_non fun H => is_non.mpr rfl
    · cases h
  | gl y d =>
    intro I F X e1 e2 e3 e4 e5 e6 e7 g k
    subst e3; subst e4
    refine sE fun x h => ?_
    split at h
    · simp only [Bool.and_eq_true, beq_iff_eq] at h
      rw [h.1]
      obtain ⟨a, b⟩ := gl_inv h.2
      exact up_gl g k a b
    · cases h
  | cst y d =>
    intro I F X e1 e2 e3 e4 e5 e6 e7 g k
    subst e6
    refine sE fun x h => ?_
    split at h
    · simp only [Bool.and_eq_true, beq_iff_eq] at h
      rw [h.1]
      obtain ⟨a, b⟩ := gl_inv h.2
      exact up_cst g k a b
    · cases h
  | ty t =>
    intro I F X e1 e2 e3 e4 e5 e6 e7 g k
    subst e4
    refine sE fun x h => ?_
    split at h
    · simp only [Bool.and_eq_true, beq_iff_eq] at h
      rw [h.1]
      exact up_ty g t k (gl_inv h.2).1
    · cases h
  | bin o a b iha ihb =>
    intro I F X e1 e2 e3 e4 e5 e6 e7 g k
    refine sE fun x h => ?_
    split at h
    · simp only [Bool.and_eq_true, decide_eq_true_eq] at h
      rw [h.1]
      obtain ⟨r, h1, h2⟩ := bo_ok (F := F) (X := X) o
      exact PE_imp (pe_op h1 ((iha I F X e1 e2 e3 e4 e5 e6 e7 g k.1).e _ h.2.1) ((ihb I F X e1 e2 e3 e4 e5 e6 e7 g k.2).e _ h.2.2)) (up_bin h2)
    · cases h
  | cmp o a b iha ihb =>
    intro I F X e1 e2 e3 e4 e5 e6 e7 g k
    refine sE fun x h => ?_
    split at h
    · simp only [Bool.and_eq_true, decide_eq_true_eq] at h
      rw [h.1]
      obtain ⟨r, h1, h2⟩ := co_ok g o
      exact PE_imp (pe_cmpR h1 ((iha I F X e1 e2 e3 e4 e5 e6 e7 g k.1).e _ h.2.2.1) ((ihb I F X e1 e2 e3 e4 e5 e6 e7 g k.2).e _ h.2.2.2) (mark_no h.2.1)) (up_bin h2)
    · cases h
  | dIn ng a b iha ihb =>
    intro I F X e1 e2 e3 e4 e5 e6 e7 g k
    refine sE fun x h => ?_
    split at h
    · simp only [Bool.and_eq_true, decide_eq_true_eq] at h
      rw [h.1]
      have ha := (iha I F X e1 e2 e3 e4 e5 e6 e7 g k.1).e _ h.2.2.1
      have hb := (ihb I F X e1 e2 e3 e4 e5 e6 e7 g k.2).e _ h.2.2.2
      cases ng with
      | false => exact pe_cmp (pc_up_din g ha hb) (mark_no h.2.1)
      | true => exact pe_cmp (pc_up_dnotin g ha hb) (mark_no h.2.1)
    · cases h
  | chain o o' a b c iha ihb ihc =>
    intro I F X e1 e2 e3 e4 e5 e6 e7 g k
    refine sE fun x h => ?_
    split at h
    · simp only [Bool.and_eq_true, decide_eq_true_eq] at h
      rw [h.1.1, h.1.2]
      obtain ⟨r, h1, h2⟩ := co_ok g o
      obtain ⟨r', h1', h2'⟩ := co_ok g o'
      exact PE_imp (pe_chain h1 h1' ((iha I F X e1 e2 e3 e4 e5 e6 e7 g k.1).e _ h.2.2.1) ((ihb I F X e1 e2 e3 e4 e5 e6 e7 g k.2.1).e _ h.2.2.2.1) ((ihc I F X e1 e2 e3 e4 e5 e6 e7 g k.2.2).e _ h.2.2.2.2) (mark_no h.2.1)) (up_chain h2 h2')
    · cases h
  | and a b iha ihb =>
    intro I F X e1 e2 e3 e4 e5 e6 e7 g k
    have sa := iha I F X e1 e2 e3 e4 e5 e6 e7 g k.1
    have sb := ihb I F X e1 e2 e3 e4 e5 e6 e7 g k.2
    have f : ∀ x, bopF .And (a.chk I).e (b.chk I).va x = true → PE X x (up F X (dAndV a.den.e b.den.e)) := fun x h => by
      obtain ⟨x, y, r, pos, rfl, h1, h2⟩ := bopF_inv h
      exact PE_imp (pe_and (sa.e _ h1) (sb.va _ pos h2)) up_andV
    refine { e := f, va := fun xs pos h => ?_, vo := fun xs pos h => ?_ }
    · rcases bopL_inv h with ⟨x, rfl, h⟩ | ⟨x, y, r, rfl, h1, h2⟩
      · exact pe_one (f _ h)
      · exact PE_imp (pe_and (sa.e _ h1) (sb.va _ pos h2)) up_andV
    · obtain ⟨x, rfl, h⟩ := one_inv h
      exact pe_one (f _ h)
  | or a b iha ihb =>
    intro I F X e1 e2 e3 e4 e5 e6 e7 g k
    have sa := iha I F X e1 e2 e3 e4 e5 e6 e7 g k.1
    have sb := ihb I F X e1 e2 e3 e4 e5 e6 e7 g k.2
    have f : ∀ x, bopF .Or (a.chk I).e (b.chk I).vo x = true → PE X x (up F X (dOrV a.den.e b.den.e)) := fun x h => by
      obtain ⟨x, y, r, pos, rfl, h1, h2⟩ := bopF_inv h
      exact PE_imp (pe_or (sa.e _ h1) (sb.vo _ pos h2)) up_orV
    refine { e := f, va := fun xs pos h => ?_, vo := fun xs pos h => ?_ }
    · obtain ⟨x, rfl, h⟩ := one_inv h
      exact pe_one (f _ h)
    · rcases bopL_inv h with ⟨x, rfl, h⟩ | ⟨x, y, r, rfl, h1, h2⟩
      · exact pe_one (f _ h)
      · exact PE_imp (pe_or (sa.e _ h1) (sb.vo _ pos h2)) up_orV
  | not a iha =>
    intro I F X e1 e2 e3 e4 e5 e6 e7 g k
    refine sE fun x h => ?_
    split at h
    · exact PE_imp (pe_not ((iha I F X e1 e2 e3 e4 e5 e6 e7 g k).e _ h)) up_notV
    · cases h
  | neg a iha =>
    intro I F X e1 e2 e3 e4 e5 e6 e7 g k
    refine sE fun x h => ?_
    split at h
    · exact up_neg ((iha I F X e1 e2 e3 e4 e5 e6 e7 g k).e _ h)
    · cases h
  | ite t a b iht iha ihb =>
    intro I F X e1 e2 e3 e4 e5 e6 e7 g k
    refine sE fun x h => ?_
    split at h
    · simp only [Bool.and_eq_true] at h
      exact up_ite ((iht I F X e1 e2 e3 e4 e5 e6 e7 g k.1).t _ h.1) ((iha I F X e1 e2 e3 e4 e5 e6 e7 g k.2.1).e _ h.2.1) ((ihb I F X e1 e2 e3 e4 e5 e6 e7 g k.2.2).e _ h.2.2)
    · cases h
  | tup a iha =>
    intro I F X e1 e2 e3 e4 e5 e6 e7 g k
    refine sE fun x h => ?_
    split at h
    · exact up_tup ((iha I F X e1 e2 e3 e4 e5 e6 e7 g k).a _ h)
    · cases h
  | lst a iha =>
    intro I F X e1 e2 e3 e4 e5 e6 e7 g k
    refine sE fun x h => ?_
    split at h
    · exact up_lst ((iha I F X e1 e2 e3 e4 e5 e6 e7 g k).a _ h)
    · cases h
  | nil =>
    intro I F X e1 e2 e3 e4 e5 e6 e7 g k
    refine { a := fun xs h => ?_ }
    have h : (match (generalizing := false) xs with | [] => true | _ => false) = true := h
    split at h
    · exact upa_nil
    · cases h
  | cons a r iha ihr =>
    intro I F X e1 e2 e3 e4 e5 e6 e7 g k
    refine { a := fun xs h => ?_ }
    have h : (match (generalizing := false) xs with | e :: es => notStar e && ((a.chk I).e e && (r.chk I).a es) | _ => false) = true := h
    split at h
    · simp only [Bool.and_eq_true] at h
      exact upa_cons h.1 ((iha I F X e1 e2 e3 e4 e5 e6 e7 g k.1).e _ h.2.1) ((ihr I F X e1 e2 e3 e4 e5 e6 e7 g k.2).a _ h.2.2)
    · cases h
  | ix a b iha ihb =>
    intro I F X e1 e2 e3 e4 e5 e6 e7 g k
    refine sE fun x h => ?_
    split at h
    · simp only [Bool.and_eq_true] at h
      exact up_ix h.1 ((iha I F X e1 e2 e3 e4 e5 e6 e7 g k.1).e _ h.2.1) ((ihb I F X e1 e2 e3 e4 e5 e6 e7 g k.2).e _ h.2.2)
    · cases h
  | dget a b iha ihb =>
    intro I F X e1 e2 e3 e4 e5 e6 e7 g k
    refine sE fun x h => ?_
    split at h
    · simp only [Bool.and_eq_true] at h
      exact up_dget g h.1 ((iha I F X e1 e2 e3 e4 e5 e6 e7 g k.1).e _ h.2.1) ((ihb I F X e1 e2 e3 e4 e5 e6 e7 g k.2).e _ h.2.2)
    · cases h
  | sl a lo hi iha ihl ihh =>
    intro I F X e1 e2 e3 e4 e5 e6 e7 g k
    refine sE fun x h => ?_
    split at h
    · simp only [Bool.and_eq_true] at h
      exact up_sl ((iha I F X e1 e2 e3 e4 e5 e6 e7 g k.1).e _ h.1) ((ihl I F X e1 e2 e3 e4 e5 e6 e7 g k.2.1).o _ h.2.1) ((ihh I F X e1 e2 e3 e4 e5 e6 e7 g k.2.2).o _ h.2.2)
    · cases h
  | rev a iha =>
    intro I F X e1 e2 e3 e4 e5 e6 e7 g k
    refine sE fun x h => ?_
    split at h
    · simp only [Bool.and_eq_true, decide_eq_true_eq] at h
      rw [h.1]
      exact up_rev ((iha I F X e1 e2 e3 e4 e5 e6 e7 g k).e _ h.2)
    · cases h
  | noP =>
    intro I F X e1 e2 e3 e4 e5 e6 e7 g k
    refine { o := fun x h => ?_ }
    have h : (match (generalizing := false) x with | none => true | _ => false) = true := h
    split at h
    · exact upO_none
    · cases h
  | someP a iha =>
    intro I F X e1 e2 e3 e4 e5 e6 e7 g k
    refine { o := fun x h => ?_ }
    have h : (match (generalizing := false) x with | some x => (a.chk I).e x | _ => false) = true := h
    split at h
    · exact upO_some ((iha I F X e1 e2 e3 e4 e5 e6 e7 g k).e _ h)
    · cases h
  | fld c f o iho =>
    intro I F X e1 e2 e3 e4 e5 e6 e7 g k
    have so := iho I F X e1 e2 e3 e4 e5 e6 e7 g k.2
    subst e3; subst e4
    refine sE fun x h => ?_
    split at h
    · simp only [Bool.and_eq_true, beq_iff_eq] at h
      rw [h.1]
      exact up_fld g k.1 h.2.1 (so.e _ h.2.2)
    · cases h
  | call f a iha =>
    intro I F X e1 e2 e3 e4 e5 e6 e7 g k
    have sa := iha I F X e1 e2 e3 e4 e5 e6 e7 g k.2
    subst e1; subst e2; subst e3; subst e4; subst e5; subst e6
    refine sE fun x h => ?_
    split at h
    · simp only [Bool.and_eq_true, decide_eq_true_eq] at h
      obtain ⟨⟨hcm, h1⟩, h2, h3, h4, h5, h6⟩ := h
      have hw := glw_inv h1
      obtain ⟨a1, a2⟩ := gl_inv h2
      rcases nil_inv h5 with ⟨e0, es, rfl⟩ | ⟨rfl, rfl⟩
      · exact up_call g hcm k.1 hw h3 a1 a2 h4 (sa.a _ h6)
      · exact up_call0 g hcm k.1 hw h3 a1 a2
    · cases h
  | meth f o a iho iha =>
    intro I F X e1 e2 e3 e4 e5 e6 e7 g k
    have so := iho I F X e1 e2 e3 e4 e5 e6 e7 g k.2.1
    have sa := iha I F X e1 e2 e3 e4 e5 e6 e7 g k.2.2
    subst e1; subst e2; subst e3; subst e4; subst e5; subst e6
    refine sE fun x h => ?_
    split at h
    · simp only [Bool.and_eq_true, decide_eq_true_eq] at h
      obtain ⟨⟨hcm, h1⟩, h2, h3, h4, h5, h6, h7, h8, h9⟩ := h
      obtain ⟨c, hw⟩ := mtw_inv h1
      show PE X _ (up F X (dMeth (whName f.wh) (whMeth f.wh) f.ar f.sp o.den.e a.den.a))
      rw [hw]
      rcases nil_inv h8 with ⟨e0, es, rfl⟩ | ⟨rfl, rfl⟩
      · exact up_meth g hcm k.1 hw h2 h5 h4 (so.e _ h7) h3 h6 (sa.a _ h9)
      · exact up_meth0 g hcm k.1 hw h2 h5 h4 (so.e _ h7)
    · cases h
  | make f a iha =>
    intro I F X e1 e2 e3 e4 e5 e6 e7 g k
    have sa := iha I F X e1 e2 e3 e4 e5 e6 e7 g k.2
    subst e1; subst e2; subst e3; subst e4; subst e5; subst e6
    refine sE fun x h => ?_
    split at h
    · simp only [Bool.and_eq_true, decide_eq_true_eq] at h
      obtain ⟨⟨hcm, h1⟩, h2, h3, h4, h5, h6⟩ := h
      have hw := mkw_inv h1
      obtain ⟨a1, a2⟩ := gl_inv h2
      show PE X _ (up F X (dMake (whName f.wh) f.ar f.sp a.den.a))
      rw [hw]
      rcases nil_inv h5 with ⟨e0, es, rfl⟩ | ⟨rfl, rfl⟩
      · exact up_make g hcm k.1 hw h3 a1 a2 h4 (sa.a _ h6)
      · exact up_make0 g hcm k.1 hw h3 a1 a2
    · cases h
  | bt b a iha =>
    intro I F X e1 e2 e3 e4 e5 e6 e7 g k
    have sa := iha I F X e1 e2 e3 e4 e5 e6 e7 g k.2
    subst e4
    refine sE fun x h => ?_
    split at h
    · rw [Bool.and_eq_true, Bool.and_eq_true, Bool.and_eq_true, Bool.and_eq_true, beq_iff_eq] at h
      obtain ⟨⟨hcm, h1⟩, h2, h3, h4⟩ := h
      rw [h1]
      exact up_bt g b (by simpa using hcm) k.1 (gl_inv h2).1 h3 (sa.a _ h4)
    · cases h
  | mth m o a iho iha =>
    intro I F X e1 e2 e3 e4 e5 e6 e7 g k
    have so := iho I F X e1 e2 e3 e4 e5 e6 e7 g k.1
    have sa := iha I F X e1 e2 e3 e4 e5 e6 e7 g k.2
    refine sE fun x h => ?_
    split at h
    · simp only [Bool.and_eq_true, beq_iff_eq, decide_eq_true_eq] at h
      obtain ⟨h1, h2, h3, h4, h5, h6, h7⟩ := h
      have h4 : (_ == _) = true := beq_iff_eq.mpr h4
      rw [h1]
      exact up_lstM m h3 h4 h2 h5 (so.e _ h6) (sa.a _ h7)
    · cases h
  | get2 o i y iho ihi ihy =>
    intro I F X e1 e2 e3 e4 e5 e6 e7 g k
    have so := iho I F X e1 e2 e3 e4 e5 e6 e7 g k.1
    have si := ihi I F X e1 e2 e3 e4 e5 e6 e7 g k.2.1
    have sy := ihy I F X e1 e2 e3 e4 e5 e6 e7 g k.2.2
    refine sE fun x h => ?_
    split at h
    · simp only [Bool.and_eq_true, beq_iff_eq] at h
      obtain ⟨h1, h2, h3, h4, h5, h6, h7, h8⟩ := h
      have h5 : (_ == _) = true := beq_iff_eq.mpr h5
      rw [h1]
      exact up_dget2 g h4 h5 h2 h3 (so.e _ h6) (si.e _ h7) (sy.e _ h8)
    · cases h
  | dK =>
    intro I F X e1 e2 e3 e4 e5 e6 e7 g k
    refine sE fun x h => ?_
    split at h
    · exact up_newK
    · cases h
  | dT =>
    intro I F X e1 e2 e3 e4 e5 e6 e7 g k
    refine sE fun x h => ?_
    split at h
    · exact up_newT
    · cases h
  | disp a iha =>
    intro I F X e1 e2 e3 e4 e5 e6 e7 g k
    refine sE fun x h => ?_
    split at h
    · simp only [Bool.and_eq_true, decide_eq_true_eq, Bool.not_eq_true'] at h
      exact up_disp ((iha I F X e1 e2 e3 e4 e5 e6 e7 g k).dp _ _ h.2.2) (fun z => by rw [z] at h; exact nomatch h.1) h.2.1
    · cases h
  | dp0 =>
    intro I F X e1 e2 e3 e4 e5 e6 e7 g k
    refine { dp := fun ks vs h => ?_ }
    have h : (match (generalizing := false) ks, vs with | [], [] => true | _, _ => false) = true := h
    split at h
    · exact pds_nil
    · cases h
  | dpC z v r ihv ihr =>
    intro I F X e1 e2 e3 e4 e5 e6 e7 g k
    refine { dp := fun ks vs h => ?_ }
    have h : (match (generalizing := false) ks, vs with | some (.Constant (.str y) _ _) :: ks, e :: vs => (y == z) && ((v.chk I).e e && (r.chk I).dp ks vs) | _, _ => false) = true := h
    split at h
    · simp only [Bool.and_eq_true, beq_iff_eq] at h
      rw [h.1]
      exact pds_cons ((ihv I F X e1 e2 e3 e4 e5 e6 e7 g k.1).e _ h.2.1) ((ihr I F X e1 e2 e3 e4 e5 e6 e7 g k.2).dp _ _ h.2.2)
    · cases h
  | lc c it t e ihi iht ihe =>
    intro I F X e1 e2 e3 e4 e5 e6 e7 g k
    refine sE fun x h => ?_
    split at h
    · rename_i elt tg iter ifs scope pos
      simp only [Bool.and_eq_true, Bool.not_eq_true'] at h
      obtain ⟨⟨hcm, h1⟩, h2, h3, h4, h5, h6, h7⟩ := h
      have hb : BlkOk X.N X.env.scope scope (ctN I.N c) := by
        rw [g.N, g.sc]
        exact blkOk_by h3
      have hi := (ihi I F X e1 e2 e3 e4 e5 e6 e7 g k.1).i _ _ h5
      have q := pe_lc (pos := pos) (elt := elt) (wi := upI F X it.den.i) (g := ctG X.K c) (tt := upT F.no X t.den.t) (te := up F.no X e.den.e) (g.calm hcm) g.nd hi hb
        (fun s H C cl fp => pg_ct (N := I.N) (sc := relS scope I.sc) (X := X.blk s H scope (compEnvC scope cl C X.env) fp) (g.calm hcm) g.N g.nd (by show relS scope X.env.scope = _; rw [g.sc]) h4)
        (fun s H C cl fp => (iht (blkI I scope) F.no (X.blk s H scope (compEnvC scope cl C X.env) fp) e1 e2 e3 e4 e5 e6 e7 (good_blk g) (k.2 scope).1).ts _ h6)
        (fun s H C cl fp => (ihe (blkI I scope) F.no (X.blk s H scope (compEnvC scope cl C X.env) fp) e1 e2 e3 e4 e5 e6 e7 (good_blk g) (k.2 scope).2).e _ h7)
        (fold_no h2)
      rw [ctN_slots] at q
      exact PE_imp q (lc_up g h1 _ _ _ _)
    · cases h
  | lcC g0 c it t e ihi iht ihe =>
    intro I F X e1 e2 e3 e4 e5 e6 e7 g k
    refine sE fun x h => ?_
    split at h
    · rename_i elt tg iter ifs scope pos
      simp only [Bool.and_eq_true] at h
      obtain ⟨⟨hcm, h1⟩, h2, h3, h4, h5, h6, h7⟩ := h
      have hb : BlkOk X.N X.env.scope scope (ctN I.N c) := by
        rw [g.N, g.sc]
        exact blkOk_by h3
      have hi := (ihi I F X e1 e2 e3 e4 e5 e6 e7 g k.2.1).i _ _ h5
      have q := pe_lc (pos := pos) (elt := elt) (wi := upI F X it.den.i) (g := ctG X.K c) (tt := upT F.no X t.den.t) (te := up F.no X e.den.e) (g.calm hcm) g.nd hi hb
        (fun s H C cl fp => pg_ct (N := I.N) (sc := relS scope I.sc) (X := X.blk s H scope (compEnvC scope cl C X.env) fp) (g.calm hcm) g.N g.nd (by show relS scope X.env.scope = _; rw [g.sc]) h4)
        (fun s H C cl fp => (iht (blkI I scope) F.no (X.blk s H scope (compEnvC scope cl C X.env) fp) e1 e2 e3 e4 e5 e6 e7 (good_blk g) (k.2.2 scope).1).ts _ h6)
        (fun s H C cl fp => (ihe (blkI I scope) F.no (X.blk s H scope (compEnvC scope cl C X.env) fp) e1 e2 e3 e4 e5 e6 e7 (good_blk g) (k.2.2 scope).2).e _ h7)
        (fold_no h2)
      rw [ctN_slots] at q
      have z := k.1
      rw [← e7] at z
      subst z
      exact PE_imp q (lc_upC g h1 _ _ _ _)
    · cases h
  | iSeq a iha =>
    intro I F X e1 e2 e3 e4 e5 e6 e7 g k
    exact { i := fun tg x h => upi_seq ((iha I F X e1 e2 e3 e4 e5 e6 e7 g k).e _ h) }
  | iR1 a iha =>
    intro I F X e1 e2 e3 e4 e5 e6 e7 g k
    have sa := iha I F X e1 e2 e3 e4 e5 e6 e7 g k.2
    subst e4
    refine { i := fun tg x h => ?_ }
    have h : (match (generalizing := false) x with | .Call (.Name x _) [u] [] _ => (x == ("range" : Str)) && (isGl I.sc "range" && (notStar u && (a.chk I).e u)) | _ => false) = true := h
    split at h
    · simp only [Bool.and_eq_true, beq_iff_eq] at h
      obtain ⟨h1, h2, h3, h4⟩ := h
      rw [h1]
      exact upi_rng1 (gl_of g (gl_inv h2).1) k.1.h h3 (sa.e _ h4)
    · cases h
  | iR2 a b iha ihb =>
    intro I F X e1 e2 e3 e4 e5 e6 e7 g k
    have sa := iha I F X e1 e2 e3 e4 e5 e6 e7 g k.2.1
    have sb := ihb I F X e1 e2 e3 e4 e5 e6 e7 g k.2.2
    subst e4
    refine { i := fun tg x h => ?_ }
    have h : (match (generalizing := false) x with | .Call (.Name x _) [u, v] [] _ => (x == ("range" : Str)) && (isGl I.sc "range" && (notStar u && (notStar v && ((a.chk I).e u && (b.chk I).e v)))) | _ => false) = true := h
    split at h
    · simp only [Bool.and_eq_true, beq_iff_eq] at h
      obtain ⟨h1, h2, h3, h4, h5, h6⟩ := h
      rw [h1]
      exact upi_rng2 (gl_of g (gl_inv h2).1) k.1.h h3 h4 (sa.e _ h5) (sb.e _ h6)
    · cases h
  | iEn a iha =>
    intro I F X e1 e2 e3 e4 e5 e6 e7 g k
    have sa := iha I F X e1 e2 e3 e4 e5 e6 e7 g k.2
    subst e4
    refine { i := fun tg x h => ?_ }
    have h : (match (generalizing := false) tg, x with | .Tuple _ _ _, .Call (.Name x _) [u] [] _ => (x == ("enumerate" : Str)) && (isGl I.sc "enumerate" && (notStar u && (a.chk I).e u)) | _, _ => false) = true := h
    split at h
    · simp only [Bool.and_eq_true, beq_iff_eq] at h
      obtain ⟨h1, h2, h3, h4⟩ := h
      rw [h1]
      exact upi_enum (gl_of g (gl_inv h2).1) k.1.h h3 (sa.e _ h4)
    · cases h
  | tv a iha =>
    intro I F X e1 e2 e3 e4 e5 e6 e7 g k
    refine sT fun x h => ?_
    simp only [Bool.and_eq_true] at h
    exact upT_val h.1 ((iha I F X e1 e2 e3 e4 e5 e6 e7 g k).e _ h.2)
  | tcmp o a b iha ihb =>
    intro I F X e1 e2 e3 e4 e5 e6 e7 g k
    refine sT fun x h => ?_
    split at h
    · simp only [Bool.and_eq_true, decide_eq_true_eq] at h
      rw [h.1]
      obtain ⟨r, h1, h2⟩ := co_ok g o
      exact upT_cmp h1 h2 (mark_no h.2.1) ((iha I F X e1 e2 e3 e4 e5 e6 e7 g k.1).e _ h.2.2.1) ((ihb I F X e1 e2 e3 e4 e5 e6 e7 g k.2).e _ h.2.2.2)
    · cases h
  | tdIn ng a b iha ihb =>
    intro I F X e1 e2 e3 e4 e5 e6 e7 g k
    refine sT fun x h => ?_
    split at h
    · simp only [Bool.and_eq_true, decide_eq_true_eq] at h
      rw [h.1]
      have ha := (iha I F X e1 e2 e3 e4 e5 e6 e7 g k.1).e _ h.2.2.1
      have hb := (ihb I F X e1 e2 e3 e4 e5 e6 e7 g k.2).e _ h.2.2.2
      cases ng with
      | false => exact upT_pc (pc_up_din g ha hb) (mark_no h.2.1)
      | true => exact upT_pc (pc_up_dnotin g ha hb) (mark_no h.2.1)
    · cases h
  | tchain o o' a b c iha ihb ihc =>
    intro I F X e1 e2 e3 e4 e5 e6 e7 g k
    refine sT fun x h => ?_
    split at h
    · simp only [Bool.and_eq_true, decide_eq_true_eq] at h
      rw [h.1.1, h.1.2]
      obtain ⟨r, h1, h2⟩ := co_ok g o
      obtain ⟨r', h1', h2'⟩ := co_ok g o'
      exact upT_chain h1 h2 h1' h2' (mark_no h.2.1) ((iha I F X e1 e2 e3 e4 e5 e6 e7 g k.1).e _ h.2.2.1) ((ihb I F X e1 e2 e3 e4 e5 e6 e7 g k.2.1).e _ h.2.2.2.1) ((ihc I F X e1 e2 e3 e4 e5 e6 e7 g k.2.2).e _ h.2.2.2.2)
    · cases h
  | tnot t iht =>
    intro I F X e1 e2 e3 e4 e5 e6 e7 g k
    refine sT fun x h => ?_
    split at h
    · exact upT_not ((iht I F X e1 e2 e3 e4 e5 e6 e7 g k).t _ h)
    · cases h
  | tand a b iha ihb =>
    intro I F X e1 e2 e3 e4 e5 e6 e7 g k
    have sa := iha I F X e1 e2 e3 e4 e5 e6 e7 g k.1
    have sb := ihb I F X e1 e2 e3 e4 e5 e6 e7 g k.2
    have m : ∀ x y r pos, (a.chk I).t x = true → (b.chk I).wa (y :: r) = true → PW X (.BoolOp .And (x :: y :: r) pos) (upT F X (dAndT a.den.t b.den.t)) := fun x y r pos h1 h2 => PW_imp (pw_and (sa.t _ h1) (sb.wa _ pos h2)) upT_and
    have f : ∀ x, bopF .And (a.chk I).t (b.chk I).wa x = true → PT X x (upT F X (dAndT a.den.t b.den.t)) := fun x h => by
      obtain ⟨x, y, r, pos, rfl, h1, h2⟩ := bopF_inv h
      exact (m _ _ _ _ h1 h2).pt
    refine { t := f, wa := fun xs pos h => ?_, wo := fun xs pos h => ?_, ts := fun xs h => ?_ }
    · rcases bopL_inv h with ⟨x, rfl, h⟩ | ⟨x, y, r, rfl, h1, h2⟩
      · exact pw_and1 (f _ h)
      · exact m _ _ _ _ h1 h2
    · obtain ⟨x, rfl, h⟩ := one_inv h
      exact pw_or1 (f _ h)
    · obtain ⟨x, rfl, h⟩ := one_inv h
      exact upTs_one (f _ h)
  | tor a b iha ihb =>
    intro I F X e1 e2 e3 e4 e5 e6 e7 g k
    have sa := iha I F X e1 e2 e3 e4 e5 e6 e7 g k.1
    have sb := ihb I F X e1 e2 e3 e4 e5 e6 e7 g k.2
    have m : ∀ x y r pos, (a.chk I).t x = true → (b.chk I).wo (y :: r) = true → PW X (.BoolOp .Or (x :: y :: r) pos) (upT F X (dOrT a.den.t b.den.t)) := fun x y r pos h1 h2 => PW_imp (pw_or (sa.t _ h1) (sb.wo _ pos h2)) upT_or
    have f : ∀ x, bopF .Or (a.chk I).t (b.chk I).wo x = true → PT X x (upT F X (dOrT a.den.t b.den.t)) := fun x h => by
      obtain ⟨x, y, r, pos, rfl, h1, h2⟩ := bopF_inv h
      exact (m _ _ _ _ h1 h2).pt
    refine { t := f, wa := fun xs pos h => ?_, wo := fun xs pos h => ?_, ts := fun xs h => ?_ }
    · obtain ⟨x, rfl, h⟩ := one_inv h
      exact pw_and1 (f _ h)
    · rcases bopL_inv h with ⟨x, rfl, h⟩ | ⟨x, y, r, rfl, h1, h2⟩
      · exact pw_or1 (f _ h)
      · exact m _ _ _ _ h1 h2
    · obtain ⟨x, rfl, h⟩ := one_inv h
      exact upTs_one (f _ h)
  | tyes =>
    intro I F X e1 e2 e3 e4 e5 e6 e7 g k
    refine { ts := fun xs h => ?_ }
    have h : (match (generalizing := false) xs with | [] => true | _ => false) = true := h
    split at h
    · exact upTs_nil
    · cases h
  | gN i =>
    intro I F X e1 e2 e3 e4 e5 e6 e7 g k
    refine { g := fun x h => ?_ }
    have h : (match (generalizing := false) x with | .Name x _ => decide (I.N[i]? = some x) && (isLoc I x && (!I.lam || decide (I.sc.names.lookup x = some .local))) | _ => false) = true := h
    split at h
    · rename_i y p
      rw [Bool.and_eq_true, Bool.and_eq_true] at h
      obtain ⟨h1, h2, h3⟩ := h
      have h1 := of_decide_eq_true h1
      obtain ⟨a1, a2⟩ := loc_inv g h2
      exact upg_name g h1 h3 (pg_name g.nd (by rw [g.N]; exact h1) a1 a2)
    · cases h
  | gNc g0 i =>
    intro I F X e1 e2 e3 e4 e5 e6 e7 g k
    refine { g := fun x h => ?_ }
    have h : (match (generalizing := false) x with | .Name x _ => decide (I.N[i]? = some x) && (isLoc I x && I.lam) | _ => false) = true := h
    split at h
    · rw [Bool.and_eq_true, Bool.and_eq_true] at h
      obtain ⟨h1, h2, h3⟩ := h
      have h1 := of_decide_eq_true h1
      obtain ⟨a1, a2⟩ := loc_inv g h2
      have z : G0 = g0 := k
      rw [← e7] at z
      subst z
      exact upg_nameC g h3 (pg_name g.nd (by rw [g.N]; exact h1) a1 a2)
    · cases h
  | gT n a iha =>
    intro I F X e1 e2 e3 e4 e5 e6 e7 g k
    refine { g := fun x h => ?_ }
    have h : (match (generalizing := false) x with | .Tuple es _ _ => I.calm && decide (es.length = n) && (es.all notStar && (a.chk I).gs es) | _ => false) = true := h
    split at h
    · simp only [Bool.and_eq_true, decide_eq_true_eq] at h
      rw [← h.1.2]
      exact upg_tup g h.1.1 h.2.1 ((iha I F X e1 e2 e3 e4 e5 e6 e7 g k).gs _ h.2.2)
    · cases h
  | gs0 =>
    intro I F X e1 e2 e3 e4 e5 e6 e7 g k
    refine { gs := fun xs h => ?_ }
    have h : (match (generalizing := false) xs with | [] => true | _ => false) = true := h
    split at h
    · exact upgs_nil
    · cases h
  | gsC a r iha ihr =>
    intro I F X e1 e2 e3 e4 e5 e6 e7 g k
    refine { gs := fun xs h => ?_ }
    have h : (match (generalizing := false) xs with | e :: es => notStar e && ((a.chk I).g e && (r.chk I).gs es) | _ => false) = true := h
    split at h
    · simp only [Bool.and_eq_true] at h
      exact upgs_cons h.1 ((iha I F X e1 e2 e3 e4 e5 e6 e7 g k.1).g _ h.2.1) ((ihr I F X e1 e2 e3 e4 e5 e6 e7 g k.2).gs _ h.2.2)
    · cases h
  | gSub q o i iho ihi =>
    intro I F X e1 e2 e3 e4 e5 e6 e7 g k
    refine { g := fun x h => ?_ }
    have h : (match (generalizing := false) x with | .Subscript x y _ => notSlice y && ((o.chk I).e x && (i.chk I).e y) | _ => false) = true := h
    split at h
    · simp only [Bool.and_eq_true] at h
      obtain ⟨h1, h2, h3⟩ := h
      have so := (iho I F X e1 e2 e3 e4 e5 e6 e7 g k.1).e _ h2
      have si := (ihi I F X e1 e2 e3 e4 e5 e6 e7 g k.2).e _ h3
      cases q with
      | lst => exact upg_sub h1 set_list rs_list so si
      | dct => exact upg_sub h1 (set_dict (hu1 g)) rs_dict so si
    · cases h
  | lam q l is =>
    intro I F X e1 e2 e3 e4 e5 e6 e7 g k
    subst e6
    refine sE fun x h => ?_
    split at h
    · simp only [Bool.and_eq_true, decide_eq_true_eq] at h
      obtain ⟨h1, h2, h3, h4, h5, h6⟩ := h
      rw [eqP_eq h3, eqE_eq 12 _ _ h4, h5]
      obtain ⟨ak, ha⟩ := Option.isSome_iff_exists.mp h6
      exact up_lam g h1 h2 k ha
    · cases h
  | clo cs o a iho iha =>
    intro I F X e1 e2 e3 e4 e5 e6 e7 g k
    have so := iho I F X e1 e2 e3 e4 e5 e6 e7 g k.2.1
    have sa := iha I F X e1 e2 e3 e4 e5 e6 e7 g k.2.2
    subst e1; subst e2; subst e3; subst e4; subst e5; subst e6
    refine sE fun x h => ?_
    split at h
    · simp only [Bool.and_eq_true] at h
      obtain ⟨⟨hcm, h1⟩, h2, h3, h4⟩ := h
      rcases nil_inv h3 with ⟨e0, es, rfl⟩ | ⟨rfl, rfl⟩
      · exact up_clo g hcm k.1 h1 (so.e _ h2) (sa.a _ h4)
      · exact up_clo0 g hcm k.1 (so.e _ h2)
    · cases h
  | stop =>
    intro I F X e1 e2 e3 e4 e5 e6 e7 g k
    exact sE fun x h => ⟨fun pins s σ H Q Iv ⟨ρ, G, Q', E, sr, r, q, kk, xx⟩ => q.elim⟩
  | isE i a x b =>
    intro I F X e1 e2 e3 e4 e5 e6 e7 g k
    subst e3; subst e4
    refine sE fun e h => ?_
    split at h
    · rename_i f p y p1 z p2 pos
      simp only [Bool.and_eq_true, beq_iff_eq, decide_eq_true_eq] at h
      obtain ⟨h1, h2, h3, h4, h5, h6, h7⟩ := h
      rw [h1, h3]
      cases hx : I.exc with
      | none => rw [hx] at h7; cases h7
      | some q =>
        obtain ⟨b', cn⟩ := q
        rw [hx] at h7
        obtain ⟨ea, kf⟩ := k.2 _ _ hx
        subst ea
        obtain ⟨v1, v2, v3⟩ := vis_inv h6
        exact up_isE g hx kf k.1 (gl_inv h2).1 h5 v1 v2 v3 (gl_inv h4).1 (gl_inv h4).2
    · cases h
end
end GL
set_option Elab.async false
set_option linter.all false
set_option maxRecDepth 100000
set_option maxHeartbeats 8000000
/-! GS: the small language: statements. -/
namespace GL
open PySem PySem.Spec PyProof.Rows L2
section
variable {I : Inf} {F : Fx} {X : Cx}
/-! ### a, b = x, y of plain names -/
def sPar (is : List Nat) (a : DA) : DS := fun D E ρ G => a ρ G (fun ds G1 => match setAll is ds ρ with
  | some ρ1 => D.nx ρ1 G1
  | none => False) E
def locN (I : Inf) (i : Nat) (x : Str) : Bool := decide (I.N[i]? = some x) && decide (I.sc.names.lookup x = some .local)
def parV (sc : Scope) (vs : List Expr) : Bool := decide (sc.kind = .function) && (vs.all notStar && (!(vs.all (foldedForSure 8)) && !(vs.all (constantsAlone 8))))
theorem star_none {vs : List Expr} (h : vs.all notStar = true) : (vs.any fun | .Starred .. => true | _ => false) = false := by
  induction vs with
  | nil => rfl
  | cons v r ih =>
    simp only [List.all_cons, Bool.and_eq_true] at h
    rw [List.any_cons, ih h.2, Bool.or_false]
    cases v <;> first | rfl | exact absurd h.1 (by simp [notStar])
theorem kind_of {env : Env} {x : Str} {k : NameKind} (h : env.scope.names.lookup x = some k) : env.kindOf x = some k := h
theorem swap2 {env : Env} {x y : Str} {px py pt pt2 : Pos} {kt k2 : Nat} {a b : Expr} (hp : parV env.scope [a, b] = true) (hx : env.scope.names.lookup x = some .local) (hy : env.scope.names.lookup y = some .local) (hxy : x ≠ y) (hl : py.line = px.line) :
    swappedStores [.Tuple [.Name x px, .Name y py] kt pt] (.Tuple [a, b] k2 pt2) env = pure (some [x, y]) := by
  unfold parV at hp
  simp only [Bool.and_eq_true, decide_eq_true_eq, Bool.not_eq_true'] at hp
  obtain ⟨h1, h2, h3, h4⟩ := hp
  have hb : env.blockKind = .function := by
    unfold Env.blockKind
    rw [h1]
    rfl
  have hs := star_none h2
  unfold swappedStores
  have kx : env.kindOf x = some .local := hx
  have ky : env.kindOf y = some .local := hy
  have e1 : (py.line == px.line) = true := by rw [hl]; simp
  have e2 : ([x, y] : List Str).eraseDups.length = 2 := by
    simp [List.eraseDups_cons, hxy, Ne.symm hxy]
  simp only [hb, hs, h3, h4]
  simp [kx, ky, Expr.pos, hl, e2]
  simp only [List.any_cons, List.any_nil, Bool.or_false, Bool.or_eq_false_iff] at hs
  intro z
  rcases z with z | z
  · exact Bool.noConfusion (hs.1.symm.trans z)
  · exact Bool.noConfusion (hs.2.symm.trans z)
theorem ups_par2 (g : Good I F X) (hcm : I.calm = true) {i j : Nat} {x y : Str} {a b : Expr} {px py pt pt2 pos : Pos} {kt k2 : Nat} {d : DA} (hi : locN I i x = true) (hj : locN I j y = true) (hij : i ≠ j) (hp : parV I.sc [a, b] = true) (hl : py.line = px.line) (ha : PA X [a, b] (upA F X d)) :
    PS X (.Assign [.Tuple [.Name x px, .Name y py] kt pt] (.Tuple [a, b] k2 pt2) pos) (upS F X (sPar [i, j] d)) := by
  unfold locN at hi hj
  simp only [Bool.and_eq_true, decide_eq_true_eq] at hi hj
  have hxy : x ≠ y := fun z => hij (nodup_ix (by rw [← g.N]; exact g.nd) hi.1 (by rw [z]; exact hj.1))
  refine PS_imp (ps_par (i := i) (j := j) (g.calm hcm) g.nd (by rw [g.N]; exact hi.1) (by rw [g.N]; exact hj.1) hij (by rw [g.sc]; exact hi.2) (by rw [g.sc]; exact hj.2) ha (swap2 (by rw [g.sc]; exact hp) (by rw [g.sc]; exact hi.2) (by rw [g.sc]; exact hj.2) hxy hl) rfl) fun D σ H ⟨ρ, G, D', E, s, r, q, k, xx⟩ => ?_
  refine ⟨ρ, G, _, E, s, r, q, fun ds G1 vs H1 e1 r1 i1 q1 => ?_, xx.at⟩
  match ds, i1, q1 with
  | [d1, d2], i1, q1 =>
    obtain ⟨v, r', rfl, a1, a2⟩ := isL_cons.mp i1
    obtain ⟨w, r'', rfl, b1, b2⟩ := isL_cons.mp a2
    rw [isL_nil.mp b2]
    exact ⟨v, w, rfl, k.nx _ G1 _ H1 e1 (((s.ext e1).set a1).set b1) (HR.slot g hj.1 (by simp [hj.2]) (HR.slot g hi.1 (by simp [hi.2]) r1)) q1⟩
  | [], _, q1 => exact q1.elim
  | [_], _, q1 => exact q1.elim
  | _ :: _ :: _ :: _, _, q1 => exact q1.elim
theorem swap3 {env : Env} {x y t : Str} {px py pz pt pt2 : Pos} {kt k2 : Nat} {a b c : Expr} (hp : parV env.scope [a, b, c] = true) (hx : env.scope.names.lookup x = some .local) (hy : env.scope.names.lookup y = some .local) (hz : env.scope.names.lookup t = some .local) (hxy : x ≠ y) (hxz : x ≠ t) (hyz : y ≠ t)
    (hl : py.line = px.line) (hl2 : pz.line = px.line) :
    swappedStores [.Tuple [.Name x px, .Name y py, .Name t pz] kt pt] (.Tuple [a, b, c] k2 pt2) env = pure (some [x, y, t]) := by
  unfold parV at hp
  simp only [Bool.and_eq_true, decide_eq_true_eq, Bool.not_eq_true'] at hp
  obtain ⟨h1, h2, h3, h4⟩ := hp
  have hb : env.blockKind = .function := by
    unfold Env.blockKind
    rw [h1]
    rfl
  have hs := star_none h2
  unfold swappedStores
  have kx : env.kindOf x = some .local := hx
  have ky : env.kindOf y = some .local := hy
  have kz : env.kindOf t = some .local := hz
  have e2 : ([x, y, t] : List Str).eraseDups.length = 3 := by
    simp [List.eraseDups_cons, hxy, Ne.symm hxy, hxz, Ne.symm hxz, hyz, Ne.symm hyz]
  simp only [hb, hs, h3, h4]
  simp [kx, ky, kz, Expr.pos, hl, hl2, e2]
  simp only [List.any_cons, List.any_nil, Bool.or_false, Bool.or_eq_false_iff] at hs
  intro z
  rcases z with z | z | z
  · exact Bool.noConfusion (hs.1.symm.trans z)
  · exact Bool.noConfusion (hs.2.1.symm.trans z)
  · exact Bool.noConfusion (hs.2.2.symm.trans z)
theorem ups_par3 (g : Good I F X) (hcm : I.calm = true) {i j l : Nat} {x y t : Str} {a b c : Expr} {px py pz pt pt2 pos : Pos} {kt k2 : Nat} {d : DA} (hi : locN I i x = true) (hj : locN I j y = true) (hk : locN I l t = true) (hij : i ≠ j) (hik : i ≠ l) (hjk : j ≠ l) (hp : parV I.sc [a, b, c] = true) (hl : py.line = px.line) (hl2 : pz.line = px.line) (ha : PA X [a, b, c] (upA F X d)) :
    PS X (.Assign [.Tuple [.Name x px, .Name y py, .Name t pz] kt pt] (.Tuple [a, b, c] k2 pt2) pos) (upS F X (sPar [i, j, l] d)) := by
  unfold locN at hi hj hk
  simp only [Bool.and_eq_true, decide_eq_true_eq] at hi hj hk
  have nd : I.N.Nodup := by rw [← g.N]; exact g.nd
  have hxy : x ≠ y := fun z => hij (nodup_ix nd hi.1 (by rw [z]; exact hj.1))
  have hxz : x ≠ t := fun z => hik (nodup_ix nd hi.1 (by rw [z]; exact hk.1))
  have hyz : y ≠ t := fun z => hjk (nodup_ix nd hj.1 (by rw [z]; exact hk.1))
  refine PS_imp (ps_par3 (i := i) (j := j) (l := l) (g.calm hcm) g.nd (by rw [g.N]; exact hi.1) (by rw [g.N]; exact hj.1) (by rw [g.N]; exact hk.1) hij hik hjk (by rw [g.sc]; exact hi.2) (by rw [g.sc]; exact hj.2) (by rw [g.sc]; exact hk.2) ha
    (swap3 (by rw [g.sc]; exact hp) (by rw [g.sc]; exact hi.2) (by rw [g.sc]; exact hj.2) (by rw [g.sc]; exact hk.2) hxy hxz hyz hl hl2) rfl) fun D σ H ⟨ρ, G, D', E, s, r, q, k, xx⟩ => ?_
  refine ⟨ρ, G, _, E, s, r, q, fun ds G1 vs H1 e1 r1 i1 q1 => ?_, xx.at⟩
  match ds, i1, q1 with
  | [d1, d2, d3], i1, q1 =>
    obtain ⟨v, r', rfl, a1, a2⟩ := isL_cons.mp i1
    obtain ⟨w, r'', rfl, b1, b2⟩ := isL_cons.mp a2
    obtain ⟨u, r3, rfl, c1, c2⟩ := isL_cons.mp b2
    rw [isL_nil.mp c2]
    exact ⟨v, w, u, rfl, k.nx _ G1 _ H1 e1 ((((s.ext e1).set a1).set b1).set c1) (HR.slot g hk.1 (by simp [hk.2]) (HR.slot g hj.1 (by simp [hj.2]) (HR.slot g hi.1 (by simp [hi.2]) r1))) q1⟩
  | [], _, q1 => exact q1.elim
  | [_], _, q1 => exact q1.elim
  | [_, _], _, q1 => exact q1.elim
  | _ :: _ :: _ :: _ :: _, _, q1 => exact q1.elim

/-! ### a comprehension assigned -/
theorem beq_dec {α : Type} [BEq α] [LawfulBEq α] [DecidableEq α] (a b : α) : (a == b) = decide (a = b) := by
  by_cases h : a = b <;> simp [h]
def swB (sc : Scope) : Expr → Expr → Option Bool
  | .ListComp _ _ s p, .Name t q => some (decide (sc.kind = .function) && (decide (sc.names.lookup t = some .local) && (decide (q.line = p.line) && !(s.names.any fun (n, k) => n == t && (k == .local || k == .cell)))))
  | .ListComp _ _ _ _, _ => some false
  | e, _ => if noComp e = true then some false else none
theorem swB_ok {env : Env} {v t : Expr} {l : Nat} {b : Bool} (hk : env.scope.kind = .function) (h : swB env.scope v t = some b) : swapsWith v (some t) l env = pure b := by
  have hb : env.blockKind = .function := by
    unfold Env.blockKind
    rw [hk]
    rfl
  unfold swB at h
  split at h
  · rename_i elt gens s p t q
    cases h
    show (pure (env.blockKind == .function && env.kindOf t == some .local && q.line == p.line && !(s.names.any fun (n, k) => n == t && (k == .local || k == .cell))) : Sem Bool) = _
    congr 1
    rw [hb, hk]
    show _ = (decide (ScopeKind.function = ScopeKind.function) && (decide (env.kindOf t = some .local) && (decide (q.line = p.line) && _)))
    simp only [Bool.and_assoc]
    rw [beq_dec (env.kindOf t) (some NameKind.local), beq_dec q.line p.line]
    rfl
  · rename_i elt gens s p hne
    cases h
    cases t <;> first | rfl | exact absurd rfl (hne _ _)
  · split at h
    · rename_i hn
      cases h
      exact swap_no hn
    · cases h
/-- no store is swapped -/
def noSwap : Expr → Expr → Bool
  | .Tuple ts _ _, .Tuple vs _ _ => ts.any (fun | .Name _ _ => false | _ => true) || (vs.all (foldedForSure 8))
  | .List _ _, _ => false
  | _, _ => true
theorem fm_lt {α β : Type} {f : α → Option β} : ∀ {l : List α}, (∃ x ∈ l, f x = none) → (l.filterMap f).length ≠ l.length
  | [], ⟨x, h, _⟩ => by cases h
  | a :: l, ⟨x, h, e⟩ => by
    have le : (l.filterMap f).length ≤ l.length := List.length_filterMap_le f l
    cases q : f a with
    | none =>
      rw [List.filterMap_cons_none q]
      simp only [List.length_cons]
      omega
    | some b =>
      rw [List.filterMap_cons_some q]
      simp only [List.length_cons]
      rcases List.mem_cons.mp h with z | z
      · rw [z, q] at e
        cases e
      · have := fm_lt ⟨x, z, e⟩
        omega
theorem noSwap_ok {env : Env} {t v : Expr} (h : noSwap t v = true) : swappedStores [t] v env = pure none := by
  unfold noSwap at h
  split at h
  · rename_i ts k p vs k2 p2
    unfold swappedStores
    simp only
    split
    · rfl
    · split
      · rfl
      · rw [Bool.or_eq_true] at h
        rcases h with h | h
        · split
          · rfl
          · rename_i hn
            exfalso
            obtain ⟨x, hx, q⟩ := List.any_eq_true.mp h
            refine fm_lt ⟨x, hx, ?_⟩ (by
              simp only [Bool.or_eq_true, bne_iff_ne, ne_eq, not_or, Decidable.not_not] at hn
              exact hn.1)
            cases x <;> first | rfl | cases q
        · split
          · rfl
          · first
            | rfl
            | (rw [if_pos h] <;> rfl)
  · cases h
  · rename_i h1 h2
    cases t with
    | Tuple ts k p =>
      cases v with
      | Tuple vs k2 p2 => exact (h2 _ _ _ _ _ _ rfl rfl).elim
      | _ => rfl
    | List ts p => exact (h1 _ _ rfl).elim
    | _ => cases v <;> rfl
/-- name = [..] on one line -/
theorem ups_setLc (g : Good I F X) (hcm : I.calm = true) {i : Nat} {y : Str} {py pos spos : Pos} {elt tg iter : Expr} {ifs : List Expr} {scope : Scope} {c : CT} {it : DI} {t : DT} {e d : DE} (hy : locN I i y = true) (hsw : swapsWith (.ListComp elt [⟨tg, iter, ifs, 0⟩] scope pos) (some (.Name y py)) spos.line X.env = pure true)
    (hi : PI X tg iter (upI F X it)) (hb : BlkOk X.N X.env.scope scope (ctN I.N c))
    (hg : ∀ (s : Shared) (H : Hp) (C : Addr) (cl : List (Str × Addr)) (fp : List Addr), PG (X.blk s H scope (compEnvC scope cl C X.env) fp) tg (ctG X.K c)) (ht : ∀ (s : Shared) (H : Hp) (C : Addr) (cl : List (Str × Addr)) (fp : List Addr), PTs (X.blk s H scope (compEnvC scope cl C X.env) fp) ifs (upT F.no X t))
    (he : ∀ (s : Shared) (H : Hp) (C : Addr) (cl : List (Str × Addr)) (fp : List Addr), PE (X.blk s H scope (compEnvC scope cl C X.env) fp) elt (up F.no X e)) (hs : ∀ x, foldedSetIterable iter X.env x = pure x)
    (lc : ∀ σ H Q, up F X d σ H Q → tLc (upI F X it) (ctG X.K c) (upT F.no X t) (up F.no X e) c.slots σ H Q) :
    PS X (.Assign [.Name y py] (.ListComp elt [⟨tg, iter, ifs, 0⟩] scope pos) spos) (upS F X (sAsg d (GL.gN i))) := by
  unfold locN at hy
  simp only [Bool.and_eq_true, decide_eq_true_eq] at hy
  have q := ps_setLc (i := i) (py := py) (spos := spos) (pos := pos) (elt := elt) (wi := upI F X it) (g := ctG X.K c) (tt := upT F.no X t) (te := up F.no X e) (g.calm hcm) g.nd (by rw [g.N]; exact hy.1) (by rw [g.sc]; exact hy.2) hsw hi hb hg ht he hs
  rw [ctN_slots] at q
  refine PS_imp q fun D σ H ⟨ρ, G, D', E, s, r, q, k, xx⟩ => ?_
  refine lc σ H _ ⟨ρ, G, _, E, s, r, q, fun d G1 v H1 e1 r1 i1 q1 => ?_, xx.at⟩
  exact k.nx _ G1 _ H1 e1 ((s.ext e1).set i1) (HR.slot g hy.1 (by simp [hy.2]) r1) q1
end
/-! ### statements -/
inductive Sx where
  | expr (a : Ex) | ret (a : Ex) | retN | pass | asg (a t : Ex) | par (is : List Nat) (a : Ex) | setLc (g0 : Option GS) (i : Nat) (c : CT) (it t e : Ex)
  | fld (c f : Str) (o a : Ex) | ite (t : Ex) (a b : Sx) | nil | seq (a b : Sx) | for_ (it tg : Ex) (b : Sx) | while_ (t : Ex) (b : Sx) | raise (x : Str) | stop
def Sx.den : Sx → DS
  | .expr a => sExpr a.den.e
  | .ret a => sRet a.den.e
  | .retN => sRetN
  | .pass => sPass
  | .asg a t => sAsg a.den.e t.den.g
  | .par is a => sPar is a.den.a
  | .setLc none i c it t e => sAsg (dLc it.den.i c t.den.t e.den.e) (GL.gN i)
  | .setLc (some g0) i c it t e => sAsg (dLcC g0 it.den.i c t.den.t e.den.e) (GL.gN i)
  | .fld c f o a => sFldD c f o.den.e a.den.e
  | .ite t a b => sIf t.den.t a.den b.den
  | .nil => sPass
  | .seq a b => sSeq a.den b.den
  | .for_ it tg b => sFor it.den.i tg.den.g b.den
  | .while_ t b => sWhile t.den.t b.den
  | .raise x => GL.sRaise x
  | .stop => fun _ _ _ _ => False
structure ChkS where
  s : Stmt → Bool := fun _ => false
  ss : List Stmt → Bool := fun _ => false
def parT (I : Inf) : List Nat → Expr → Expr → Bool
  | [i, j], .Tuple [.Name x px, .Name y py] _ _, .Tuple [a, b] _ _ => locN I i x && (locN I j y && (decide (i ≠ j) && (parV I.sc [a, b] && decide (py.line = px.line))))
  | [i, j, l], .Tuple [.Name x px, .Name y py, .Name z pz] _ _, .Tuple [a, b, c] _ _ => locN I i x && (locN I j y && (locN I l z && (decide (i ≠ j) && (decide (i ≠ l) && (decide (j ≠ l) && (parV I.sc [a, b, c] && (decide (py.line = px.line) && decide (pz.line = px.line))))))))
  | _, _, _ => false
def tupEs : Expr → List Expr
  | .Tuple es _ _ => es
  | _ => []
def Sx.chk : Sx → Inf → ChkS
  | .expr a, I => { s := fun st => match st with
    | .Expr e _ => noComp e && (a.chk I).e e
    | _ => false }
  | .ret a, I => { s := fun st => match st with
    | .Return (some e) _ => (a.chk I).e e
    | _ => false }
  | .retN, _ => { s := fun st => match st with
    | .Return none _ => true
    | _ => false }
  | .pass, _ => { s := fun st => match st with
    | .Pass _ => true
    | _ => false }
  | .asg a t, I => { s := fun st => match st with
    | .Assign [tg] e _ => decide (I.sc.kind = .function) && (decide (swB I.sc e tg = some false) && (noSwap tg e && (notStar tg && ((a.chk I).e e && (t.chk I).g tg))))
    | _ => false }
  | .par is a, I => { s := fun st => match st with
    | .Assign [tg] e _ => I.calm && parT I is tg e && (a.chk I).a (tupEs e)
    | _ => false }
  | .setLc g0 i c it t e, I => { s := fun st => match st with
    | .Assign [.Name y py] (.ListComp elt [⟨tg, iter, ifs, 0⟩] scope pos) _ => I.calm && decide (I.sc.kind = .function) && (locN I i y && (decide (swB I.sc (.ListComp elt [⟨tg, iter, ifs, 0⟩] scope pos) (.Name y py) = some true) && ((I.lam == g0.isSome) &&
      (notSet iter && (blkC I.N I.sc scope (ctN I.N c) && (chkCT I.N (relS scope I.sc) c tg && ((it.chk I).i tg iter && ((t.chk (blkI I scope)).ts ifs && (e.chk (blkI I scope)).e elt))))))))
    | _ => false }
  | .fld _ f o a, I => { s := fun st => match st with
    | .Assign [.Attribute x g _] e _ => (g == f) && (noComp e && ((o.chk I).e x && (a.chk I).e e))
    | _ => false }
  | .ite t a b, I => { s := fun st => match st with
    | .If c x y _ => (t.chk I).t c && ((a.chk I).ss x && (b.chk I).ss y)
    | _ => false }
  | .nil, _ => { ss := fun xs => match xs with
    | [] => true
    | _ => false }
  | .seq a b, I => { ss := fun xs => match xs with
    | x :: r => (a.chk I).s x && (b.chk I).ss r
    | _ => false }
  | .for_ it tg b, I => { s := fun st => match st with
    | .For t i body [] _ => I.calm && I.lp && (notSet i && ((it.chk I).i t i && ((tg.chk I).g t && (b.chk I).ss body)))
    | _ => false }
  | .while_ t b, I => { s := fun st => match st with
    | .While c body [] _ => I.lp && ((t.chk I).t c && (b.chk I).ss body)
    | _ => false }
  | .raise x, I => { s := fun st => match st with
    | .Raise (some (.Call (.Name y _) [.Constant (.str _) _ _] [] _)) none _ => I.calm && (y == x) && isGl I.sc x
    | _ => false }
  | .stop, _ => { s := fun _ => true, ss := fun _ => true }
section
variable (P : Program) (w : World) (K : PySem.W.Frag) (mg : Str → Option Value) (base : Heap) (Γ : Gm) (G0 : GS)
def Sx.ok : Sx → Inf → Prop
  | .expr a, I => a.ok P w K mg base Γ G0 I
  | .ret a, I => a.ok P w K mg base Γ G0 I
  | .retN, _ => True
  | .pass, _ => True
  | .asg a t, I => a.ok P w K mg base Γ G0 I ∧ t.ok P w K mg base Γ G0 I
  | .par _ a, I => a.ok P w K mg base Γ G0 I
  | .setLc g0 _ _ it t e, I => (∀ z, g0 = some z → G0 = z) ∧ it.ok P w K mg base Γ G0 I ∧ ∀ sc, t.ok P w K mg base Γ G0 (blkI I sc) ∧ e.ok P w K mg base Γ G0 (blkI I sc)
  | .fld c f o a, I => FlFact K mg c f ∧ o.ok P w K mg base Γ G0 I ∧ a.ok P w K mg base Γ G0 I
  | .ite t a b, I => t.ok P w K mg base Γ G0 I ∧ a.ok I ∧ b.ok I
  | .nil, _ => True
  | .seq a b, I => a.ok I ∧ b.ok I
  | .for_ it tg b, I => it.ok P w K mg base Γ G0 I ∧ tg.ok P w K mg base Γ G0 I ∧ b.ok I
  | .while_ t b, I => t.ok P w K mg base Γ G0 I ∧ b.ok I
  | .raise x, _ => ExFact K mg x
  | .stop, _ => True
end
structure SoundS (I : Inf) (F : Fx) (X : Cx) (d : DS) (c : ChkS) : Prop where
  s : ∀ x, c.s x = true → PS X x (upS F X d) := by intro x h; exact nomatch h
  ss : ∀ xs, c.ss xs = true → PSs X xs (upS F X d) := by intro x h; exact nomatch h
theorem soundS (P : Program) (w : World) (K : PySem.W.Frag) (mg : Str → Option Value) (base : Heap) (Γ : Gm) (G0 : GS) (I : Inf) (F : Fx) (X : Cx) (e1 : X.prog = P) (e2 : X.w = w) (e3 : X.K = K) (e4 : X.mg = mg) (e5 : X.base = base) (e6 : F.Γ = Γ) (e7 : F.g0 = G0) (g : Good I F X) :
    ∀ (il : Sx), il.ok P w K mg base Γ G0 I → SoundS I F X il.den (il.chk I) := by
  intro il
  have E : ∀ {a : Ex}, a.ok P w K mg base Γ G0 I → Sound I F X a.den (a.chk I) := fun {a} k => sound P w K mg base Γ G0 a I F X e1 e2 e3 e4 e5 e6 e7 g k
  induction il with
  | expr a =>
    intro k
    refine { s := fun x h => ?_ }
    have h : (match (generalizing := false) x with | .Expr e _ => noComp e && (a.chk I).e e | _ => false) = true := h
    split at h
    · rw [Bool.and_eq_true] at h
      exact ups_expr h.1 ((E k).e _ h.2)
    · cases h
  | ret a =>
    intro k
    refine { s := fun x h => ?_ }
    have h : (match (generalizing := false) x with | .Return (some e) _ => (a.chk I).e e | _ => false) = true := h
    split at h
    · exact ups_ret ((E k).e _ h)
    · cases h
  | retN =>
    intro k
    refine { s := fun x h => ?_ }
    have h : (match (generalizing := false) x with | .Return none _ => true | _ => false) = true := h
    split at h
    · exact ups_retN
    · cases h
  | pass =>
    intro k
    refine { s := fun x h => ?_ }
    have h : (match (generalizing := false) x with | .Pass _ => true | _ => false) = true := h
    split at h
    · exact ups_pass
    · cases h
  | asg a t =>
    intro k
    refine { s := fun x h => ?_ }
    have h : (match (generalizing := false) x with | .Assign [tg] e _ => decide (I.sc.kind = .function) && (decide (swB I.sc e tg = some false) && (noSwap tg e && (notStar tg && ((a.chk I).e e && (t.chk I).g tg)))) | _ => false) = true := h
    split at h
    · simp only [Bool.and_eq_true, decide_eq_true_eq] at h
      obtain ⟨h1, h2, h3, h4, h5, h6⟩ := h
      exact ups_asg (swB_ok (by rw [g.sc]; exact h1) (by rw [g.sc]; exact h2)) (noSwap_ok h3) h4 ((E k.1).e _ h5) ((E k.2).g _ h6)
    · cases h
  | par is a =>
    intro k
    refine { s := fun x h => ?_ }
    have h : (match (generalizing := false) x with | .Assign [tg] e _ => I.calm && parT I is tg e && (a.chk I).a (tupEs e) | _ => false) = true := h
    split at h
    · rw [Bool.and_eq_true, Bool.and_eq_true] at h
      obtain ⟨⟨hcm, h1⟩, h2⟩ := h
      unfold parT at h1
      split at h1
      · simp only [Bool.and_eq_true, decide_eq_true_eq] at h1
        obtain ⟨a1, a2, a3, a4, a5⟩ := h1
        exact ups_par2 g hcm a1 a2 a3 a4 a5 ((E k).a _ h2)
      · simp only [Bool.and_eq_true, decide_eq_true_eq] at h1
        obtain ⟨a1, a2, a3, a4, a5, a6, a7, a8, a9⟩ := h1
        exact ups_par3 g hcm a1 a2 a3 a4 a5 a6 a7 a8 a9 ((E k).a _ h2)
      · cases h1
    · cases h
  | setLc g0 i c it t e =>
    intro k
    refine { s := fun x h => ?_ }
    have h : (match (generalizing := false) x with
      | .Assign [.Name y py] (.ListComp elt [⟨tg, iter, ifs, 0⟩] scope pos) _ => I.calm && decide (I.sc.kind = .function) && (locN I i y && (decide (swB I.sc (.ListComp elt [⟨tg, iter, ifs, 0⟩] scope pos) (.Name y py) = some true) && ((I.lam == g0.isSome) &&
      (notSet iter && (blkC I.N I.sc scope (ctN I.N c) && (chkCT I.N (relS scope I.sc) c tg && ((it.chk I).i tg iter && ((t.chk (blkI I scope)).ts ifs && (e.chk (blkI I scope)).e elt))))))))
      | _ => false) = true := h
    split at h
    · rename_i y py elt tg iter ifs scope pos spos _
      simp only [Bool.and_eq_true, decide_eq_true_eq, beq_iff_eq] at h
      obtain ⟨⟨hcm, h1⟩, h2, h3, h4, h5, h6, h7, h8, h9, h10⟩ := h
      have hb : BlkOk X.N X.env.scope scope (ctN I.N c) := by
        rw [g.N, g.sc]
        exact blkOk_by h6
      have main : ∀ d, (∀ σ H Q, up F X d σ H Q → tLc (upI F X it.den.i) (ctG X.K c) (upT F.no X t.den.t) (up F.no X e.den.e) c.slots σ H Q) → PS X (.Assign [.Name y py] (.ListComp elt [⟨tg, iter, ifs, 0⟩] scope pos) spos) (upS F X (sAsg d (GL.gN i))) := fun d lc =>
        ups_setLc g hcm h2 (swB_ok (by rw [g.sc]; exact h1) (by rw [g.sc]; exact h3)) ((E k.2.1).i _ _ h8) hb
          (fun s H C cl fp => pg_ct (N := I.N) (sc := relS scope I.sc) (X := X.blk s H scope (compEnvC scope cl C X.env) fp) (g.calm hcm) g.N g.nd (by show relS scope X.env.scope = _; rw [g.sc]) h7)
          (fun s H C cl fp => (sound P w K mg base Γ G0 t (blkI I scope) F.no (X.blk s H scope (compEnvC scope cl C X.env) fp) e1 e2 e3 e4 e5 e6 e7 (good_blk g) (k.2.2 scope).1).ts _ h9)
          (fun s H C cl fp => (sound P w K mg base Γ G0 e (blkI I scope) F.no (X.blk s H scope (compEnvC scope cl C X.env) fp) e1 e2 e3 e4 e5 e6 e7 (good_blk g) (k.2.2 scope).2).e _ h10)
          (fold_no h5) lc
      cases g0 with
      | none => exact main _ (lc_up g h4 _ _ _ _)
      | some z =>
        have ez := k.1 z rfl
        rw [← e7] at ez
        subst ez
        exact main _ (lc_upC g h4 _ _ _ _)
    · cases h
  | fld c f o a =>
    intro k
    refine { s := fun x h => ?_ }
    have h : (match (generalizing := false) x with | .Assign [.Attribute x g _] e _ => (g == f) && (noComp e && ((o.chk I).e x && (a.chk I).e e)) | _ => false) = true := h
    split at h
    · simp only [Bool.and_eq_true, beq_iff_eq] at h
      obtain ⟨h1, h2, h3, h4⟩ := h
      rw [h1]
      have kf := k.1
      rw [← e3, ← e4] at kf
      exact ups_fld g kf h2 ((E k.2.1).e _ h3) ((E k.2.2).e _ h4)
    · cases h
  | ite t a b iha ihb =>
    intro k
    refine { s := fun x h => ?_ }
    have h : (match (generalizing := false) x with | .If c x y _ => (t.chk I).t c && ((a.chk I).ss x && (b.chk I).ss y) | _ => false) = true := h
    split at h
    · simp only [Bool.and_eq_true] at h
      exact ups_if ((E k.1).t _ h.1) ((iha k.2.1).ss _ h.2.1) ((ihb k.2.2).ss _ h.2.2)
    · cases h
  | nil =>
    intro k
    refine { ss := fun xs h => ?_ }
    have h : (match (generalizing := false) xs with | [] => true | _ => false) = true := h
    split at h
    · exact upss_nil
    · cases h
  | seq a b iha ihb =>
    intro k
    refine { ss := fun xs h => ?_ }
    have h : (match (generalizing := false) xs with | x :: r => (a.chk I).s x && (b.chk I).ss r | _ => false) = true := h
    split at h
    · rw [Bool.and_eq_true] at h
      exact upss_cons ((iha k.1).s _ h.1) ((ihb k.2).ss _ h.2)
    · cases h
  | for_ it tg b ihb =>
    intro k
    refine { s := fun x h => ?_ }
    have h : (match (generalizing := false) x with | .For t i body [] _ => I.calm && I.lp && (notSet i && ((it.chk I).i t i && ((tg.chk I).g t && (b.chk I).ss body))) | _ => false) = true := h
    split at h
    · simp only [Bool.and_eq_true] at h
      obtain ⟨⟨hcm, h1⟩, h2, h3, h4, h5⟩ := h
      exact ups_for g hcm h1 ((E k.1).i _ _ h3) ((E k.2.1).g _ h4) ((ihb k.2.2).ss _ h5) (fold_no h2)
    · cases h
  | while_ t b ihb =>
    intro k
    refine { s := fun x h => ?_ }
    have h : (match (generalizing := false) x with | .While c body [] _ => I.lp && ((t.chk I).t c && (b.chk I).ss body) | _ => false) = true := h
    split at h
    · simp only [Bool.and_eq_true] at h
      exact ups_while g h.1 ((E k.1).t _ h.2.1) ((ihb k.2).ss _ h.2.2)
    · cases h
  | raise z =>
    intro k
    refine { s := fun x h => ?_ }
    have h : (match (generalizing := false) x with | .Raise (some (.Call (.Name y _) [.Constant (.str _) _ _] [] _)) none _ => I.calm && (y == z) && isGl I.sc z | _ => false) = true := h
    split at h
    · simp only [Bool.and_eq_true, beq_iff_eq] at h
      obtain ⟨a1, a2⟩ := gl_inv h.2
      have kf : ExFact K mg z := k
      rw [← e3, ← e4] at kf
      rw [h.1.2]
      exact ups_raise g h.1.1 kf a1 a2
    · cases h
  | stop =>
    intro k
    exact { s := fun x h => ⟨fun pins s σ H D Iv ⟨ρ, G, D', E, sr, r, q, kk, xx⟩ => q.elim⟩, ss := fun x h => ⟨fun pins s σ H D Iv ⟨ρ, G, D', E, sr, r, q, kk, xx⟩ => q.elim⟩ }
end GL
set_option Elab.async false
set_option linter.all false
set_option maxRecDepth 100000
set_option maxHeartbeats 8000000
/-! GT: try: return work() / except PageError as e: .. -/
namespace GL
open PySem PySem.Spec PyProof.Rows L2
def GSub (G G' : GS) : Prop := ∀ a o, G a = some o → G' a = some o
theorem GSub.refl (G : GS) : GSub G G := fun _ _ h => h
theorem GSub.trans {G G1 G2 : GS} (a : GSub G G1) (b : GSub G1 G2) : GSub G G2 := fun c o h => b c o (a c o h)
theorem GSub.new {G : GS} {p : Addr} {o : GO} (h : G p = none) : GSub G (gup G p o) := fun a u e => by
  rw [gup_ne]
  · exact e
  · intro z
    rw [z, h] at e
    cases e
theorem gup_none {G : GS} {p q : Addr} {o : GO} : gup G p o q = none ↔ q ≠ p ∧ G q = none := by
  unfold gup
  by_cases h : q = p
  · simp [h]
  · simp [h]
/-- the errors' words, in the order of the law -/
def words9 : List Str := ["BadCount", "BadDisk", "BadPage", "BadRow", "BadText", "Full", "NoPage", "NoRow", "Stopped"]
/-- an error without a line of its own -/
def errAt (k : Nat) (cn : Str) : Prop := words9[k]? = some cn ∧ k ≠ 4
def isErr (cn : Str) : Prop := ∃ k, errAt k cn
def dTold (cs : Nat → Option ClE) : DS := fun D E ρ G => dClo cs (dVar 0) aNil ρ G D.rt (fun cn p G1 => (isErr cn ∧ p = []) ∧ ∀ G2, GSub G1 G2 → D.rt (.tup [.str cn, .int 0]) G2)
def ilToldS (a : Addr) (k : Nat) : Sx :=
  .seq (.asg (.lst (.cons (.isE 1 a "BadCount" (k == 0)) (.cons (.isE 1 a "BadDisk" (k == 1)) (.cons (.isE 1 a "BadPage" (k == 2)) (.cons (.isE 1 a "BadRow" (k == 3)) .nil))))) (.gN 2))
  (.seq (.asg (.bin .add (.var 2) (.lst (.cons (.isE 1 a "BadText" (k == 4)) (.cons (.isE 1 a "Full" (k == 5)) (.cons (.isE 1 a "NoPage" (k == 6)) (.cons (.isE 1 a "NoRow" (k == 7)) .nil)))))) (.gN 2))
  (.seq (.expr (.mth .append (.var 2) (.cons (.isE 1 a "Stopped" (k == 8)) .nil)))
  (.seq (.ite (.tor (.tcmp .ne (.mth .count (.var 2) (.cons (.cB true) .nil)) (.cI 1)) (.tnot (.tv (.isE 1 a "ValueError" true)))) (.seq (.ret .stop) .nil) .nil)
  (.seq (.asg (.lst (.cons (.cS "BadCount") (.cons (.cS "BadDisk") (.cons (.cS "BadPage") (.cons (.cS "BadRow") (.cons (.cS "BadText") (.cons (.cS "Full") (.cons (.cS "NoPage") (.cons (.cS "NoRow") (.cons (.cS "Stopped") .nil)))))))))) (.gN 3))
  (.seq (.asg (.ix (.var 3) (.mth .index (.var 2) (.cons (.cB true) .nil))) (.gN 4))
  (.seq (.ret (.tup (.cons (.var 4) (.cons (.ite (.tcmp .eq (.var 4) (.cS "BadText")) .stop (.cI 0)) .nil)))) .nil))))))
theorem eqF_bl {a b : Bool} : eqF (.bl a) (.bl b) = (a == b) := rfl
theorem scEq_str {x y : Str} (h : x ≠ y) : scEq (.str x) (.str y) = some false := by
  simp [scEq, h]
theorem d_toldS (k : Nat) (cn : Str) (hc : errAt k cn) (a : Addr) (G : GS) (Q : DK) (h : ∀ G2, GSub G G2 → Q (.tup [.str cn, .int 0]) G2) :
    (ilToldS a k).den { nx := fun _ _ => False, rt := Q } noX [none, some (.ref a), none, none, none] G := by
  obtain ⟨h1, h2⟩ := hc
  have hk : k < 9 := (List.getElem?_eq_some_iff.mp h1).1
  have ne : cn ≠ "BadText" := by
    intro z
    subst z
    match k, hk with
    | 0, _ => exact absurd h1 (by decide +kernel)
    | 1, _ => exact absurd h1 (by decide +kernel)
    | 2, _ => exact absurd h1 (by decide +kernel)
    | 3, _ => exact absurd h1 (by decide +kernel)
    | 4, _ => exact h2 rfl
    | 5, _ => exact absurd h1 (by decide +kernel)
    | 6, _ => exact absurd h1 (by decide +kernel)
    | 7, _ => exact absurd h1 (by decide +kernel)
    | 8, _ => exact absurd h1 (by decide +kernel)
  have e4 := scEq_str ne
  simp only [ilToldS, Sx.den, Ex.den, sSeq, sAsg, sExpr, sIf, sRet, sPass, dLst, dIsE, aCons, aNil, dBin, dVar, dNew, GL.gN, Mt.op, dMthT, BO.op, CO.op, dTst, dOrT, dNotT, dTup, dIte, dC]
  refine ⟨rfl, rfl, rfl, rfl, by simp, fun p1 hp1 => ⟨rfl, rfl, rfl, rfl, by simp, fun p2 hp2 => ?_⟩⟩
  obtain ⟨n21, hp2'⟩ := gup_none.mp hp2
  simp only [opAdd, lstOf, gup_same, gup_ne (Ne.symm n21)]
  refine ⟨show 8 ≤ sizeLine from by decide, fun p3 hp3 => ?_⟩
  obtain ⟨n32, hp3'⟩ := gup_none.mp hp3
  obtain ⟨n31, hp3''⟩ := gup_none.mp hp3'
  have sub : ∀ {p4 : Addr} {o1 o2 o3 o4 o5 : GO}, p4 ≠ p3 → G p4 = none → GSub G (gup (gup (gup (gup (gup G p1 o1) p2 o2) p3 o3) p3 o4) p4 o5) := fun {p4 o1 o2 o3 o4 o5} n1 n2 b o e => by
    have nb : ∀ q, G q = none → b ≠ q := fun q z w => by
      rw [w, z] at e
      cases e
    rw [gup_ne (nb p4 n2), gup_ne (nb p3 hp3''), gup_ne (nb p3 hp3''), gup_ne (nb p2 hp2'), gup_ne (nb p1 hp1)]
    exact e
  have fin : ∀ j, j < 9 → j ≠ 4 → words9[j]? = some cn → k = j → True := fun _ _ _ _ _ => trivial
  have kc : k = 0 ∨ k = 1 ∨ k = 2 ∨ k = 3 ∨ k = 5 ∨ k = 6 ∨ k = 7 ∨ k = 8 := by omega
  simp only [isLstD, lstOf, gup_same, opAppend]
  rcases kc with rfl | rfl | rfl | rfl | rfl | rfl | rfl | rfl <;>
  · simp [words9] at h1
    subst h1
    simp [isLstD, lstOf, gup_same, opCount, lsqOf, flatD, eqF_bl, opNe, scEq, dBool, List.countP_cons]
    intro p4 hp4
    obtain ⟨n43, hp4'⟩ := gup_none.mp hp4
    have hp4g : G p4 = none := (gup_none.mp (gup_none.mp (gup_none.mp hp4').2).2).2
    simp [gup_ne (Ne.symm n43), gup_same, opIndex, flatD, opIx, seqOf, lsqOf, atI, ixN, opEq, eqF_bl, List.findIdx?_cons]
    rw [e4]
    exact ⟨rfl, h _ (sub n43 hp4g)⟩
def toldN : List Str := ["_law_work", "e", "_law_kinds", "_law_words", "_law_word"]
def toldI (I : Inf) (a : Addr) (cn : Str) : Inf := { I with calm := false, exc := some (a, cn), lp := false }
theorem good_suite {I : Inf} {F : Fx} {X : Cx} (g : Good I F X) (hl : I.lam = false) (hm : I.mkl = false) {a : Addr} {oe : Obj} {pn : List (Addr × Obj)} {cn : Str} {C : Addr} (h1 : Zc (.ref C) none oe) (h2 : ∃ vs, oe.data = .fields vs) (h3 : X.mg cn = some (.ref C)) :
    Good (toldI I a cn) F.no (X.suite a ((a, oe) :: pn)) := by
  refine ⟨g.N, g.nd, g.sc, fun z => (by cases z), g.un, takes_none5, fun z => (by cases z), ?_, fun z => ?_, fun z => ?_, fun z => ?_, fun z => ?_, fun a' cn' z => ?_, g.fn, fun z => (by cases z)⟩
  · show _ = if I.lam = true then _ else _
    rw [hl]
    rfl
  · have z : I.lam = true := z
    rw [hl] at z
    cases z
  · have z : I.lam = true := z
    rw [hl] at z
    cases z
  · have z : I.mkl = true := z
    rw [hm] at z
    cases z
  · have z : I.mkl = true := z
    rw [hm] at z
    cases z
  · cases z
    exact ⟨oe, C, pn, X, rfl, h1, h2, h3⟩
theorem ups_told {I : Inf} {F : Fx} {X : Cx} {cs : Nat → Option ClE} (g : Good I F X) (hs : X.stack = X.env :: X.outer) (hf : X.env.frame = some X.env.locals) (hN : I.N = toldN) (hl : I.lam = false) (hm : I.mkl = false) (hxn : I.exc = none) {b₀ : Stmt} {suite : List Stmt} {wc : Expr} {p3 np pos' pos : Pos} {c : Value}
    (hwc : PE X wc (up F X (dClo cs (dVar 0) aNil)) ∧ ∀ (W : WX) (pn : List (Addr × Obj)) (xe : Value → Shared → Prop), Good I { F with W := W } (X.tr pn xe) → PE (X.tr pn xe) wc (up { F with W := W } (X.tr pn xe) (dClo cs (dVar 0) aNil)))
    (hel : X.env.kindOf "e" = some .local) (hc : Names X "PageError" c) (hex : ∀ cn, isErr cn → ∀ cls, X.mg cn = some cls → PySem.W.exmOne X.K cls c = some true)
    (hsuite : ∀ a k cn, ((ilToldS a k).chk (toldI I a cn)).ss (b₀ :: suite) = true) (hok : ∀ a k cn, errAt k cn → (ilToldS a k).ok X.prog X.w X.K X.mg X.base F.Γ F.g0 (toldI I a cn)) :
    PS X (.Try [.Return (some wc) p3] [.ExceptHandler (some (.Name "PageError" np)) (some "e") (b₀ :: suite) pos'] [] [] pos) (upS F X (dTold cs)) := by
  have h1 : X.N[1]? = some ("e" : Str) := by rw [g.N, hN]; rfl
  refine PS_imp (ps_try_as (i := 1) (Wout := fun _ _ _ _ => False)
    (tb := fun W => upS { F with W := W } X (sRet (dClo cs (dVar 0) aNil)))
    (ts := fun a cls dd Ds σ H => (∃ σ0 : L2.St, σ = σ0.set 1 (some (.ref a))) ∧ ∃ (cn : Str) (k : Nat) (G : GS) (Q' : DK), errAt k cn ∧ X.mg cn = some cls ∧ (∃ C, cls = .ref C) ∧ dd = none ∧ HR F X σ G H ∧ (∀ G2, GSub G G2 → Q' (.tup [.str cn, .int 0]) G2) ∧ KOk F X σ H Q' Ds.rt)
    hs hf g.nd h1 hel hc takes_none5 (fun W pn xe tk po => ?_) (fun a oe cls dd pn hz hfd => ?_)) fun D σ H ⟨ρ, G, D', E, s, r, q, k, x⟩ => ?_
  · -- the body
    have g' : Good I { F with W := W } (X.tr pn xe) := by
      refine ⟨g.N, g.nd, g.sc, g.calm, g.un, tk, g.room, g.own, g.cel, g.old, g.qual, g.tab, fun a cn z => ?_, g.fn, fun _ => po⟩
      rw [hxn] at z
      cases z
    exact PSs_imp (pss_one (ups_ret (hwc.2 W pn xe g'))) fun D σ H ⟨ρ, G, D', E, s, r, q, k, x⟩ => ⟨ρ, G, D', E, s, r, q, ⟨k.nx, k.bk, k.ct, k.rt⟩, x⟩
  · -- the suite
    refine ⟨fun pins s σ H Ds Iv h => ?_⟩
    obtain ⟨⟨σ0, hσ⟩, cn, k, G, Q', hk, hm', ⟨C, hC⟩, hd, r, hq, kk⟩ := h
    subst hd
    subst hC
    have gs := good_suite (a := a) (pn := pn) (cn := cn) g hl hm hz hfd hm'
    have ss := (soundS X.prog X.w X.K X.mg X.base F.Γ F.g0 (toldI I a cn) F.no (X.suite a ((a, oe) :: pn)) rfl rfl rfl rfl rfl rfl rfl gs (ilToldS a k) (hok a k cn hk)).ss _ (hsuite a k cn)
    have hlen : σ.length = 5 := by
      have z := Iv.len
      rw [show (X.suite a ((a, oe) :: pn)).N = X.N from rfl, g.N, hN] at z
      exact z
    refine ss.run pins s σ H Ds Iv ⟨[none, some (.ref a), none, none, none], G, { nx := fun _ _ => False, rt := Q' }, noX, ?_, ?_, d_toldS k cn hk a G Q' hq, ⟨fun _ _ _ _ _ _ _ z => z.elim, fun _ _ _ _ _ _ _ z => z.elim, fun _ _ _ _ _ _ _ z => z.elim, fun σ' d G' v H' e r' i q' => kk d G' v H' e ?_ i q'⟩, fun _ _ _ _ _ _ _ _ _ _ z => z.elim⟩
    · refine ⟨by rw [hlen]; rfl, fun i d e => ?_⟩
      match i, e with
      | 0, e => cases e
      | 1, e =>
        cases e
        refine ⟨.ref a, ?_, is_ref.mpr rfl⟩
        rw [hσ]
        rw [hσ, List.length_set] at hlen
        rw [List.getElem?_set_self (by omega)]
      | 2, e => cases e
      | 3, e => cases e
      | 4, e => cases e
      | n + 5, e => simp at e
    · exact to_none g hl σ G H r
    · exact of_none g σ G' H' r'
  · -- together
    refine ⟨ρ, G, D', _, s, r, q, ⟨k.nx, k.bk, k.ct, k.rt⟩, fun cn p G1 cls dd σ' H' e r' i q' => ?_⟩
    obtain ⟨⟨⟨j, hj⟩, hp⟩, hq⟩ := q'
    obtain ⟨hm', hC, hpd⟩ := i
    have hdd : dd = none := by
      rcases hpd with ⟨_, z⟩ | ⟨d, a, v, z, _⟩
      · exact z
      · rw [hp] at z
        cases z
    refine ⟨true, hex cn ⟨j, hj⟩ cls hm', fun _ a ha => ?_, fun z => (by cases z)⟩
    refine ⟨⟨σ', rfl⟩, cn, j, G1, D'.rt, hj, hm', hC, hdd, HR.slots g hl r', hq, ?_⟩
    exact ((k.rt (σ'.set 1 (some (.ref a)))).ext e)
end GL
set_option Elab.async false
set_option linter.all false
set_option maxRecDepth 100000
set_option maxHeartbeats 8000000
/-! GA: a def's fact from its letters. -/
namespace GL
open PySem PySem.Spec PyProof.Rows L2
/-- a def's frame -/
def defI (N : List Str) (scope : Scope) (k : Nat) (lam mkl : Bool) (qual : Str) : Inf := { N := N, sc := scope, lev := k, lam := lam, mkl := mkl, qual := qual ++ ".<locals>." }
/-- a def keeps the promise sp, in its own letters -/
def Keeps (N : List Str) (ar : Nat) (lam : Bool) (il : GS → Sx) (sp : Spec) : Prop := ∀ ds G Q E, ds.length = ar → sp ds G Q E → (il G).den (endsD lam G Q) (fun cn p G' => E cn p (cutK lam G G')) (startD N ds) G
section
variable {P : Program} {w : World} {K : PySem.W.Frag} {mg : Str → Option Value} {base : Heap} {Γ : Gm}
theorem il_ok {x qual : Str} {params : Arguments} {body : List Stmt} {scope : Scope} {f : Addr} {fd : FuncData} {N ps : List Str} {k : Nat} {sp : Spec} {il : GS → Sx} {lam mkl : Bool} (FD : FunD K x qual params body scope [] [] f fd) (S : FnScope N ps scope) (hlm : mkl = true → lam = true)
    (tabs : mkl = true → ∃ c P, LamX.TabB base mg c P ∧ fd.code = .ref c ∧ (P, qual ++ ".<locals>." ++ "<lambda>") ∈ Γ.T ∧ ∀ p ∈ Γ.T, p.1 = P → p.2 = qual ++ ".<locals>." ++ "<lambda>")
    (hc : ∀ g0, ((il g0).chk (defI N scope k lam mkl qual)).ss body = true) (ho : ∀ g0, (il g0).ok P w K mg base Γ g0 (defI N scope k lam mkl qual)) (hd : Keeps N ps.length lam il sp) :
    FnOk P w K mg base (L2.CX P w) (k + 1) f fd ps (lift Γ K mg ps.length sp) :=
  fnok_of (d := fun g0 => (il g0).den) FD S hlm tabs (fun F X e1 e2 e3 e4 e5 e6 _ _ g => (soundS P w K mg base Γ F.g0 _ F X e1 e2 e3 e4 e5 e6 rfl g (il F.g0) (ho F.g0)).ss body (hc F.g0)) hd
theorem mk_glob {x : Str} {f : Addr} {fd : FuncData} {ps : List Str} {k ar : Nat} {sp : Spec} (hm : mg x = some (.ref f)) (hk : PySem.W.keepIn K (.ref f) = true) (hb : Binds K fd ps []) (ha : ps.length = ar) (h : FnOk P w K mg base (L2.CX P w) k f fd ps (lift Γ K mg ps.length sp)) :
    FnFact P w K mg base Γ ⟨.glob x, ar, k, sp⟩ := by
  subst ha
  exact ⟨f, fd, ps, hm, hk, hb, rfl, h⟩
theorem mk_meth {c m : Str} {C f : Addr} {fd : FuncData} {ps : List Str} {k ar : Nat} {sp : Spec} (hm : mg c = some (.ref C)) (hc : Cls K C) (hk : Meth K C m f) (hb : Binds K fd ps []) (ha : ps.length = ar) (h : FnOk P w K mg base (L2.CX P w) k f fd ps (lift Γ K mg ps.length sp)) :
    FnFact P w K mg base Γ ⟨.meth c m, ar, k, sp⟩ := by
  subst ha
  exact ⟨C, f, fd, ps, hm, hc, hk, hb, rfl, h⟩
theorem mk_make {c : Str} {C f : Addr} {fd : FuncData} {ps : List Str} {k ar : Nat} {sp : Spec} (hm : mg c = some (.ref C)) (hk : Mk K C f) (hb : Binds K fd ps []) (ha : ps.length = ar) (h : FnOk P w K mg base (L2.CX P w) k f fd ps (lift Γ K mg ps.length sp)) :
    FnFact P w K mg base Γ ⟨.make c, ar, k, sp⟩ := by
  subst ha
  exact ⟨C, f, fd, ps, hm, hk, hb, rfl, h⟩
end
/-- a stronger asking -/
theorem FnFact.imp {P : Program} {w : World} {K : PySem.W.Frag} {mg : Str → Option Value} {base : Heap} {Γ : Gm} {wh : FnW} {ar lev lev' : Nat} {sp sp' : Spec} (h : FnFact P w K mg base Γ ⟨wh, ar, lev, sp⟩) (hl : lev ≤ lev') (i : ∀ ds G Q E, sp' ds G Q E → sp ds G Q E) : FnFact P w K mg base Γ ⟨wh, ar, lev', sp'⟩ := by
  have go : ∀ {f fd ps}, FnOk P w K mg base (L2.CX P w) lev f fd ps (lift Γ K mg ar sp) → FnOk P w K mg base (L2.CX P w) lev' f fd ps (lift Γ K mg ar sp') := fun o =>
    (o.mono hl).imp fun vs H Q E ⟨ds, G, Q', E', hn, i1, r, q, k, x⟩ => ⟨ds, G, Q', E', hn, i1, r, i _ _ _ _ q, k, x⟩
  have hh := h.h
  cases wh with
  | glob x =>
    obtain ⟨f, fd, ps, h1, h2, h3, h4, h5⟩ := hh
    exact ⟨f, fd, ps, h1, h2, h3, h4, go h5⟩
  | meth c m =>
    obtain ⟨C, f, fd, ps, h1, h2, h3, h4, h5, h6⟩ := hh
    exact ⟨C, f, fd, ps, h1, h2, h3, h4, h5, go h6⟩
  | make c =>
    obtain ⟨C, f, fd, ps, h1, h2, h3, h4, h5⟩ := hh
    exact ⟨C, f, fd, ps, h1, h2, h3, h4, go h5⟩
end GL
set_option Elab.async false
set_option linter.all false
set_option maxRecDepth 100000
set_option maxHeartbeats 8000000
/-! H0: facts of the module, as Bools. -/
namespace GL
open PySem PySem.Spec PyProof.Rows L2
def allB (f : D → Value → Bool) : List D → List Value → Bool
  | [], [] => true
  | d :: ds, u :: us => f d u && allB f ds us
  | _, _ => false
def tupIs (K : PySem.W.Frag) : Nat → D → Value → Bool
  | _, .non, u => He.relB .non u
  | _, .bl b, u => He.relB (.bl b) u
  | _, .int i, u => He.relB (.int i) u
  | _, .str s, u => He.relB (.str s) u
  | n + 1, .tup ds, .ref a => (match K.lookup a with
    | some ⟨.type c, _, .seq its _, _⟩ => decide (c = "tuple") && (decide (its.size ≤ sizeLine) && (!keyish ds && allB (tupIs K n) ds its.toList))
    | _ => false)
  | _, _, _ => false
theorem allB_ok {K : PySem.W.Frag} {f : D → Value → Bool} (hf : ∀ d u, f d u = true → ∃ v, RelV v u ∧ ∀ H, Is K H v d) : ∀ {ds : List D} {us : List Value}, allB f ds us = true → ∃ vs, Vals vs us ∧ ∀ H, IsL K H vs ds
  | [], [], _ => ⟨[], .nil, fun H => rfl⟩
  | [], _ :: _, h => by cases h
  | _ :: _, [], h => by cases h
  | d :: ds, u :: us, h => by
    obtain ⟨h1, h2⟩ := He.ba (show (f d u && allB f ds us) = true from h)
    obtain ⟨v, r, i⟩ := hf d u h1
    obtain ⟨vs, rs, is⟩ := allB_ok hf h2
    exact ⟨v :: vs, .cons r rs, fun H => ⟨v, vs, rfl, i H, is H⟩⟩
theorem tupIs_ok {K : PySem.W.Frag} : ∀ (n : Nat) (d : D) (u : Value), tupIs K n d u = true → ∃ v, RelV v u ∧ ∀ H, Is K H v d
  | n, .non, u, h => ⟨.non, He.relB_ok (by cases n <;> exact h), fun H => is_non.mpr rfl⟩
  | n, .bl b, u, h => ⟨.bl b, He.relB_ok (by cases n <;> exact h), fun H => is_bl.mpr rfl⟩
  | n, .int i, u, h => ⟨.int i, He.relB_ok (by cases n <;> exact h), fun H => is_int.mpr rfl⟩
  | n, .str s, u, h => ⟨.str s, He.relB_ok (by cases n <;> exact h), fun H => is_str.mpr rfl⟩
  | 0, .tup ds, u, h => by cases u <;> cases h
  | n + 1, .tup ds, u, h => by
    cases u with
    | ref a =>
      have h : (match K.lookup a with
        | some ⟨.type c, _, .seq its _, _⟩ => decide (c = "tuple") && (decide (its.size ≤ sizeLine) && (!keyish ds && allB (tupIs K n) ds its.toList))
        | _ => false) = true := h
      cases q : K.lookup a with
      | none => rw [q] at h; cases h
      | some o =>
        obtain ⟨oc, od, dt, osl⟩ := o
        rw [q] at h
        cases oc with
        | type c =>
          cases dt with
          | seq its m =>
            obtain ⟨h1, h2⟩ := He.ba (show (decide (c = "tuple") && (decide (its.size ≤ sizeLine) && (!keyish ds && allB (tupIs K n) ds its.toList))) = true from h)
            obtain ⟨h3, h4⟩ := He.ba h2
            obtain ⟨h5, h6⟩ := He.ba h4
            obtain ⟨vs, r, i⟩ := allB_ok (tupIs_ok n) h6
            exact ⟨.ref a, rfl, fun H => ⟨a, vs, rfl, .inr ⟨.inr ⟨_, its, m, q, congrArg Value.type (of_decide_eq_true h1), rfl, of_decide_eq_true h3, r⟩, by simpa using h5⟩, i H⟩⟩
          | _ => cases h
        | _ => cases dt <;> cases h
    | _ => cases h
  | 0, .ref _, u, h => by cases u <;> cases h
  | 0, .ty _, u, h => by cases u <;> cases h
  | n + 1, .ref _, u, h => by cases u <;> cases h
  | n + 1, .ty _, u, h => by cases u <;> cases h
/-- the module's name x stands for d -/
def glB (K : PySem.W.Frag) (x : Str) (d : D) : Bool := match PySem.W.nsIn K mainGlobals x with
  | some (some u) => tupIs K 8 d u
  | _ => false
theorem glB_ok {K : PySem.W.Frag} {h : Heap} {mg : Str → Option Value} {x : Str} {d : D} (X : K.In h) (G : h.Ns mainGlobals mg) (c : glB K x d = true) : GlFact K mg x d := by
  unfold glB at c
  cases e : PySem.W.nsIn K mainGlobals x with
  | none => rw [e] at c; cases c
  | some o =>
    rw [e] at c
    cases o with
    | none => cases c
    | some u =>
      obtain ⟨v, r, i⟩ := tupIs_ok 8 d u c
      exact ⟨u, v, PySem.W.mg_of X G e, r, i⟩
/-- K holds no list -/
def noLst (K : PySem.W.Frag) : Bool := K.all fun q => match q.2 with
  | ⟨.type c, _, .seq _ _, _⟩ => !decide (c = "list")
  | _ => true
theorem noLst_ok {K : PySem.W.Frag} (h : noLst K = true) {H : Hp} {a : Addr} {xs : List V} (s : SqL K H a xs) : Rd H a (.lst xs) := by
  rcases s with s | ⟨o, its, n, q, h1, h2, h3, h4, h5⟩
  · exact s
  · have m := List.all_eq_true.mp h _ (He.lookup_mem q)
    obtain ⟨oc, od, dt, osl⟩ := o
    simp only at h1 h2 h3 h4 h5 m
    subst h1
    subst h3
    simp at m
/-- a class of errors of one's own: what isinstance(e, ..) leans on -/
def excCB (K : PySem.W.Frag) (D : Addr) : Bool := He.eqO (PySem.W.findIn K (.ref D) "__getattribute__") (some (some (.builtin "BaseException.__getattribute__"))) && (He.eqO (PySem.W.findIn K (.ref D) "__getattr__") (some none) && (decide (PySem.W.subIn K (.ref D) (.type "BaseException") = some true) && (PySem.W.hasDictIn K D && (He.eqO (PySem.W.findIn K (.ref D) "__class__") (some (some (.builtin "object.__class__"))) && (He.eqO (PySem.W.specialIn K (.builtin "object.__class__") "__get__") (some (some (.builtin "getset_descriptor.__get__"))) && (decide (PySem.W.takesIn K (.builtin "object.__class__") = some true) && decide (PySem.W.mroIn K D (.type "object") = some true)))))))
theorem excCB_ok {K : PySem.W.Frag} {D : Addr} (h : excCB K D = true) : ExcC K D := by
  obtain ⟨h1, h⟩ := He.ba h
  obtain ⟨h2, h⟩ := He.ba h
  obtain ⟨h3, h⟩ := He.ba h
  obtain ⟨h4, h⟩ := He.ba h
  obtain ⟨h5, h⟩ := He.ba h
  obtain ⟨h6, h⟩ := He.ba h
  obtain ⟨h7, h8⟩ := He.ba h
  exact ⟨He.eqO_ok h1, He.eqO_ok h2, of_decide_eq_true h3, h4, He.eqO_ok h5, He.eqO_ok h6, of_decide_eq_true h7, of_decide_eq_true h8⟩
/-- the nine errors: each is of its own class and a ValueError, each is a PageError -/
def errsB (K : PySem.W.Frag) : Bool := words9.all fun x => excCB K (He.ga K x) && ((words9.all fun y => decide (PySem.W.kitOne K (.ref (He.ga K x)) (.ref (He.ga K y)) = some (x == y))) && (decide (PySem.W.kitOne K (.ref (He.ga K x)) (.type "ValueError") = some true) && decide (PySem.W.exmOne K (.ref (He.ga K x)) (.ref (He.ga K "PageError")) = some true)))
end GL
set_option Elab.async false
set_option linter.all false
set_option maxRecDepth 100000
set_option maxHeartbeats 8000000
/-! H1: the lambdas of a text. -/
namespace GL
open PySem PySem.Spec PyProof.Rows L2
def lamsE : Nat → Expr → List Expr
  | 0, _ => []
  | _ + 1, .Lambda a b s p => [.Lambda a b s p]
  | n + 1, .Call _ xs _ _ => xs.flatMap (lamsE n)
  | n + 1, .List xs _ => xs.flatMap (lamsE n)
  | n + 1, .Tuple xs _ _ => xs.flatMap (lamsE n)
  | _, _ => []
def lamsS : Nat → Stmt → List Expr
  | 0, _ => []
  | _ + 1, .Return (some e) _ => lamsE 9 e
  | _ + 1, .Assign _ e _ => lamsE 9 e
  | _ + 1, .Expr e _ => lamsE 9 e
  | n + 1, .If t b o _ => lamsE 9 t ++ (b ++ o).flatMap (lamsS n)
  | n + 1, .For _ _ b _ _ => b.flatMap (lamsS n)
  | n + 1, .While _ b _ _ => b.flatMap (lamsS n)
  | _, _ => []
def lamOf (q : Str) (free : List Str) : Option Expr → LamD
  | some (.Lambda a b s _) => ⟨q, a, b, s, free⟩
  | _ => ⟨q, ⟨[], [], none, [], [], none, []⟩, .Constant .none 0 ⟨0, 0, 0, 0⟩, { kind := .function, names := [], isGenerator := false, isCoroutine := false }, free⟩
/-- the i-th lambda of a def's body -/
def lamAt (b : List Stmt) (q : Str) (i : Nat) (free : List Str) : LamD := lamOf q free ((b.flatMap (lamsS 9))[i]?)
end GL
set_option Elab.async false
set_option linter.all false
set_option maxRecDepth 100000
set_option maxHeartbeats 8000000
/-! K0: what simp opens. -/
namespace GL
open PySem PySem.Spec PyProof.Rows L2
@[simp] theorem kb_NoneType_int : kitB "NoneType" "int" = some false := by decide +kernel
@[simp] theorem kb_NoneType_bool : kitB "NoneType" "bool" = some false := by decide +kernel
@[simp] theorem kb_NoneType_str : kitB "NoneType" "str" = some false := by decide +kernel
@[simp] theorem kb_NoneType_tuple : kitB "NoneType" "tuple" = some false := by decide +kernel
@[simp] theorem kb_NoneType_list : kitB "NoneType" "list" = some false := by decide +kernel
@[simp] theorem kb_NoneType_dict : kitB "NoneType" "dict" = some false := by decide +kernel
@[simp] theorem kb_bool_int : kitB "bool" "int" = some true := by decide +kernel
@[simp] theorem kb_bool_bool : kitB "bool" "bool" = some true := by decide +kernel
@[simp] theorem kb_bool_str : kitB "bool" "str" = some false := by decide +kernel
@[simp] theorem kb_bool_tuple : kitB "bool" "tuple" = some false := by decide +kernel
@[simp] theorem kb_bool_list : kitB "bool" "list" = some false := by decide +kernel
@[simp] theorem kb_bool_dict : kitB "bool" "dict" = some false := by decide +kernel
@[simp] theorem kb_int_int : kitB "int" "int" = some true := by decide +kernel
@[simp] theorem kb_int_bool : kitB "int" "bool" = some false := by decide +kernel
@[simp] theorem kb_int_str : kitB "int" "str" = some false := by decide +kernel
@[simp] theorem kb_int_tuple : kitB "int" "tuple" = some false := by decide +kernel
@[simp] theorem kb_int_list : kitB "int" "list" = some false := by decide +kernel
@[simp] theorem kb_int_dict : kitB "int" "dict" = some false := by decide +kernel
@[simp] theorem kb_str_int : kitB "str" "int" = some false := by decide +kernel
@[simp] theorem kb_str_bool : kitB "str" "bool" = some false := by decide +kernel
@[simp] theorem kb_str_str : kitB "str" "str" = some true := by decide +kernel
@[simp] theorem kb_str_tuple : kitB "str" "tuple" = some false := by decide +kernel
@[simp] theorem kb_str_list : kitB "str" "list" = some false := by decide +kernel
@[simp] theorem kb_str_dict : kitB "str" "dict" = some false := by decide +kernel
@[simp] theorem kb_tuple_int : kitB "tuple" "int" = some false := by decide +kernel
@[simp] theorem kb_tuple_bool : kitB "tuple" "bool" = some false := by decide +kernel
@[simp] theorem kb_tuple_str : kitB "tuple" "str" = some false := by decide +kernel
@[simp] theorem kb_tuple_tuple : kitB "tuple" "tuple" = some true := by decide +kernel
@[simp] theorem kb_tuple_list : kitB "tuple" "list" = some false := by decide +kernel
@[simp] theorem kb_tuple_dict : kitB "tuple" "dict" = some false := by decide +kernel
@[simp] theorem kb_list_int : kitB "list" "int" = some false := by decide +kernel
@[simp] theorem kb_list_bool : kitB "list" "bool" = some false := by decide +kernel
@[simp] theorem kb_list_str : kitB "list" "str" = some false := by decide +kernel
@[simp] theorem kb_list_tuple : kitB "list" "tuple" = some false := by decide +kernel
@[simp] theorem kb_list_list : kitB "list" "list" = some true := by decide +kernel
@[simp] theorem kb_list_dict : kitB "list" "dict" = some false := by decide +kernel
@[simp] theorem kb_dict_int : kitB "dict" "int" = some false := by decide +kernel
@[simp] theorem kb_dict_bool : kitB "dict" "bool" = some false := by decide +kernel
@[simp] theorem kb_dict_str : kitB "dict" "str" = some false := by decide +kernel
@[simp] theorem kb_dict_tuple : kitB "dict" "tuple" = some false := by decide +kernel
@[simp] theorem kb_dict_list : kitB "dict" "list" = some false := by decide +kernel
@[simp] theorem kb_dict_dict : kitB "dict" "dict" = some true := by decide +kernel
@[simp] theorem den_e0 {i} : (Ex.var i).den = { e := dVar i } := rfl
@[simp] theorem den_e1 {n} : (Ex.cI n).den = { e := dC (.int n) } := rfl
@[simp] theorem den_e2 {s} : (Ex.cS s).den = { e := dC (.str s) } := rfl
@[simp] theorem den_e3 {b} : (Ex.cB b).den = { e := dC (.bl b) } := rfl
@[simp] theorem den_e4  : (Ex.cN ).den = { e := dC .non } := rfl
@[simp] theorem den_e5 {u0} {d} : (Ex.gl u0 d).den = { e := dC d } := rfl
@[simp] theorem den_e6 {u0} {d} : (Ex.cst u0 d).den = { e := dC d } := rfl
@[simp] theorem den_e7 {t} : (Ex.ty t).den = { e := dC (.ty t.ty) } := rfl
@[simp] theorem den_e8 {o} {a} {b} : (Ex.bin o a b).den = { e := dBin o.op a.den.e b.den.e } := rfl
@[simp] theorem den_e9 {o} {a} {b} : (Ex.cmp o a b).den = { e := dBin o.op a.den.e b.den.e } := rfl
@[simp] theorem den_e10 {ng} {a} {b} : (Ex.dIn ng a b).den = { e := dBin (if ng then opDNotIn else opDIn) a.den.e b.den.e } := rfl
@[simp] theorem den_e11 {o} {o'} {a} {b} {c} : (Ex.chain o o' a b c).den = { e := dChain o.op o'.op a.den.e b.den.e c.den.e } := rfl
@[simp] theorem den_e12 {a} {b} : (Ex.and a b).den = { e := dAndV a.den.e b.den.e } := rfl
@[simp] theorem den_e13 {a} {b} : (Ex.or a b).den = { e := dOrV a.den.e b.den.e } := rfl
@[simp] theorem den_e14 {a} : (Ex.not a).den = { e := dNotV a.den.e } := rfl
@[simp] theorem den_e15 {a} : (Ex.neg a).den = { e := dNeg a.den.e } := rfl
@[simp] theorem den_e16 {t} {a} {b} : (Ex.ite t a b).den = { e := dIte t.den.t a.den.e b.den.e } := rfl
@[simp] theorem den_e17 {a} : (Ex.tup a).den = { e := dTup a.den.a } := rfl
@[simp] theorem den_e18 {a} : (Ex.lst a).den = { e := dLst a.den.a } := rfl
@[simp] theorem den_e19  : (Ex.nil ).den = { a := aNil } := rfl
@[simp] theorem den_e20 {a} {r} : (Ex.cons a r).den = { a := aCons a.den.e r.den.a } := rfl
@[simp] theorem den_e21 {a} {b} : (Ex.ix a b).den = { e := dBin opIx a.den.e b.den.e } := rfl
@[simp] theorem den_e22 {a} {b} : (Ex.dget a b).den = { e := dBin opDGet a.den.e b.den.e } := rfl
@[simp] theorem den_e23 {a} {lo} {hi} : (Ex.sl a lo hi).den = { e := dSl a.den.e lo.den.o hi.den.o } := rfl
@[simp] theorem den_e24 {a} : (Ex.rev a).den = { e := dRev a.den.e } := rfl
@[simp] theorem den_e25  : (Ex.noP ).den = { o := dNoPart } := rfl
@[simp] theorem den_e26 {a} : (Ex.someP a).den = { o := dPart a.den.e } := rfl
@[simp] theorem den_e27 {c} {f} {o} : (Ex.fld c f o).den = { e := dFld c f o.den.e } := rfl
@[simp] theorem den_e28 {e} {a} : (Ex.call e a).den = { e := dCall e.ar e.sp a.den.a } := rfl
@[simp] theorem den_e29 {e} {o} {a} : (Ex.meth e o a).den = { e := dMeth (whName e.wh) (whMeth e.wh) e.ar e.sp o.den.e a.den.a } := rfl
@[simp] theorem den_e30 {e} {a} : (Ex.make e a).den = { e := dMake (whName e.wh) e.ar e.sp a.den.a } := rfl
@[simp] theorem den_e31 {b} {a} : (Ex.bt b a).den = { e := dApp b.op a.den.a } := rfl
@[simp] theorem den_e32 {m} {o} {a} : (Ex.mth m o a).den = { e := dMthT isLstD m.op o.den.e a.den.a } := rfl
@[simp] theorem den_e33 {o} {i} {y} : (Ex.get2 o i y).den = { e := dGet2 o.den.e i.den.e y.den.e } := rfl
@[simp] theorem den_e34  : (Ex.dK ).den = { e := dNewK } := rfl
@[simp] theorem den_e35  : (Ex.dT ).den = { e := dNewT } := rfl
@[simp] theorem den_e36 {a} : (Ex.disp a).den = { e := dDisp a.den.dk a.den.dv } := rfl
@[simp] theorem den_e37  : (Ex.dp0 ).den = { dv := aNil } := rfl
@[simp] theorem den_e38 {k} {v} {r} : (Ex.dpC k v r).den = { dk := k :: r.den.dk, dv := aCons v.den.e r.den.dv } := rfl
@[simp] theorem den_e39 {c} {it} {t} {e} : (Ex.lc c it t e).den = { e := dLc it.den.i c t.den.t e.den.e } := rfl
@[simp] theorem den_e40 {g0} {c} {it} {t} {e} : (Ex.lcC g0 c it t e).den = { e := dLcC g0 it.den.i c t.den.t e.den.e } := rfl
@[simp] theorem den_e41 {a} : (Ex.iSeq a).den = { i := dSeqI a.den.e } := rfl
@[simp] theorem den_e42 {a} : (Ex.iR1 a).den = { i := dRng1 a.den.e } := rfl
@[simp] theorem den_e43 {a} {b} : (Ex.iR2 a b).den = { i := dRng2 a.den.e b.den.e } := rfl
@[simp] theorem den_e44 {a} : (Ex.iEn a).den = { i := dEnum a.den.e } := rfl
@[simp] theorem den_e45 {a} : (Ex.tv a).den = { t := dTst a.den.e } := rfl
@[simp] theorem den_e46 {o} {a} {b} : (Ex.tcmp o a b).den = { t := dTst (dBin o.op a.den.e b.den.e) } := rfl
@[simp] theorem den_e47 {ng} {a} {b} : (Ex.tdIn ng a b).den = { t := dTst (dBin (if ng then opDNotIn else opDIn) a.den.e b.den.e) } := rfl
@[simp] theorem den_e48 {o} {o'} {a} {b} {c} : (Ex.tchain o o' a b c).den = { t := dTst (dChain o.op o'.op a.den.e b.den.e c.den.e) } := rfl
@[simp] theorem den_e49 {t} : (Ex.tnot t).den = { t := dNotT t.den.t } := rfl
@[simp] theorem den_e50 {a} {b} : (Ex.tand a b).den = { t := dAndT a.den.t b.den.t } := rfl
@[simp] theorem den_e51 {a} {b} : (Ex.tor a b).den = { t := dOrT a.den.t b.den.t } := rfl
@[simp] theorem den_e52  : (Ex.tyes ).den = { t := dYes } := rfl
@[simp] theorem den_e53 {i} : (Ex.gN i).den = { g := GL.gN i } := rfl
@[simp] theorem den_e54 {g0} {i} : (Ex.gNc g0 i).den = { g := GL.gNc g0 i } := rfl
@[simp] theorem den_e55 {n} {a} : (Ex.gT n a).den = { g := GL.gT n a.den.gs } := rfl
@[simp] theorem den_e56  : (Ex.gs0 ).den = { gs := gsNil } := rfl
@[simp] theorem den_e57 {a} {r} : (Ex.gsC a r).den = { gs := gsCons a.den.g r.den.gs } := rfl
@[simp] theorem den_e58 {k} {o} {i} : (Ex.gSub k o i).den = { g := gS o.den.e i.den.e k.op } := rfl
@[simp] theorem den_e59 {k} {u1} {is} : (Ex.lam k u1 is).den = { e := dLam k is } := rfl
@[simp] theorem den_e60 {cs} {o} {a} : (Ex.clo cs o a).den = { e := dClo cs o.den.e a.den.a } := rfl
@[simp] theorem den_e61  : (Ex.stop ).den = { e := fun _ _ _ _ => False } := rfl
@[simp] theorem den_e62 {i} {a} {u2} {b} : (Ex.isE i a u2 b).den = { e := dIsE i a b } := rfl
@[simp] theorem den_s0 {a} : (Sx.expr a).den = sExpr a.den.e := rfl
@[simp] theorem den_s1 {a} : (Sx.ret a).den = sRet a.den.e := rfl
@[simp] theorem den_s2  : (Sx.retN ).den = sRetN := rfl
@[simp] theorem den_s3  : (Sx.pass ).den = sPass := rfl
@[simp] theorem den_s4 {a} {t} : (Sx.asg a t).den = sAsg a.den.e t.den.g := rfl
@[simp] theorem den_s5 {is} {a} : (Sx.par is a).den = sPar is a.den.a := rfl
@[simp] theorem den_s6 {i} {c} {it} {t} {e} : (Sx.setLc none i c it t e).den = sAsg (dLc it.den.i c t.den.t e.den.e) (GL.gN i) := rfl
@[simp] theorem den_s7 {g0} {i} {c} {it} {t} {e} : (Sx.setLc (some g0) i c it t e).den = sAsg (dLcC g0 it.den.i c t.den.t e.den.e) (GL.gN i) := rfl
@[simp] theorem den_s8 {c} {f} {o} {a} : (Sx.fld c f o a).den = sFldD c f o.den.e a.den.e := rfl
@[simp] theorem den_s9 {t} {a} {b} : (Sx.ite t a b).den = sIf t.den.t a.den b.den := rfl
@[simp] theorem den_s10  : (Sx.nil ).den = sPass := rfl
@[simp] theorem den_s11 {a} {b} : (Sx.seq a b).den = sSeq a.den b.den := rfl
@[simp] theorem den_s12 {it} {tg} {b} : (Sx.for_ it tg b).den = sFor it.den.i tg.den.g b.den := rfl
@[simp] theorem den_s13 {t} {b} : (Sx.while_ t b).den = sWhile t.den.t b.den := rfl
@[simp] theorem den_s14 {x} : (Sx.raise x).den = GL.sRaise x := rfl
@[simp] theorem den_s15  : (Sx.stop ).den = fun _ _ _ _ => False := rfl
@[simp] theorem tn1 : Tn.ty .int = "int" := rfl
@[simp] theorem tn2 : Tn.ty .bool = "bool" := rfl
@[simp] theorem tn3 : Tn.ty .str = "str" := rfl
@[simp] theorem tn4 : Tn.ty .tuple = "tuple" := rfl
@[simp] theorem tn5 : Tn.ty .list = "list" := rfl
@[simp] theorem tn6 : Tn.ty .dict = "dict" := rfl
section
variable {ρ : Rho} {G : GS} {Q : DK} {E : XD} {D0 : DEnds} {QA : List D → GS → Prop} {QT : Bool → GS → Prop} {a b c : DE} {ar r : DA} {t u : DT} {x y : DS} {op op' : OpD} {oa : OpA} {i n : Nat} {d : D} {g : DG} {gs : DGs} {ds : List D} {PG : Rho → GS → Prop} {sp : Spec} {cn : Str} {opm : OpM} {ty : GS → D → Prop} {it : DI} {os : OpS} {lo hi : DO} {z : Bool} {k : Int}
@[simp] theorem m_c : dC d ρ G Q E = Q d G := rfl
@[simp] theorem m_bin : dBin op a b ρ G Q E = a ρ G (fun x G1 => b ρ G1 (fun y G2 => op x y G2 Q E) E) E := rfl
@[simp] theorem m_andV : dAndV a b ρ G Q E = a ρ G (dBool fun c G1 => if c = true then b ρ G1 Q E else Q (.bl false) G1) E := rfl
@[simp] theorem m_orV : dOrV a b ρ G Q E = a ρ G (dBool fun c G1 => if c = true then Q (.bl true) G1 else b ρ G1 Q E) E := rfl
@[simp] theorem m_notV : dNotV a ρ G Q E = a ρ G (dBool fun c G1 => Q (.bl (!c)) G1) E := rfl
@[simp] theorem m_neg : dNeg a ρ G Q E = a ρ G (dInt fun i G1 => Q (.int (-i)) G1) E := rfl
@[simp] theorem m_ite : dIte t a b ρ G Q E = t ρ G (fun c G1 => if c = true then a ρ G1 Q E else b ρ G1 Q E) E := rfl
@[simp] theorem m_chain : dChain op op' a b c ρ G Q E = a ρ G (fun x G1 => b ρ G1 (fun y G2 => op x y G2 (dBool fun k G3 => if k = true then c ρ G3 (fun z G4 => op' y z G4 Q E) E else Q (.bl false) G3) E) E) E := rfl
@[simp] theorem m_tup : dTup ar ρ G Q E = ar ρ G (fun ds G1 => ds.length ≤ 100000 ∧ Q (.tup ds) G1) E := rfl
@[simp] theorem m_lst : dLst ar ρ G Q E = ar ρ G (fun ds G1 => ds.length ≤ 100000 ∧ dNew G1 (.lst ds) Q) E := rfl
@[simp] theorem m_nil : aNil ρ G QA E = QA [] G := rfl
@[simp] theorem m_cons : aCons a r ρ G QA E = a ρ G (fun d G1 => r ρ G1 (fun ds G2 => QA (d :: ds) G2) E) E := rfl
@[simp] theorem m_app : dApp oa ar ρ G Q E = ar ρ G (fun ds G1 => oa ds G1 Q E) E := rfl
@[simp] theorem m_call : dCall n sp ar ρ G Q E = ar ρ G (fun ds G1 => ds.length = n ∧ sp ds G1 Q E) E := rfl
@[simp] theorem m_mth : dMthT ty opm a ar ρ G Q E = a ρ G (fun d G1 => ty G1 d ∧ ar ρ G1 (fun ds G2 => opm d ds G2 Q) E) E := rfl
@[simp] theorem m_tst : dTst a ρ G QT E = a ρ G (dBool QT) E := rfl
@[simp] theorem m_notT : dNotT t ρ G QT E = t ρ G (fun b G1 => QT (!b) G1) E := rfl
@[simp] theorem m_andT : dAndT t u ρ G QT E = t ρ G (fun c G1 => if c = true then u ρ G1 QT E else QT false G1) E := rfl
@[simp] theorem m_orT : dOrT t u ρ G QT E = t ρ G (fun c G1 => if c = true then QT true G1 else u ρ G1 QT E) E := rfl
@[simp] theorem m_yes : dYes ρ G QT E = QT true G := rfl
@[simp] theorem m_bool : dBool QT (.bl z) G = QT z G := rfl
@[simp] theorem m_int {QI : Int → GS → Prop} : dInt QI (.int k) G = QI k G := rfl
@[simp] theorem m_gN : GL.gN i d ρ G PG E = PG (ρ.set i (some d)) G := rfl
@[simp] theorem m_gs0 : gsNil ds ρ G PG E = (ds = [] ∧ PG ρ G) := rfl
@[simp] theorem m_gsC : gsCons g gs (d :: ds) ρ G PG E = g d ρ G (fun ρ' G' => gs ds ρ' G' PG E) E := rfl
@[simp] theorem m_gT : gT n gs (.tup ds) ρ G PG E = (ds.length = n ∧ gs ds ρ G PG E) := rfl
@[simp] theorem m_gS : gS a b os d ρ G PG E = a ρ G (fun x G1 => b ρ G1 (fun y G2 => os x y d G2 (PG ρ)) E) E := rfl
@[simp] theorem m_expr : sExpr a D0 E ρ G = a ρ G (fun _ G1 => D0.nx ρ G1) E := rfl
@[simp] theorem m_ret : sRet a D0 E ρ G = a ρ G D0.rt E := rfl
@[simp] theorem m_retN : sRetN D0 E ρ G = D0.rt .non G := rfl
@[simp] theorem m_pass : sPass D0 E ρ G = D0.nx ρ G := rfl
@[simp] theorem m_asg : sAsg a g D0 E ρ G = a ρ G (fun d G1 => g d ρ G1 D0.nx E) E := rfl
@[simp] theorem m_if : sIf t x y D0 E ρ G = t ρ G (fun c G1 => if c = true then x D0 E ρ G1 else y D0 E ρ G1) E := rfl
@[simp] theorem m_seq : sSeq x y D0 E ρ G = x { D0 with nx := y D0 E } E ρ G := rfl
@[simp] theorem m_raise : GL.sRaise cn D0 E ρ G = E cn [] G := rfl
@[simp] theorem m_par {is : List Nat} : sPar is ar D0 E ρ G = ar ρ G (fun ds G1 => match setAll is ds ρ with | some ρ1 => D0.nx ρ1 G1 | none => False) E := rfl
@[simp] theorem m_for : sFor it g x D0 E ρ G = it ρ G (fun ds stab G1 => forD g x D0 E stab ds ρ G1) E := rfl
@[simp] theorem m_noPart {QO : Option Int → GS → Prop} : dNoPart ρ G QO E = QO none G := rfl
@[simp] theorem m_part {QO : Option Int → GS → Prop} : dPart a ρ G QO E = a ρ G (dInt fun i G1 => QO (some i) G1) E := rfl
@[simp] theorem m_sl : dSl a lo hi ρ G Q E = a ρ G (fun d G1 => lo ρ G1 (fun l G2 => hi ρ G2 (fun h G3 => opSl d l h G3 Q) E) E) E := rfl
@[simp] theorem m_rev : dRev a ρ G Q E = a ρ G (fun d G1 => opRev d G1 Q) E := rfl
@[simp] theorem m_var : dVar i ρ G Q E = (match ρ[i]? with | some (some d) => Q d G | _ => False) := rfl
@[simp] theorem m_ends1 {lam : Bool} {g0 : GS} : (endsD lam g0 Q).nx ρ G = Q .non (cutK lam g0 G) := rfl
@[simp] theorem m_ends2 {lam : Bool} {g0 : GS} : (endsD lam g0 Q).rt d G = Q d (cutK lam g0 G) := rfl
@[simp] theorem m_cut {g0 : GS} : cutK false g0 G = G := rfl
@[simp] theorem m_cut2 {g0 : GS} : cutK true g0 G = keepC g0 G := rfl
end
@[simp] theorem ty1 {G : GS} : tyD G .non = some "NoneType" := rfl
@[simp] theorem ty2 {G : GS} {b : Bool} : tyD G (.bl b) = some "bool" := rfl
@[simp] theorem ty3 {G : GS} {i : Int} : tyD G (.int i) = some "int" := rfl
@[simp] theorem ty4 {G : GS} {s : Str} : tyD G (.str s) = some "str" := rfl
@[simp] theorem ty5 {G : GS} {ds : List D} : tyD G (.tup ds) = some "tuple" := rfl
@[simp] theorem co_eq : CO.op .eq = opEq := rfl
@[simp] theorem co_ne : CO.op .ne = opNe := rfl
@[simp] theorem co_lt : CO.op .lt = opCmp fun i j => decide (i < j) := rfl
@[simp] theorem co_le : CO.op .le = opCmp fun i j => decide (i ≤ j) := rfl
@[simp] theorem co_gt : CO.op .gt = opCmp fun i j => decide (j < i) := rfl
@[simp] theorem co_ge : CO.op .ge = opCmp fun i j => decide (j ≤ i) := rfl
@[simp] theorem co_isN : CO.op .isN = opIsN := rfl
@[simp] theorem co_notN : CO.op .notN = opNotN := rfl
@[simp] theorem co_inF : CO.op .inF = opInF false := rfl
@[simp] theorem co_notInF : CO.op .notInF = opInF true := rfl
@[simp] theorem co_inP : CO.op .inP = opInP false := rfl
@[simp] theorem co_notInP : CO.op .notInP = opInP true := rfl
@[simp] theorem co_inS : CO.op .inS = opInS false := rfl
@[simp] theorem co_notInS : CO.op .notInS = opInS true := rfl
@[simp] theorem bo_add : BO.op .add = opAdd := rfl
@[simp] theorem bo_sub : BO.op .sub = opSub := rfl
@[simp] theorem bo_mul : BO.op .mul = opMul := rfl
@[simp] theorem bo_div : BO.op .div = opDiv := rfl
@[simp] theorem bo_mod : BO.op .mod = opMod := rfl
@[simp] theorem bo_pow : BO.op .pow = opPow := rfl
@[simp] theorem bt_len : Bt.op .len = opLen := rfl
@[simp] theorem bt_isi : Bt.op .isi = opIsi := rfl
@[simp] theorem bt_sum : Bt.op .sum = opSum := rfl
@[simp] theorem bt_min : Bt.op .min = opMin := rfl
@[simp] theorem bt_max : Bt.op .max = opMax := rfl
@[simp] theorem bt_sortI : Bt.op .sortI = opSortI := rfl
@[simp] theorem bt_list : Bt.op .list = opList := rfl
@[simp] theorem bt_tuple : Bt.op .tuple = opTuple := rfl
@[simp] theorem bt_int : Bt.op .int = opIntC := rfl
@[simp] theorem bt_str : Bt.op .str = opStrC := rfl
@[simp] theorem mt_append : Mt.op .append = opAppend := rfl
@[simp] theorem mt_extend : Mt.op .extend = opExtend := rfl
@[simp] theorem mt_pop : Mt.op .pop = opPopAt := rfl
@[simp] theorem mt_count : Mt.op .count = opCount := rfl
@[simp] theorem mt_index : Mt.op .index = opIndex := rfl
@[simp] theorem sk_l : SK.op .lst = opSetL := rfl
@[simp] theorem sk_d : SK.op .dct = opSetD := rfl
theorem tyD_ref {G : GS} {a : Addr} (h : (tyD G (.ref a)).isSome = true) : tyD G (.ref a) = some "list" ∨ tyD G (.ref a) = some "dict" := by
  unfold tyD at h ⊢
  simp only at h ⊢
  split at h <;> simp_all
end GL
set_option Elab.async false
set_option linter.all false
set_option maxRecDepth 100000
set_option maxHeartbeats 8000000
/-! K1: pages, in letters. -/
namespace GL
open PySem PySem.Spec PyProof.Rows L2
/-! ### is_number -/
def isNumB (d : D) (lo hi : Int) : Bool := match d with
  | .int i => decide (lo ≤ i) && decide (i ≤ hi)
  | _ => false
def sp_is_number : Spec := fun ds G Q _ => match ds with
  | [d, .int lo, .int hi] => (tyD G d).isSome = true ∧ Q (.bl (isNumB d lo hi)) G
  | _ => False
def e_is_number : FnE := ⟨.glob "is_number", 3, 1, sp_is_number⟩
@[simp] theorem e_is_number_ar : e_is_number.ar = 3 := rfl
@[simp] theorem e_is_number_sp {d : D} {lo hi : Int} {G : GS} {Q : DK} {E : XD} : e_is_number.sp [d, .int lo, .int hi] G Q E = ((tyD G d).isSome = true ∧ Q (.bl (isNumB d lo hi)) G) := rfl
def n_is_number : List Str := ["part", "low", "high"]
def il_is_number (g0 : GS) : Sx :=
  (.seq (.ret (.and (.bt .isi (.cons (.var 0) (.cons (.ty .int) .nil))) (.and (.not (.bt .isi (.cons (.var 0) (.cons (.ty .bool) .nil)))) (.chain .le .le (.var 1) (.var 0) (.var 2)))))
  .nil)
theorem k_is_number : Keeps n_is_number 3 false il_is_number sp_is_number := by
  intro ds G Q E hl h
  unfold sp_is_number at h
  split at h
  · rename_i d lo hi
    obtain ⟨h1, h2⟩ := h
    simp [il_is_number, startD, n_is_number, Bt.op, opIsi, CO.op]
    cases d with
    | int i =>
      simp [opCmp]
      simp [isNumB] at h2
      by_cases q : lo ≤ i
      · simpa [q] using h2
      · simpa [q] using h2
    | ref a => rcases tyD_ref h1 with e | e <;> · simp [e]; exact h2
    | ty n => cases h1
    | _ => simp; exact h2
  · exact h.elim
/-! ### is_place -/
def isPlaceB (d : D) : Bool := match d with
  | .tup [a, b] => isNumB a 0 11 && isNumB b 0 7
  | _ => false
/-- values whose class isinstance knows, so deep -/
def tame (G : GS) : Nat → D → Prop
  | 0, d => (tyD G d).isSome = true
  | n + 1, d => (tyD G d).isSome = true ∧ (match d with
    | .tup ds => ∀ e ∈ ds, tame G n e
    | _ => True)
theorem tame.ty {G : GS} {n : Nat} {d : D} (h : tame G n d) : (tyD G d).isSome = true := by
  cases n with
  | zero => exact h
  | succ n => exact h.1
def sp_is_place : Spec := fun ds G Q _ => match ds with
  | [d] => tame G 1 d ∧ Q (.bl (isPlaceB d)) G
  | _ => False
def e_is_place : FnE := ⟨.glob "is_place", 1, 2, sp_is_place⟩
@[simp] theorem e_is_place_ar : e_is_place.ar = 1 := rfl
@[simp] theorem e_is_place_sp {d : D} {G : GS} {Q : DK} {E : XD} : e_is_place.sp [d] G Q E = (tame G 1 d ∧ Q (.bl (isPlaceB d)) G) := rfl
def n_is_place : List Str := ["place"]
def il_is_place (g0 : GS) : Sx :=
  (.seq (.ite (.tor (.tnot (.tv (.bt .isi (.cons (.var 0) (.cons (.ty .tuple) .nil))))) (.tcmp .ne (.bt .len (.cons (.var 0) .nil)) (.cI 2))) (.seq (.ret (.cB false))
  .nil) .nil)
  (.seq (.ret (.and (.call e_is_number (.cons (.ix (.var 0) (.cI 0)) (.cons (.cI 0) (.cons (.bin .sub (.gl "MOST_PAGES" (.int 12)) (.cI 1)) .nil)))) (.call e_is_number (.cons (.ix (.var 0) (.cI 1)) (.cons (.cI 0) (.cons (.bin .sub (.gl "SLOTS" (.int 8)) (.cI 1)) .nil))))))
  .nil))
theorem k_is_place : Keeps n_is_place 1 false il_is_place sp_is_place := by
  intro ds G Q E hl h
  unfold sp_is_place at h
  split at h
  · rename_i d
    obtain ⟨⟨h1, h3⟩, h2⟩ := h
    simp [il_is_place, startD, n_is_place, Bt.op, opIsi, CO.op, BO.op]
    cases d with
    | tup ds =>
      simp [opLen, lenD, opNe, scEq]
      match ds, h3, h2 with
      | [a, b], h3, h2 =>
        have ha := h3 a (by simp)
        have hb := h3 b (by simp)
        simp [opIx, seqOf, atI, ixN, opSub, ha.ty, hb.ty]
        simp [isPlaceB] at h2
        by_cases q : isNumB a 0 11 = true
        · simpa [q] using h2
        · simpa [q] using h2
      | [], h3, h2 => simpa [isPlaceB] using h2
      | [_], h3, h2 => simpa [isPlaceB] using h2
      | _ :: _ :: _ :: r, h3, h2 =>
        have : ¬ ((r.length : Int) + 1 + 1 + 1 = 2) := by omega
        simp [this]
        simpa [isPlaceB] using h2
    | ref a => rcases tyD_ref h1 with e | e <;> · simp [e]; exact h2
    | ty n => cases h1
    | _ => simp; exact h2
  · exact h.elim
end GL
set_option Elab.async false
set_option linter.all false
set_option maxRecDepth 100000
set_option maxHeartbeats 8000000
/-! K2: comprehensions, loops, comparisons with []. -/
namespace GL
open PySem PySem.Spec PyProof.Rows L2
theorem gsub_gup {G G' : GS} {p : Addr} {o : GO} (s : GSub G G') (h : G p = none) : GSub G (gup G' p o) := fun a u e => by
  rw [gup_ne]
  · exact s a u e
  · intro z
    rw [z, h] at e
    cases e
/-- a comprehension without a trace but its list -/
theorem comp_pure {tg : CT} {t : DT} {e : DE} {ρ : Rho} {stab : GS → Prop} {Q : DK} {G : GS} {P : D → Bool} {f : D → D} : ∀ {ds : List D} {acc : List D}, acc.length + ds.length ≤ 100000 → (∀ G', GSub G G' → stab G') →
    (∀ d ∈ ds, ∃ ρ1, tg.put d ρ = some ρ1 ∧ ∀ G', GSub G G' → (∀ QT, QT (P d) G' → t ρ1 G' QT noX) ∧ (P d = true → ∀ QE, QE (f d) G' → e ρ1 G' QE noX)) → ∀ p, G p = none → Q (.ref p) (gup G p (.lst (acc ++ (ds.filter P).map f))) → compD tg t e ρ stab p Q ds (gup G p (.lst acc))
  | [], acc, hl, hs, h, p, hp, q => by
    unfold compD
    refine ⟨hs _ (gsub_gup (GSub.refl G) hp), ?_⟩
    simpa using q
  | d :: ds, acc, hl, hs, h, p, hp, q => by
    obtain ⟨ρ1, h1, h2⟩ := h d (by simp)
    have sub : GSub G (gup G p (.lst acc)) := gsub_gup (GSub.refl G) hp
    obtain ⟨h3, h4⟩ := h2 _ sub
    unfold compD
    refine ⟨hs _ sub, ?_⟩
    rw [h1]
    refine h3 _ ?_
    simp only [List.length_cons] at hl
    by_cases c : P d = true
    · rw [if_pos c]
      refine h4 c _ ?_
      have e1 : lstOf (gup G p (.lst acc)) p = some acc := by
        unfold lstOf
        rw [gup_same]
      rw [e1]
      refine ⟨by omega, ?_⟩
      have e2 : gup (gup G p (.lst acc)) p (.lst (acc ++ [f d])) = gup G p (.lst (acc ++ [f d])) := by
        funext b
        unfold gup
        split <;> rfl
      rw [e2]
      refine comp_pure (by simp; omega) hs (fun d' hd => h d' (List.mem_cons_of_mem _ hd)) p hp ?_
      rw [List.filter_cons, if_pos c] at q
      simpa using q
    · rw [if_neg c]
      refine comp_pure (by omega) hs (fun d' hd => h d' (List.mem_cons_of_mem _ hd)) p hp ?_
      rw [List.filter_cons, if_neg c] at q
      exact q
/-- plain data, so deep at the most -/
def pyDep (n : Nat) (d : D) : Prop := ∃ x, py d = some x ∧ x.depth ≤ n
theorem pyL_dep {n : Nat} : ∀ {ds : List D}, (∀ d ∈ ds, pyDep n d) → ∃ xs, pyL ds = some xs ∧ PyData.depthAll xs ≤ n ∧ xs.length = ds.length
  | [], _ => ⟨[], by unfold pyL; rfl, Nat.zero_le _, rfl⟩
  | d :: ds, h => by
    obtain ⟨x, h1, h2⟩ := h d (by simp)
    obtain ⟨xs, h3, h4, h5⟩ := pyL_dep (ds := ds) fun e he => h e (List.mem_cons_of_mem _ he)
    refine ⟨x :: xs, ?_, ?_, by simp [h5]⟩
    · unfold pyL
      rw [h1, h3]
      rfl
    · unfold PyData.depthAll
      exact Nat.max_le.mpr ⟨h2, h4⟩
theorem pyDep.tup {n : Nat} {ds : List D} (h : ∀ d ∈ ds, pyDep n d) : pyDep (n + 1) (.tup ds) := by
  obtain ⟨xs, h1, h2, _⟩ := pyL_dep h
  refine ⟨.tuple xs, ?_, ?_⟩
  · unfold py
    rw [h1]
    rfl
  · unfold PyData.depth
    omega
theorem pyDep.mono {n m : Nat} {d : D} (h : pyDep n d) (l : n ≤ m) : pyDep m d := by
  obtain ⟨x, h1, h2⟩ := h
  exact ⟨x, h1, Nat.le_trans h2 l⟩
theorem pyDep_int {i : Int} : pyDep 0 (.int i) := ⟨.int i, by unfold py; rfl, by unfold PyData.depth; exact Nat.le_refl _⟩
theorem pyDep_non : pyDep 0 .non := ⟨.none, by unfold py; rfl, by unfold PyData.depth; exact Nat.le_refl _⟩
theorem pyDep_bl {b : Bool} : pyDep 0 (.bl b) := ⟨.bool b, by unfold py; rfl, by unfold PyData.depth; exact Nat.le_refl _⟩
theorem pyDep_str {s : Str} (h : PyData.strOk s = true) : pyDep 0 (.str s) := ⟨.str s, by unfold py; rw [if_pos h], by unfold PyData.depth; exact Nat.le_refl _⟩
theorem nil_cmp {G : GS} {p q : Addr} {xs : List D} (hp : G p = some (.lst xs)) (hq : G q = some (.lst [])) (hd : ∀ d ∈ xs, pyDep 60 d) : ∃ x, pyG G (.ref p) = some x ∧ pyG G (.ref q) = some (.list []) ∧ x.depth ≤ 64 ∧ PyData.eqv x (.list []) = xs.isEmpty := by
  obtain ⟨ys, h1, h2, h3⟩ := pyL_dep hd
  refine ⟨.list ys, ?_, ?_, ?_, ?_⟩
  · unfold pyG
    simp only [hp, h1]
    rfl
  · unfold pyG
    simp only [hq]
    unfold pyL
    rfl
  · unfold PyData.depth
    omega
  · cases xs with
    | nil =>
      obtain rfl : ys = [] := List.length_eq_zero_iff.mp h3
      rfl
    | cons a r =>
      cases ys with
      | nil => cases h3
      | cons b t => rfl
theorem opEq_nil {G : GS} {p q : Addr} {xs : List D} {Q : DK} {E : XD} (hp : G p = some (.lst xs)) (hq : G q = some (.lst [])) (hd : ∀ d ∈ xs, pyDep 60 d) (h : Q (.bl xs.isEmpty) G) : opEq (.ref p) (.ref q) G Q E := by
  obtain ⟨x, h1, h2, h3, h4⟩ := nil_cmp hp hq hd
  unfold opEq
  simp only [scEq, h1, h2]
  exact ⟨⟨h3, by decide⟩, by rw [h4]; exact h⟩
theorem opNe_nil {G : GS} {p q : Addr} {xs : List D} {Q : DK} {E : XD} (hp : G p = some (.lst xs)) (hq : G q = some (.lst [])) (hd : ∀ d ∈ xs, pyDep 60 d) (h : Q (.bl (!xs.isEmpty)) G) : opNe (.ref p) (.ref q) G Q E := by
  obtain ⟨x, h1, h2, h3, h4⟩ := nil_cmp hp hq hd
  unfold opNe
  simp only [scEq, h1, h2]
  exact ⟨⟨h3, by decide⟩, by rw [h4]; exact h⟩
/-- a loop by an invariant over what is left -/
theorem for_ind {tg : DG} {b : DS} {Z : DEnds} {E : XD} {stab : GS → Prop} (J : List D → Rho → GS → Prop) (h0 : ∀ ρ G, J [] ρ G → stab G ∧ Z.nx ρ G)
    (hs : ∀ d ds ρ G, J (d :: ds) ρ G → stab G ∧ ∀ N : Rho → GS → Prop, (∀ ρ' G', J ds ρ' G' → N ρ' G') → tg d ρ G (fun ρ1 G1 => b { Z with nx := N, ct := N, bk := Z.nx } E ρ1 G1) E) : ∀ ds ρ G, J ds ρ G → forD tg b Z E stab ds ρ G
  | [], ρ, G, j => by
    unfold forD
    exact h0 ρ G j
  | d :: ds, ρ, G, j => by
    obtain ⟨h1, h2⟩ := hs d ds ρ G j
    unfold forD
    exact ⟨h1, h2 _ fun ρ' G' j' => for_ind J h0 hs ds ρ' G' j'⟩
end GL
set_option Elab.async false
set_option linter.all false
set_option maxRecDepth 100000
set_option maxHeartbeats 8000000
/-! K3: slots, pages, disks. -/
namespace GL
open PySem PySem.Spec PyProof.Rows L2
/-! ### is_slot -/
def isNextB : D → Bool
  | .non => true
  | d => isPlaceB d
def isSlotB (d : D) : Bool := match d with
  | .tup (.str k :: r) =>
    if k = "free" then (match r with
      | [t] => isNumB t 0 100
      | _ => false)
    else if k = "row" ∨ k = "part" then (match r with
      | [t, .int b, .int s, n] => isNumB t 0 99 && (isNumB (.int b) 0 24 && (isNumB (.int s) 0 24 && (decide (b + s ≤ 24) && (isNextB n && (decide (k = "row") || decide (0 < s))))))
      | _ => false)
    else false
  | _ => false
def sp_is_slot : Spec := fun ds G Q _ => match ds with
  | [d] => tame G 2 d ∧ Q (.bl (isSlotB d)) G
  | _ => False
def e_is_slot : FnE := ⟨.glob "is_slot", 1, 3, sp_is_slot⟩
@[simp] theorem e_is_slot_ar : e_is_slot.ar = 1 := rfl
@[simp] theorem e_is_slot_sp {d : D} {G : GS} {Q : DK} {E : XD} : e_is_slot.sp [d] G Q E = (tame G 2 d ∧ Q (.bl (isSlotB d)) G) := rfl
def n_is_slot : List Str := ["slot"]
def il_is_slot (g0 : GS) : Sx :=
  (.seq (.ite (.tor (.tnot (.tv (.bt .isi (.cons (.var 0) (.cons (.ty .tuple) .nil))))) (.tor (.tcmp .eq (.bt .len (.cons (.var 0) .nil)) (.cI 0)) (.tnot (.tv (.bt .isi (.cons (.ix (.var 0) (.cI 0)) (.cons (.ty .str) .nil))))))) (.seq (.ret (.cB false))
  .nil) .nil)
  (.seq (.ite (.tcmp .eq (.ix (.var 0) (.cI 0)) (.gl "FREE" (.str "free"))) (.seq (.ret (.and (.cmp .eq (.bt .len (.cons (.var 0) .nil)) (.cI 2)) (.call e_is_number (.cons (.ix (.var 0) (.cI 1)) (.cons (.cI 0) (.cons (.bin .add (.gl "MOST_TURN" (.int 99)) (.cI 1)) .nil))))))
  .nil) .nil)
  (.seq (.ite (.tor (.tcmp .notInF (.ix (.var 0) (.cI 0)) (.tup (.cons (.gl "ROW" (.str "row")) (.cons (.gl "PART" (.str "part")) .nil)))) (.tor (.tcmp .ne (.bt .len (.cons (.var 0) .nil)) (.cI 5)) (.tnot (.tv (.call e_is_number (.cons (.ix (.var 0) (.cI 1)) (.cons (.cI 0) (.cons (.gl "MOST_TURN" (.int 99)) .nil)))))))) (.seq (.ret (.cB false))
  .nil) .nil)
  (.seq (.ite (.tor (.tnot (.tv (.call e_is_number (.cons (.ix (.var 0) (.cI 2)) (.cons (.cI 0) (.cons (.gl "CELLS" (.int 24)) .nil)))))) (.tor (.tnot (.tv (.call e_is_number (.cons (.ix (.var 0) (.cI 3)) (.cons (.cI 0) (.cons (.gl "CELLS" (.int 24)) .nil)))))) (.tcmp .gt (.bin .add (.ix (.var 0) (.cI 2)) (.ix (.var 0) (.cI 3))) (.gl "CELLS" (.int 24))))) (.seq (.ret (.cB false))
  .nil) .nil)
  (.seq (.ret (.and (.or (.cmp .isN (.ix (.var 0) (.cI 4)) .cN) (.call e_is_place (.cons (.ix (.var 0) (.cI 4)) .nil))) (.or (.cmp .eq (.ix (.var 0) (.cI 0)) (.gl "ROW" (.str "row"))) (.cmp .gt (.ix (.var 0) (.cI 3)) (.cI 0)))))
  .nil)))))
@[simp] theorem opEq_ss {x y : Str} {G : GS} {Q : DK} {E : XD} : opEq (.str x) (.str y) G Q E = Q (.bl (decide (x = y))) G := rfl
@[simp] theorem opEq_ii {x y : Int} {G : GS} {Q : DK} {E : XD} : opEq (.int x) (.int y) G Q E = Q (.bl (decide (x = y))) G := rfl
@[simp] theorem opNe_ii {x y : Int} {G : GS} {Q : DK} {E : XD} : opNe (.int x) (.int y) G Q E = Q (.bl (!decide (x = y))) G := rfl
@[simp] theorem opNe_bb {x y : Bool} {G : GS} {Q : DK} {E : XD} : opNe (.bl x) (.bl y) G Q E = Q (.bl (!decide (x = y))) G := rfl
@[simp] theorem opEq_ni {y : Int} {G : GS} {Q : DK} {E : XD} : opEq .non (.int y) G Q E = Q (.bl false) G := rfl
@[simp] theorem opAdd_ii {x y : Int} {G : GS} {Q : DK} {E : XD} : opAdd (.int x) (.int y) G Q E = Q (.int (x + y)) G := rfl
@[simp] theorem opSub_ii {x y : Int} {G : GS} {Q : DK} {E : XD} : opSub (.int x) (.int y) G Q E = Q (.int (x - y)) G := rfl
@[simp] theorem opCmp_ii {p : Int → Int → Bool} {x y : Int} {G : GS} {Q : DK} {E : XD} : opCmp p (.int x) (.int y) G Q E = Q (.bl (p x y)) G := rfl
@[simp] theorem opIsN_n {d : D} {G : GS} {Q : DK} {E : XD} : opIsN d .non G Q E = Q (.bl (isNon d)) G := by
  cases d <;> rfl
@[simp] theorem opNotN_n {d : D} {G : GS} {Q : DK} {E : XD} : opNotN d .non G Q E = Q (.bl (!isNon d)) G := by
  cases d <;> rfl
theorem opInF2 {k x y : Str} {G : GS} {Q : DK} {E : XD} : opInF true (.str k) (.tup [.str x, .str y]) G Q E = Q (.bl (!(decide (k = x) || decide (k = y)))) G := by
  have e : inF (.str k) [.str x, .str y] = (decide (k = x) || decide (k = y)) := by
    simp [inF, eqF, Bool.beq_eq_decide_eq, eq_comm]
  show (_ ∧ Q (.bl (if true = true then !inF (.str k) [.str x, .str y] else _)) G) = _
  rw [if_pos rfl, e]
  simp [flatD]
theorem isNumB_int {d : D} {lo hi : Int} (h : isNumB d lo hi = true) : ∃ i, d = .int i ∧ lo ≤ i ∧ i ≤ hi := by
  unfold isNumB at h
  split at h
  · simp at h
    exact ⟨_, rfl, h.1, h.2⟩
  · cases h
def sumLe : D → D → Bool
  | .int b, .int s => decide (b + s ≤ 24)
  | _, _ => false
def posB : D → Bool
  | .int s => decide (0 < s)
  | _ => false
theorem isSlot4 {k : Str} {t b s n : D} (kf : k ≠ "free") (kr : k = "row" ∨ k = "part") : isSlotB (.tup [.str k, t, b, s, n]) = (isNumB t 0 99 && (isNumB b 0 24 && (isNumB s 0 24 && (sumLe b s && (isNextB n && (decide (k = "row") || posB s)))))) := by
  cases b <;> cases s <;> simp [isSlotB, kf, kr, sumLe, posB, isNumB]
theorem k_is_slot : Keeps n_is_slot 1 false il_is_slot sp_is_slot := by
  intro ds G Q E hl h
  unfold sp_is_slot at h
  split at h
  · rename_i d
    obtain ⟨⟨h1, h3⟩, h2⟩ := h
    simp [il_is_slot, startD, n_is_slot, Bt.op, opIsi, CO.op, BO.op]
    cases d with
    | tup ds =>
      simp only at h3
      simp [opLen, lenD]
      cases ds with
      | nil => simpa [isSlotB] using h2
      | cons x r =>
        have hx := (h3 x (by simp)).ty
        have ne : ¬ ((r.length : Int) + 1 = 0) := by omega
        simp [ne, opIx, seqOf, atI, ixN]
        cases x with
        | str k =>
          simp
          by_cases kf : k = "free"
          · subst kf
            match r, h3, h2 with
            | [t], h3, h2 =>
              have ht := (h3 t (by simp)).ty
              simp [ht]
              simpa [isSlotB] using h2
            | [], h3, h2 => simpa [isSlotB] using h2
            | a :: b :: r, h3, h2 =>
              have ne2 : ¬ ((r.length : Int) + 1 + 1 + 1 = 2) := by omega
              simp [ne2]
              simpa [isSlotB] using h2
          · simp only [kf, if_false, opInF2, m_bool]
            by_cases kr : k = "row" ∨ k = "part"
            · have e1 : (decide (k = "row") || decide (k = "part")) = true := by simpa using kr
              rw [e1]
              match r, h3, h2 with
              | [t, b, s, n], h3, h2 =>
                have ht := (h3 t (by simp)).ty
                have hb := (h3 b (by simp)).ty
                have hs := (h3 s (by simp)).ty
                have hn := h3 n (by simp)
                rw [isSlot4 kf kr] at h2
                simp [ht]
                by_cases q1 : isNumB t 0 99 = true
                · simp [q1, hb] at h2 ⊢
                  by_cases q2 : isNumB b 0 24 = true
                  · simp [q2, hs] at h2 ⊢
                    by_cases q3 : isNumB s 0 24 = true
                    · obtain ⟨b', rfl, _⟩ := isNumB_int q2
                      obtain ⟨s', rfl, _⟩ := isNumB_int q3
                      simp [q3] at h2 ⊢
                      by_cases q4 : 24 < b' + s'
                      · have q5 : ¬ (b' + s' ≤ 24) := by omega
                        simpa [q4, q5, sumLe] using h2
                      · have q5 : b' + s' ≤ 24 := by omega
                        simp [q4, q5, sumLe] at h2 ⊢
                        cases n with
                        | non =>
                          simp [isNon, isNextB] at h2 ⊢
                          by_cases q6 : k = "row"
                          · simpa [q6] using h2
                          · simpa [q6, posB] using h2
                        | _ =>
                          simp [isNon, hn]
                          simp [isNextB] at h2
                          split
                          · rename_i q7
                            simp [q7] at h2
                            by_cases q6 : k = "row"
                            · simpa [q6] using h2
                            · simpa [q6, posB] using h2
                          · rename_i q7
                            simpa [q7] using h2
                    · simpa [q3] using h2
                  · simpa [q2] using h2
                · simpa [q1] using h2
              | [], h3, h2 => simpa [isSlotB, kf] using h2
              | [_], h3, h2 => simpa [isSlotB, kf] using h2
              | [_, _], h3, h2 => simpa [isSlotB, kf] using h2
              | [_, _, _], h3, h2 => simpa [isSlotB, kf] using h2
              | _ :: _ :: _ :: _ :: _ :: r, h3, h2 =>
                have ne2 : ¬ ((r.length : Int) + 1 + 1 + 1 + 1 + 1 + 1 = 5) := by omega
                simp [ne2]
                simpa [isSlotB, kf] using h2
            · have e1 : (decide (k = "row") || decide (k = "part")) = false := by simpa using kr
              rw [e1]
              simpa [isSlotB, kf, kr] using h2
        | ref a => rcases tyD_ref hx with e | e <;> · simp [e]; simpa [isSlotB] using h2
        | ty n => cases hx
        | _ => simp; simpa [isSlotB] using h2
    | ref a => rcases tyD_ref h1 with e | e <;> · simp [e]; exact h2
    | ty n => cases h1
    | _ => simp; exact h2
  · exact h.elim
end GL
set_option Elab.async false
set_option linter.all false
set_option maxRecDepth 100000
set_option maxHeartbeats 8000000
/-! K4: cells, pages, disks. -/
namespace GL
open PySem PySem.Spec PyProof.Rows L2
/-! ### are_cells, is_page -/
def areCellsB (d : D) : Bool := match d with
  | .tup ds => decide (ds.length = 24) && ds.all fun e => isNumB e 0 99
  | _ => false
def isPageB (d : D) : Bool := match d with
  | .tup [.tup ss, c] => decide (ss.length = 8) && areCellsB c
  | _ => false
theorem tyD_sub {G G' : GS} {d : D} (s : GSub G G') (h : (tyD G d).isSome = true) : tyD G' d = tyD G d := by
  cases d with
  | ref a =>
    unfold tyD at h ⊢
    simp only at h ⊢
    cases e : G a with
    | none => rw [e] at h; cases h
    | some o => rw [s a o e]
  | _ => rfl
theorem tame_sub {G G' : GS} (s : GSub G G') : ∀ {n : Nat} {d : D}, tame G n d → tame G' n d
  | 0, d, h => by
    show (tyD G' d).isSome = true
    rw [tyD_sub s h]
    exact h
  | n + 1, d, h => by
    refine ⟨by rw [tyD_sub s h.1]; exact h.1, ?_⟩
    have h2 := h.2
    cases d with
    | tup ds => exact fun e he => tame_sub s (h2 e he)
    | _ => trivial
/-- what a list of such items is asked -/
def sp_are_cells : Spec := fun ds G Q _ => match ds with
  | [d] => (tame G 1 d ∧ pyDep 60 d) ∧ ∀ G', GSub G G' → Q (.bl (areCellsB d)) G'
  | _ => False
def e_are_cells : FnE := ⟨.glob "are_cells", 1, 2, sp_are_cells⟩
@[simp] theorem e_are_cells_ar : e_are_cells.ar = 1 := rfl
@[simp] theorem e_are_cells_sp {d : D} {G : GS} {Q : DK} {E : XD} : e_are_cells.sp [d] G Q E = ((tame G 1 d ∧ pyDep 60 d) ∧ ∀ G', GSub G G' → Q (.bl (areCellsB d)) G') := rfl
def n_are_cells : List Str := ["cells", "one"]
def il_are_cells (g0 : GS) : Sx :=
  (.seq (.ite (.tor (.tnot (.tv (.bt .isi (.cons (.var 0) (.cons (.ty .tuple) .nil))))) (.tcmp .ne (.bt .len (.cons (.var 0) .nil)) (.gl "CELLS" (.int 24)))) (.seq (.ret (.cB false))
  .nil) .nil)
  (.seq (.ret (.cmp .eq (.lc (.one 1) (.iSeq (.var 0)) (.tnot (.tv (.call e_is_number (.cons (.var 1) (.cons (.cI 0) (.cons (.gl "MOST_VALUE" (.int 99)) .nil)))))) (.var 1)) (.lst .nil)))
  .nil))
theorem depthAll_mem : ∀ {xs : List PyData} {x : PyData}, x ∈ xs → x.depth ≤ PyData.depthAll xs
  | [], _, h => by cases h
  | y :: ys, x, h => by
    unfold PyData.depthAll
    rcases List.mem_cons.mp h with rfl | h
    · exact Nat.le_max_left _ _
    · exact Nat.le_trans (depthAll_mem h) (Nat.le_max_right _ _)
theorem pyL_mem : ∀ {ds : List D} {xs : List PyData}, pyL ds = some xs → ∀ d ∈ ds, ∃ x, py d = some x ∧ x ∈ xs
  | [], _, _, d, h => by cases h
  | d :: ds, xs, e, d', h => by
    unfold pyL at e
    cases e1 : py d with
    | none => rw [e1] at e; cases e
    | some x =>
      cases e2 : pyL ds with
      | none => rw [e1, e2] at e; cases e
      | some ys =>
        rw [e1, e2] at e
        cases e
        rcases List.mem_cons.mp h with rfl | h
        · exact ⟨x, e1, by simp⟩
        · obtain ⟨y, h1, h2⟩ := pyL_mem e2 d' h
          exact ⟨y, h1, by simp [h2]⟩
theorem pyDep_mem {n : Nat} {ds : List D} (h : pyDep (n + 1) (.tup ds)) : ∀ d ∈ ds, pyDep n d := fun d hd => by
  obtain ⟨x, h1, h2⟩ := h
  unfold py at h1
  cases e : pyL ds with
  | none => rw [e] at h1; cases h1
  | some xs =>
    rw [e] at h1
    cases h1
    obtain ⟨y, h3, h4⟩ := pyL_mem e d hd
    unfold PyData.depth at h2
    exact ⟨y, h3, by have := depthAll_mem h4; omega⟩
theorem filter_none {ds : List D} {P : D → Bool} : ((ds.filter fun d => !P d).map fun d => d).isEmpty = ds.all P := by
  induction ds with
  | nil => rfl
  | cons d ds ih =>
    rw [List.filter_cons, List.all_cons]
    cases h : P d
    · simp
    · simpa using ih
theorem k_are_cells : Keeps n_are_cells 1 false il_are_cells sp_are_cells := by
  intro ds G Q E hl h
  unfold sp_are_cells at h
  split at h
  · rename_i d
    obtain ⟨⟨⟨h1, h3⟩, hp⟩, h2⟩ := h
    simp [il_are_cells, startD, n_are_cells, Bt.op, opIsi, CO.op, BO.op]
    have h0 := h2 G (GSub.refl G)
    cases d with
    | tup ds =>
      simp only at h3
      simp [opLen, lenD]
      by_cases hn : ds.length = 24
      · have hn' : (ds.length : Int) = 24 := by omega
        simp only [hn', if_true]
        simp only [dLc, dSeqI, m_var, seqI, seqOf, List.getElem?_cons_zero]
        intro p hp'
        refine comp_pure (acc := []) (f := fun d => d) (P := fun d => !isNumB d 0 99) ?_ (fun _ _ => trivial) ?_ p hp' ?_
        · simp [hn]
        · intro d hd
          refine ⟨_, rfl, fun G' s => ⟨fun QT q => ?_, fun _ QE q => ?_⟩⟩
          · simp
            refine ⟨by rw [tyD_sub s (h3 d hd).ty]; exact (h3 d hd).ty, ?_⟩
            simpa using q
          · simpa using q
        · simp only [List.nil_append]
          intro p2 hp2
          obtain ⟨n1, n2⟩ := gup_none.mp hp2
          have sub : GSub G (gup (gup G p (.lst ((List.filter (fun d => !isNumB d 0 99) ds).map fun d => d))) p2 (.lst [])) := gsub_gup (gsub_gup (GSub.refl G) hp') n2
          refine opEq_nil (xs := (List.filter (fun d => !isNumB d 0 99) ds).map fun d => d) (by rw [gup_ne (Ne.symm n1), gup_same]) gup_same (fun d hd => ?_) ?_
          · rw [List.map_id'' (fun _ => rfl)] at hd
            exact (pyDep_mem (n := 59) hp d (List.mem_filter.mp hd).1).mono (by decide)
          · have q := h2 _ sub
            rw [filter_none (P := fun d => isNumB d 0 99)]
            simpa [areCellsB, hn] using q
      · have hn' : ¬ ((ds.length : Int) = 24) := by omega
        simp [hn']
        simpa [areCellsB, hn] using h0
    | ref a => rcases tyD_ref h1 with e | e <;> · simp [e]; exact h0
    | ty n => cases h1
    | _ => simp; exact h0
  · exact h.elim
def sp_is_page : Spec := fun ds G Q _ => match ds with
  | [d] => (tame G 2 d ∧ pyDep 60 d) ∧ ∀ G', GSub G G' → Q (.bl (isPageB d)) G'
  | _ => False
def e_is_page : FnE := ⟨.glob "is_page", 1, 3, sp_is_page⟩
@[simp] theorem e_is_page_ar : e_is_page.ar = 1 := rfl
@[simp] theorem e_is_page_sp {d : D} {G : GS} {Q : DK} {E : XD} : e_is_page.sp [d] G Q E = ((tame G 2 d ∧ pyDep 60 d) ∧ ∀ G', GSub G G' → Q (.bl (isPageB d)) G') := rfl
def n_is_page : List Str := ["page"]
def il_is_page (g0 : GS) : Sx :=
  (.seq (.ite (.tor (.tnot (.tv (.bt .isi (.cons (.var 0) (.cons (.ty .tuple) .nil))))) (.tor (.tcmp .ne (.bt .len (.cons (.var 0) .nil)) (.cI 2)) (.tor (.tnot (.tv (.bt .isi (.cons (.ix (.var 0) (.cI 0)) (.cons (.ty .tuple) .nil))))) (.tcmp .ne (.bt .len (.cons (.ix (.var 0) (.cI 0)) .nil)) (.gl "SLOTS" (.int 8)))))) (.seq (.ret (.cB false))
  .nil) .nil)
  (.seq (.ret (.call e_are_cells (.cons (.ix (.var 0) (.cI 1)) .nil)))
  .nil))
theorem k_is_page : Keeps n_is_page 1 false il_is_page sp_is_page := by
  intro ds G Q E hl h
  unfold sp_is_page at h
  split at h
  · rename_i d
    obtain ⟨⟨⟨h1, h3⟩, hp⟩, h2⟩ := h
    simp [il_is_page, startD, n_is_page, Bt.op, opIsi, CO.op, BO.op]
    have h0 := h2 G (GSub.refl G)
    cases d with
    | tup ds =>
      simp only at h3
      simp [opLen, lenD]
      match ds, h3, h2, h0, hp with
      | [a, c], h3, h2, h0, hp =>
        have ha := (h3 a (by simp)).ty
        have hc := h3 c (by simp)
        have hpc : pyDep 60 c := (pyDep_mem (n := 59) hp c (by simp)).mono (by decide)
        simp [opIx, seqOf, atI, ixN]
        cases a with
        | tup ss =>
          simp
          by_cases hn : ss.length = 8
          · have hn' : (ss.length : Int) = 8 := by omega
            simp [hn']
            refine ⟨⟨hc, hpc⟩, fun G' s => ?_⟩
            simpa [isPageB, hn] using h2 G' s
          · have hn' : ¬ (ss.length : Int) = 8 := by omega
            simp [hn']
            simpa [isPageB, hn] using h0
        | ref b => rcases tyD_ref ha with e | e <;> · simp [e]; exact h0
        | ty n => cases ha
        | _ => simp; exact h0
      | [], h3, h2, h0, hp => simpa [isPageB] using h0
      | [_], h3, h2, h0, hp => simpa [isPageB] using h0
      | a :: b :: c :: r, h3, h2, h0, hp =>
        have ne2 : ¬ ((r.length : Int) + 1 + 1 + 1 = 2) := by omega
        simp [ne2]
        simpa [isPageB] using h0
    | ref a => rcases tyD_ref h1 with e | e <;> · simp [e]; exact h0
    | ty n => cases h1
    | _ => simp; exact h0
  · exact h.elim
/-! ### disks -/
def optD : Option Int → D
  | none => .non
  | some i => .int i
/-- a disk at a, its pages at k -/
structure DiskAt (G : GS) (a k : Addr) (pages : List D) (left : Option Int) (stands : Bool) (many : Int) : Prop where
  at_ : G a = some (.ins "Disk" [("kept", .ref k), ("left", optD left), ("stands", .bl stands), ("many", .int many)])
  kept : G k = some (.lst pages)
  ne : a ≠ k
/-- but for these addresses all stays -/
def Frm (L : List Addr) (G G' : GS) : Prop := ∀ b o, b ∉ L → G b = some o → G' b = some o
@[simp] theorem whN1 {x : Str} : whName (.glob x) = x := rfl
@[simp] theorem whN2 {x y : Str} : whName (.meth x y) = x := rfl
@[simp] theorem whN3 {x : Str} : whName (.make x) = x := rfl
@[simp] theorem whM {x y : Str} : whMeth (.meth x y) = y := rfl
def fresh : D := .tup [.tup [.tup [.str "free", .int 0], .tup [.str "free", .int 0], .tup [.str "free", .int 0], .tup [.str "free", .int 0], .tup [.str "free", .int 0], .tup [.str "free", .int 0], .tup [.str "free", .int 0], .tup [.str "free", .int 0]], .tup [.int 0, .int 0, .int 0, .int 0, .int 0, .int 0, .int 0, .int 0, .int 0, .int 0, .int 0, .int 0, .int 0, .int 0, .int 0, .int 0, .int 0, .int 0, .int 0, .int 0, .int 0, .int 0, .int 0, .int 0]]
/-- Disk(many), of a new instance at a -/
def sp_Disk___init__ : Spec := fun ds G Q E => match ds with
  | [.ref a, d] => (G a = some (.ins "Disk" []) ∧ (tyD G d).isSome = true) ∧ (match isNumB d 2 12 with
    | true => ∀ n, d = .int n → ∀ G' k, G k = none → Frm [a] G G' → DiskAt G' a k (List.replicate n.toNat fresh) none false 0 → Q .non G'
    | false => E "BadDisk" [] G)
  | _ => False
def e_Disk : FnE := ⟨.make "Disk", 2, 2, sp_Disk___init__⟩
def n_Disk___init__ : List Str := ["self", "many"]
def il_Disk___init__ (g0 : GS) : Sx :=
  (.seq (.ite (.tnot (.tv (.call e_is_number (.cons (.var 1) (.cons (.gl "LEAST_PAGES" (.int 2)) (.cons (.gl "MOST_PAGES" (.int 12)) .nil)))))) (.seq (.raise "BadDisk")
  .nil) .nil)
  (.seq (.fld "Disk" "kept" (.var 0) (.bin .mul (.lst (.cons (.gl "FRESH" fresh) .nil)) (.var 1)))
  (.seq (.fld "Disk" "left" (.var 0) .cN)
  (.seq (.fld "Disk" "stands" (.var 0) (.cB false))
  (.seq (.fld "Disk" "many" (.var 0) (.cI 0))
  .nil)))))
theorem gup_gup {G : GS} {a : Addr} {o u : GO} : gup (gup G a o) a u = gup G a u := by
  funext b
  unfold gup
  split <;> rfl
@[simp] theorem insOf_at {G : GS} {a : Addr} {c : Str} {fs : List (Str × D)} : insOf (gup G a (.ins c fs)) c (.ref a) = some (a, fs) := by
  simp [insOf, gup_same]
theorem insOf_of {G : GS} {a : Addr} {c : Str} {fs : List (Str × D)} (h : G a = some (.ins c fs)) : insOf G c (.ref a) = some (a, fs) := by
  simp [insOf, h]
theorem frm_gup {G G' : GS} {L : List Addr} {a : Addr} {o : GO} (h : Frm L G G') (ha : a ∈ L ∨ G a = none) : Frm L G (gup G' a o) := fun b u hb e => by
  rw [gup_ne]
  · exact h b u hb e
  · intro z
    rw [z] at hb e
    rcases ha with ha | ha
    · exact hb ha
    · rw [ha] at e; cases e
theorem Frm.refl {L : List Addr} {G : GS} : Frm L G G := fun _ _ _ h => h
theorem GSub.frm {L : List Addr} {G G' : GS} (h : GSub G G') : Frm L G G' := fun b o _ e => h b o e
theorem pd1 {x : D} : putD ("kept" : Str) x [] = [(("kept" : Str), x)] := rfl
theorem pd2 {x y : D} : putD ("left" : Str) x [(("kept" : Str), y)] = [(("kept" : Str), y), (("left" : Str), x)] := rfl
theorem pd3 {x y z : D} : putD ("stands" : Str) x [(("kept" : Str), y), (("left" : Str), z)] = [(("kept" : Str), y), (("left" : Str), z), (("stands" : Str), x)] := rfl
theorem pd4 {x y z t : D} : putD ("many" : Str) x [(("kept" : Str), y), (("left" : Str), z), (("stands" : Str), t)] = [(("kept" : Str), y), (("left" : Str), z), (("stands" : Str), t), (("many" : Str), x)] := rfl
theorem pd5 {x y z t u : D} : putD ("left" : Str) x [(("kept" : Str), y), (("left" : Str), z), (("stands" : Str), t), (("many" : Str), u)] = [(("kept" : Str), y), (("left" : Str), x), (("stands" : Str), t), (("many" : Str), u)] := rfl
theorem pd6 {x y z t u : D} : putD ("stands" : Str) x [(("kept" : Str), y), (("left" : Str), z), (("stands" : Str), t), (("many" : Str), u)] = [(("kept" : Str), y), (("left" : Str), z), (("stands" : Str), x), (("many" : Str), u)] := rfl
theorem pd7 {x y z t u : D} : putD ("many" : Str) x [(("kept" : Str), y), (("left" : Str), z), (("stands" : Str), t), (("many" : Str), u)] = [(("kept" : Str), y), (("left" : Str), z), (("stands" : Str), t), (("many" : Str), x)] := rfl
theorem lk1 {y z t u : D} : ([("kept", y), ("left", z), ("stands", t), ("many", u)] : List (Str × D)).lookup ("kept" : Str) = some y := rfl
theorem lk2 {y z t u : D} : ([("kept", y), ("left", z), ("stands", t), ("many", u)] : List (Str × D)).lookup ("left" : Str) = some z := rfl
theorem lk3 {y z t u : D} : ([("kept", y), ("left", z), ("stands", t), ("many", u)] : List (Str × D)).lookup ("stands" : Str) = some t := rfl
theorem lk4 {y z t u : D} : ([("kept", y), ("left", z), ("stands", t), ("many", u)] : List (Str × D)).lookup ("many" : Str) = some u := rfl
theorem k_Disk___init__ : Keeps n_Disk___init__ 2 false il_Disk___init__ sp_Disk___init__ := by
  intro ds G Q E hl h
  unfold sp_Disk___init__ at h
  split at h
  · rename_i a d
    obtain ⟨⟨h1, h2⟩, h3⟩ := h
    simp [il_Disk___init__, startD, n_Disk___init__, Bt.op, opIsi, CO.op, BO.op, h2]
    cases q : isNumB d 2 12 with
    | false =>
      rw [q] at h3
      simpa using h3
    | true =>
      rw [q] at h3
      obtain ⟨n, rfl, n1, n2⟩ := isNumB_int q
      simp only [if_true, Bool.not_true, Bool.false_eq_true, if_false, sFldD, m_bin, m_lst, m_cons, m_nil, m_c, m_var, m_seq, m_pass]
      simp [sFldD]
      intro p hp
      have npa : a ≠ p := fun z => by rw [z, hp] at h1; cases h1
      have e1 : lstOf (gup G p (.lst [fresh])) p = some [fresh] := by simp [lstOf, gup_same]
      simp only [opMul, e1]
      refine ⟨⟨by omega, by omega, ?_⟩, fun p2 hp2 => ?_⟩
      · show 1 * n.toNat ≤ sizeLine
        have : (12 : Nat) ≤ sizeLine := by decide
        omega
      · obtain ⟨n2p, hp2'⟩ := gup_none.mp hp2
        have npa2 : a ≠ p2 := fun z => by rw [z, hp2'] at h1; cases h1
        obtain ⟨G2, hG2⟩ : ∃ G2, G2 = gup (gup G p (.lst [fresh])) p2 (.lst (List.replicate n.toNat [fresh]).flatten) := ⟨_, rfl⟩
        have hA : G2 a = some (.ins "Disk" []) := by rw [hG2, gup_ne npa2, gup_ne npa]; exact h1
        rw [← hG2, insOf_of hA]
        simp only [pd1, pd2, pd3, pd4, insOf_at, gup_gup]
        refine ⟨by simp, by simp, by simp, by simp, h3 n rfl _ p2 hp2' ?_ ⟨gup_same, ?_, npa2⟩⟩
        · rw [hG2]
          exact frm_gup (frm_gup (frm_gup Frm.refl (.inr hp)) (.inr hp2')) (.inl (by simp))
        · rw [gup_ne (Ne.symm npa2), hG2, gup_same]
          congr 2
          simp
  · exact h.elim
end GL
set_option Elab.async false
set_option linter.all false
set_option maxRecDepth 100000
set_option maxHeartbeats 8000000
/-! K5: disks' methods. -/
namespace GL
open PySem PySem.Spec PyProof.Rows L2
theorem DiskAt.ins {G : GS} {a k : Addr} {pages : List D} {left : Option Int} {stands : Bool} {many : Int} (h : DiskAt G a k pages left stands many) : insOf G "Disk" (.ref a) = some (a, [(("kept" : Str), .ref k), (("left" : Str), optD left), (("stands" : Str), .bl stands), (("many" : Str), .int many)]) := insOf_of h.at_
theorem DiskAt.len {G : GS} {a k : Addr} {pages : List D} {left : Option Int} {stands : Bool} {many : Int} (h : DiskAt G a k pages left stands many) : lenD G (.ref k) = some pages.length := by
  simp [lenD, h.kept]
theorem DiskAt.seq {G : GS} {a k : Addr} {pages : List D} {left : Option Int} {stands : Bool} {many : Int} (h : DiskAt G a k pages left stands many) : seqOf G (.ref k) = some pages := by
  simp [seqOf, lsqOf, h.kept]
theorem DiskAt.frm {L : List Addr} {G G' : GS} {a k : Addr} {pages : List D} {left : Option Int} {stands : Bool} {many : Int} (h : DiskAt G a k pages left stands many) (f : Frm L G G') (ha : a ∉ L) (hk : k ∉ L) : DiskAt G' a k pages left stands many := ⟨f _ _ ha h.at_, f _ _ hk h.kept, h.ne⟩
theorem DiskAt.sub {G G' : GS} {a k : Addr} {pages : List D} {left : Option Int} {stands : Bool} {many : Int} (h : DiskAt G a k pages left stands many) (f : GSub G G') : DiskAt G' a k pages left stands many := ⟨f _ _ h.at_, f _ _ h.kept, h.ne⟩
def sp_Disk_need : Spec := fun ds G Q E => match ds with
  | [.ref a, d] => ∃ k pages left stands many, DiskAt G a k pages left stands many ∧ (tyD G d).isSome = true ∧ (if stands = true then E "Stopped" [] G else if isNumB d 0 ((pages.length : Int) - 1) = true then Q .non G else E "NoPage" [] G)
  | _ => False
def e_Disk_need : FnE := ⟨.meth "Disk" "need", 2, 2, sp_Disk_need⟩
@[simp] theorem e_Disk_need_ar : e_Disk_need.ar = 2 := rfl
@[simp] theorem e_Disk_need_wh : e_Disk_need.wh = .meth "Disk" "need" := rfl
def n_Disk_need : List Str := ["self", "number"]
def il_Disk_need (g0 : GS) : Sx :=
  (.seq (.ite (.tv (.fld "Disk" "stands" (.var 0))) (.seq (.raise "Stopped")
  .nil) .nil)
  (.seq (.ite (.tnot (.tv (.call e_is_number (.cons (.var 1) (.cons (.cI 0) (.cons (.bin .sub (.bt .len (.cons (.fld "Disk" "kept" (.var 0)) .nil)) (.cI 1)) .nil)))))) (.seq (.raise "NoPage")
  .nil) .nil)
  .nil))
theorem k_Disk_need : Keeps n_Disk_need 2 false il_Disk_need sp_Disk_need := by
  intro ds G Q E hl h
  unfold sp_Disk_need at h
  split at h
  · rename_i a d
    obtain ⟨k, pages, left, stands, many, hd, ht, h⟩ := h
    simp [il_Disk_need, startD, n_Disk_need, Bt.op, opLen, BO.op, dFld, hd.ins, lk1, lk3, ht, hd.len]
    cases stands with
    | true => simpa using h
    | false =>
      simp at h ⊢
      by_cases q : isNumB d 0 ((pages.length : Int) - 1) = true
      · simpa [q] using h
      · simpa [q] using h
  · exact h.elim
def sp_Disk_pages : Spec := fun ds G Q E => match ds with
  | [.ref a] => ∃ k pages left stands many, DiskAt G a k pages left stands many ∧ Q (.int pages.length) G
  | _ => False
def e_Disk_pages : FnE := ⟨.meth "Disk" "pages", 1, 1, sp_Disk_pages⟩
def n_Disk_pages : List Str := ["self"]
def il_Disk_pages (g0 : GS) : Sx :=
  (.seq (.ret (.bt .len (.cons (.fld "Disk" "kept" (.var 0)) .nil)))
  .nil)
theorem k_Disk_pages : Keeps n_Disk_pages 1 false il_Disk_pages sp_Disk_pages := by
  intro ds G Q E hl h
  unfold sp_Disk_pages at h
  split at h
  · rename_i a
    obtain ⟨k, pages, left, stands, many, hd, h⟩ := h
    simp [il_Disk_pages, startD, n_Disk_pages, Bt.op, opLen, dFld, hd.ins, lk1, hd.len]
    exact h
  · exact h.elim
def sp_Disk_writes : Spec := fun ds G Q E => match ds with
  | [.ref a] => ∃ k pages left stands many, DiskAt G a k pages left stands many ∧ Q (.int many) G
  | _ => False
def e_Disk_writes : FnE := ⟨.meth "Disk" "writes", 1, 1, sp_Disk_writes⟩
def n_Disk_writes : List Str := ["self"]
def il_Disk_writes (g0 : GS) : Sx :=
  (.seq (.ret (.fld "Disk" "many" (.var 0)))
  .nil)
theorem tame.less {G : GS} : ∀ {n : Nat} {d : D}, tame G (n + 1) d → tame G n d
  | 0, d, h => h.1
  | n + 1, d, h => by
    refine ⟨h.1, ?_⟩
    have h2 := h.2
    cases d with
    | tup ds => exact fun e he => (h2 e he).less
    | _ => trivial
theorem isPageB_ex {d : D} (h : isPageB d = true) : ∃ ss c, d = .tup [.tup ss, c] ∧ ss.length = 8 := by
  unfold isPageB at h
  split at h
  · simp at h
    exact ⟨_, _, rfl, h.1⟩
  · cases h
theorem k_Disk_writes : Keeps n_Disk_writes 1 false il_Disk_writes sp_Disk_writes := by
  intro ds G Q E hl h
  unfold sp_Disk_writes at h
  split at h
  · rename_i a
    obtain ⟨k, pages, left, stands, many, hd, h⟩ := h
    simp [il_Disk_writes, startD, n_Disk_writes, dFld, hd.ins, lk4]
    exact h
  · exact h.elim
def sp_Disk_page : Spec := fun ds G Q E => match ds with
  | [.ref a, d] => ∃ k pages left stands many, DiskAt G a k pages left stands many ∧ (tyD G d).isSome = true ∧ (if stands = true then E "Stopped" [] G else if isNumB d 0 ((pages.length : Int) - 1) = true then (∀ n : Nat, ∀ x, d = .int n → pages[n]? = some x → Q x G) else E "NoPage" [] G)
  | _ => False
def e_Disk_page : FnE := ⟨.meth "Disk" "page", 2, 3, sp_Disk_page⟩
def n_Disk_page : List Str := ["self", "number"]
def il_Disk_page (g0 : GS) : Sx :=
  (.seq (.expr (.meth e_Disk_need (.var 0) (.cons (.var 1) .nil)))
  (.seq (.ret (.ix (.fld "Disk" "kept" (.var 0)) (.var 1)))
  .nil))
theorem nomem (m : Str) (x y z t : D) (h1 : m ≠ "kept") (h2 : m ≠ "left") (h3 : m ≠ "stands") (h4 : m ≠ "many") : ([("kept", x), ("left", y), ("stands", z), ("many", t)] : List (Str × D)).lookup m = none := by
  have b : ∀ s : Str, m ≠ s → (m == s) = false := fun s h => by simpa using h
  simp [List.lookup, b _ h1, b _ h2, b _ h3, b _ h4]
theorem ixN_ok {n : Nat} {i : Int} (h1 : 0 ≤ i) (h2 : i ≤ (n : Int) - 1) : ∃ j : Nat, i = j ∧ j < n ∧ ixN n i = some j := by
  refine ⟨i.toNat, by omega, by omega, ?_⟩
  unfold ixN
  rw [if_pos h1, if_pos (by omega)]
theorem k_Disk_page : Keeps n_Disk_page 2 false il_Disk_page sp_Disk_page := by
  intro ds G Q E hl h
  unfold sp_Disk_page at h
  split at h
  · rename_i a d
    obtain ⟨k, pages, left, stands, many, hd, ht, h⟩ := h
    simp [il_Disk_page, startD, n_Disk_page, dFld, dMeth, hd.ins, lk1, -List.lookup_eq_none_iff]
    refine ⟨nomem _ _ _ _ _ (by decide) (by decide) (by decide) (by decide), k, pages, left, stands, many, hd, ht, ?_⟩
    cases stands with
    | true => simpa using h
    | false =>
      simp at h ⊢
      by_cases q : isNumB d 0 ((pages.length : Int) - 1) = true
      · simp only [q, if_true] at h ⊢
        obtain ⟨i, rfl, q1, q2⟩ := isNumB_int q
        obtain ⟨j, rfl, q3, q4⟩ := ixN_ok q1 q2
        have e : pages[j]? = some pages[j] := List.getElem?_eq_getElem q3
        simp only [hd.ins, lk1]
        simp [opIx, hd.seq, atI, q4, e]
        exact h j _ rfl e
      · simpa [q] using h
  · exact h.elim
def sp_Disk_arm : Spec := fun ds G Q E => match ds with
  | [.ref a, d] => ∃ k pages left stands many, DiskAt G a k pages left stands many ∧ (tyD G d).isSome = true ∧ (if isNumB d 0 1000000 = true then (∀ n G', d = .int n → Frm [a] G G' → DiskAt G' a k pages (some n) stands many → Q .non G') else E "BadCount" [] G)
  | _ => False
def e_Disk_arm : FnE := ⟨.meth "Disk" "arm", 2, 2, sp_Disk_arm⟩
def n_Disk_arm : List Str := ["self", "count"]
def il_Disk_arm (g0 : GS) : Sx :=
  (.seq (.ite (.tnot (.tv (.call e_is_number (.cons (.var 1) (.cons (.cI 0) (.cons (.gl "MOST_COUNT" (.int 1000000)) .nil)))))) (.seq (.raise "BadCount")
  .nil) .nil)
  (.seq (.fld "Disk" "left" (.var 0) (.var 1))
  .nil))
theorem k_Disk_arm : Keeps n_Disk_arm 2 false il_Disk_arm sp_Disk_arm := by
  intro ds G Q E hl h
  unfold sp_Disk_arm at h
  split at h
  · rename_i a d
    obtain ⟨k, pages, left, stands, many, hd, ht, h⟩ := h
    simp [il_Disk_arm, startD, n_Disk_arm, sFldD, hd.ins, ht]
    by_cases q : isNumB d 0 1000000 = true
    · simp only [q, if_true] at h ⊢
      obtain ⟨i, rfl, q1, q2⟩ := isNumB_int q
      simp [pd5]
      exact h i _ rfl (frm_gup Frm.refl (.inl (by simp))) ⟨gup_same, by rw [gup_ne (Ne.symm hd.ne)]; exact hd.kept, hd.ne⟩
    · simpa [q] using h
  · exact h.elim
def sp_Disk_again : Spec := fun ds G Q E => match ds with
  | [.ref a] => ∃ k pages left stands many, DiskAt G a k pages left stands many ∧ ∀ G', Frm [a] G G' → DiskAt G' a k pages none false many → Q .non G'
  | _ => False
def e_Disk_again : FnE := ⟨.meth "Disk" "again", 1, 1, sp_Disk_again⟩
def n_Disk_again : List Str := ["self"]
def il_Disk_again (g0 : GS) : Sx :=
  (.seq (.fld "Disk" "stands" (.var 0) (.cB false))
  (.seq (.fld "Disk" "left" (.var 0) .cN)
  .nil))
theorem k_Disk_again : Keeps n_Disk_again 1 false il_Disk_again sp_Disk_again := by
  intro ds G Q E hl h
  unfold sp_Disk_again at h
  split at h
  · rename_i a
    obtain ⟨k, pages, left, stands, many, hd, h⟩ := h
    simp [il_Disk_again, startD, n_Disk_again, sFldD, hd.ins, pd6, pd5, gup_gup]
    exact h _ (frm_gup Frm.refl (.inl (by simp))) ⟨gup_same, by rw [gup_ne (Ne.symm hd.ne)]; exact hd.kept, hd.ne⟩
  · exact h.elim
/-- what a page handed in must be for it to be judged -/
def okPage (d : D) : Bool := isPageB d && (match d with
  | .tup [.tup ss, _] => ss.all isSlotB
  | _ => false)
def sp_Disk_write : Spec := fun ds G Q E => match ds with
  | [.ref a, d, pg] => ∃ k pages left stands many, DiskAt G a k pages left stands many ∧ ((tyD G d).isSome = true ∧ tame G 4 pg ∧ pyDep 50 pg ∧ (∀ ss c, pg = .tup [.tup ss, c] → ss.length ≤ 1000)) ∧
      (if stands = true then E "Stopped" [] G
      else if isNumB d 0 ((pages.length : Int) - 1) = true then
        (if okPage pg = true then (match left with
          | some 0 => ∀ G', Frm [a] G G' → DiskAt G' a k pages left true many → E "Stopped" [] G'
          | l => ∀ n : Nat, d = .int n → ∀ G', Frm [a, k] G G' → DiskAt G' a k (pages.set n pg) (l.map fun x => x - 1) false (many + 1) → Q .non G')
        else ∀ G', GSub G G' → E "BadPage" [] G')
      else E "NoPage" [] G)
  | _ => False
def e_Disk_write : FnE := ⟨.meth "Disk" "write", 3, 4, sp_Disk_write⟩
def n_Disk_write : List Str := ["self", "number", "page", "slot"]
def il_Disk_write (g0 : GS) : Sx :=
  (.seq (.expr (.meth e_Disk_need (.var 0) (.cons (.var 1) .nil)))
  (.seq (.ite (.tor (.tnot (.tv (.call e_is_page (.cons (.var 2) .nil)))) (.tcmp .ne (.lc (.one 3) (.iSeq (.ix (.var 2) (.cI 0))) (.tnot (.tv (.call e_is_slot (.cons (.var 3) .nil)))) (.var 3)) (.lst .nil))) (.seq (.raise "BadPage")
  .nil) .nil)
  (.seq (.ite (.tcmp .eq (.fld "Disk" "left" (.var 0)) (.cI 0)) (.seq (.fld "Disk" "stands" (.var 0) (.cB true))
  (.seq (.raise "Stopped")
  .nil)) .nil)
  (.seq (.ite (.tcmp .notN (.fld "Disk" "left" (.var 0)) .cN) (.seq (.fld "Disk" "left" (.var 0) (.bin .sub (.fld "Disk" "left" (.var 0)) (.cI 1)))
  .nil) .nil)
  (.seq (.asg (.var 2) (.gSub .lst (.fld "Disk" "kept" (.var 0)) (.var 1)))
  (.seq (.fld "Disk" "many" (.var 0) (.bin .add (.fld "Disk" "many" (.var 0)) (.cI 1)))
  .nil))))))
theorem k_Disk_write : Keeps n_Disk_write 3 false il_Disk_write sp_Disk_write := by
  intro ds G Q E hl h
  unfold sp_Disk_write at h
  split at h
  · rename_i a d pg
    obtain ⟨k, pages, left, stands, many, hd, ⟨ht, hp1, hp2, hp3⟩, h⟩ := h
    simp [il_Disk_write, startD, n_Disk_write, dFld, dMeth, hd.ins, lk1, -List.lookup_eq_none_iff]
    refine ⟨nomem _ _ _ _ _ (by decide) (by decide) (by decide) (by decide), k, pages, left, stands, many, hd, ht, ?_⟩
    cases stands with
    | true => simpa using h
    | false =>
      simp at h ⊢
      by_cases q : isNumB d 0 ((pages.length : Int) - 1) = true
      · simp only [q, if_true] at h ⊢
        obtain ⟨i, rfl, q1, q2⟩ := isNumB_int q
        obtain ⟨j, rfl, q3, q4⟩ := ixN_ok q1 q2
        refine ⟨⟨tame.less (tame.less hp1), hp2.mono (by decide)⟩, fun G' s => ?_⟩
        by_cases qp : isPageB pg = true
        · obtain ⟨ss, c, rfl, hss⟩ := isPageB_ex qp
          simp only [qp, if_true]
          simp [dLc, dSeqI, opIx, seqOf, atI, ixN, seqI]
          intro p hp'
          have hG : G p = none := by
            cases e : G p with
            | none => rfl
            | some o => rw [s p o e] at hp'; cases hp'
          refine comp_pure (acc := []) (f := fun d => d) (P := fun d => !isSlotB d) ?_ (fun _ _ => trivial) ?_ p hp' ?_
          · simp [hss]
          · intro x hx
            have tx : tame G 2 x := by
              have h1 := hp1.2 (.tup ss) (by simp)
              exact h1.2 x hx
            refine ⟨_, rfl, fun G2 s2 => ⟨fun QT q => ?_, fun _ QE q => ?_⟩⟩
            · simp
              exact ⟨tame_sub (s.trans s2) tx, by simpa using q⟩
            · simpa using q
          · simp only [List.nil_append]
            intro p2 hp2'
            obtain ⟨n1, n2⟩ := gup_none.mp hp2'
            have hG2 : G p2 = none := by
              cases e : G p2 with
              | none => rfl
              | some o => rw [s p2 o e] at n2; cases n2
            obtain ⟨G3, hG3⟩ : ∃ G3, G3 = gup (gup G' p (.lst ((List.filter (fun d => !isSlotB d) ss).map fun d => d))) p2 (.lst []) := ⟨_, rfl⟩
            have sub : GSub G G3 := by rw [hG3]; exact gsub_gup (gsub_gup s hG) hG2
            rw [← hG3]
            have hd3 := hd.sub sub
            have pyss : ∀ x ∈ ss, pyDep 60 x := fun x hx => (pyDep_mem (n := 48) (pyDep_mem (n := 49) hp2 (.tup ss) (by simp)) x hx).mono (by decide)
            refine opNe_nil (xs := (List.filter (fun d => !isSlotB d) ss).map fun d => d) (by rw [hG3, gup_ne (Ne.symm n1), gup_same]) (by rw [hG3, gup_same]) (fun d hd => ?_) ?_
            · rw [List.map_id'' (fun _ => rfl)] at hd
              exact pyss d (List.mem_filter.mp hd).1
            · rw [filter_none (P := isSlotB)]
              have hok : okPage (.tup [.tup ss, c]) = ss.all isSlotB := by simp [okPage, qp]
              rw [hok] at h
              cases qs : ss.all isSlotB with
              | false =>
                rw [qs] at h
                simp at h ⊢
                exact h G3 sub
              | true =>
                rw [qs] at h
                simp only [if_true] at h
                simp [hd3.ins, lk2]
                have fin : ∀ (l : Option Int) (G4 : GS), (∀ x : Int, left = some x → x ≠ 0) → DiskAt G4 a k pages l false many → l = left.map (fun x => x - 1) → Frm [a] G G4 →
                    DiskAt (gup (gup G4 k (.lst (pages.set j (.tup [.tup ss, c])))) a (.ins "Disk" [(("kept" : Str), .ref k), (("left" : Str), optD l), (("stands" : Str), .bl false), (("many" : Str), .int (many + 1))])) a k (pages.set j (.tup [.tup ss, c])) l false (many + 1) ∧ Frm [a, k] G (gup (gup G4 k (.lst (pages.set j (.tup [.tup ss, c])))) a (.ins "Disk" [(("kept" : Str), .ref k), (("left" : Str), optD l), (("stands" : Str), .bl false), (("many" : Str), .int (many + 1))])) := fun l G4 _ h4 _ hf =>
                  ⟨⟨gup_same, by rw [gup_ne (Ne.symm hd.ne), gup_same], hd.ne⟩, frm_gup (frm_gup (fun b o hb e => hf b o (fun z => hb (by simp at z; simp [z])) e) (.inl (by simp))) (.inl (by simp))⟩
                cases left with
                | none =>
                  simp [optD, isNon, hd3.ins, lk1, opSetL, lstOf, hd3.kept, q4, sFldD, dFld]
                  have hi : insOf (gup G3 k (.lst (pages.set j (.tup [.tup ss, c])))) "Disk" (.ref a) = some (a, [(("kept" : Str), .ref k), (("left" : Str), optD none), (("stands" : Str), .bl false), (("many" : Str), .int many)]) := insOf_of (by rw [gup_ne hd.ne]; exact hd3.at_)
                  simp [hi, lk4, pd7]
                  obtain ⟨f1, f2⟩ := fin none G3 (fun x z => by cases z) hd3 rfl sub.frm
                  exact h j rfl _ f2 f1
                | some x =>
                  by_cases x0 : x = 0
                  · subst x0
                    simp [optD, sFldD, dFld, hd3.ins, pd6]
                    refine h _ (frm_gup sub.frm (.inl (by simp))) ⟨gup_same, by rw [gup_ne (Ne.symm hd.ne)]; exact hd3.kept, hd.ne⟩
                  · have h' : ∀ n : Nat, D.int (j : Int) = .int n → ∀ G', Frm [a, k] G G' → DiskAt G' a k (pages.set n (.tup [.tup ss, c])) (some (x - 1)) false (many + 1) → Q .non G' := by
                      split at h
                      · rename_i e
                        exact absurd (Option.some.inj e) x0
                      · exact h
                    simp [optD, x0, isNon, sFldD, dFld, hd3.ins, lk2, pd5]
                    have h4 : DiskAt (gup G3 a (.ins "Disk" [(("kept" : Str), .ref k), (("left" : Str), .int (x - 1)), (("stands" : Str), .bl false), (("many" : Str), .int many)])) a k pages (some (x - 1)) false many := ⟨gup_same, by rw [gup_ne (Ne.symm hd.ne)]; exact hd3.kept, hd.ne⟩
                    simp [lk1, opSetL, lstOf, h4.kept, q4]
                    have hi : insOf (gup (gup G3 a (.ins "Disk" [(("kept" : Str), .ref k), (("left" : Str), .int (x - 1)), (("stands" : Str), .bl false), (("many" : Str), .int many)])) k (.lst (pages.set j (.tup [.tup ss, c])))) "Disk" (.ref a) = some (a, [(("kept" : Str), .ref k), (("left" : Str), .int (x - 1)), (("stands" : Str), .bl false), (("many" : Str), .int many)]) := insOf_of (by rw [gup_ne hd.ne]; exact h4.at_)
                    simp [sFldD, dFld, hi, lk4, pd7]
                    obtain ⟨f1, f2⟩ := fin (some (x - 1)) _ (fun y z => by cases z; exact x0) h4 rfl (frm_gup sub.frm (.inl (by simp)))
                    exact h' j rfl _ f2 f1
        · simp only [qp, Bool.false_eq_true, if_false]
          have hb : okPage pg = false := by simp [okPage, qp]
          simp only [hb, Bool.false_eq_true, if_false] at h
          exact h G' s
      · simpa [q] using h
  · exact h.elim
end GL
set_option Elab.async false
set_option linter.all false
set_option maxRecDepth 100000
set_option maxHeartbeats 8000000
/-! K6: the law's box of numbers. -/
namespace GL
open PySem PySem.Spec PyProof.Rows L2
/-- the box at b, its numbers at l -/
def BoxAt (G : GS) (b l : Addr) : Prop := ∃ (ns : List Int) (st : Int), G b = some (.lst [.ref l, .int st]) ∧ G l = some (.lst (ns.map D.int)) ∧ b ≠ l
theorem BoxAt.frm {L : List Addr} {G G' : GS} {b l : Addr} (h : BoxAt G b l) (f : Frm L G G') (hb : b ∉ L) (hl : l ∉ L) : BoxAt G' b l := by
  obtain ⟨ns, st, h1, h2, h3⟩ := h
  exact ⟨ns, st, f _ _ hb h1, f _ _ hl h2, h3⟩
theorem BoxAt.sub {G G' : GS} {b l : Addr} (h : BoxAt G b l) (f : GSub G G') : BoxAt G' b l := by
  obtain ⟨ns, st, h1, h2, h3⟩ := h
  exact ⟨ns, st, f _ _ h1, f _ _ h2, h3⟩
def sp__law_take : Spec := fun ds G Q _ => match ds with
  | [.ref b, .int m] => ∃ l, BoxAt G b l ∧ 0 < m ∧ m.natAbs.log2 < 9000 ∧ ∀ G' r, Frm [b, l] G G' → BoxAt G' b l → 0 ≤ r → r < m → Q (.int r) G'
  | _ => False
def e__law_take : FnE := ⟨.glob "_law_take", 2, 1, sp__law_take⟩
@[simp] theorem e__law_take_ar : e__law_take.ar = 2 := rfl
def n__law_take : List Str := ["_law_box", "_law_many", "_law_number"]
def il__law_take (g0 : GS) : Sx :=
  (.seq (.ite (.tcmp .eq (.ix (.var 0) (.cI 0)) (.lst .nil)) (.seq (.asg (.bin .mod (.bin .mul (.ix (.var 0) (.cI 1)) (.cI 48271)) (.cI 2147483647)) (.gSub .lst (.var 0) (.cI 1)))
  (.seq (.ret (.bin .mod (.bin .div (.ix (.var 0) (.cI 1)) (.cI 7)) (.var 1)))
  .nil)) .nil)
  (.seq (.asg (.ix (.ix (.var 0) (.cI 0)) (.cI 0)) (.gN 2))
  (.seq (.asg (.bin .div (.var 2) (.var 1)) (.gSub .lst (.ix (.var 0) (.cI 0)) (.cI 0)))
  (.seq (.ite (.tor (.tcmp .eq (.ix (.ix (.var 0) (.cI 0)) (.cI 0)) (.cI 0)) (.tcmp .eq (.ix (.ix (.var 0) (.cI 0)) (.cI 0)) (.neg (.cI 1)))) (.seq (.expr (.mth .pop (.ix (.var 0) (.cI 0)) (.cons (.cI 0) .nil)))
  .nil) .nil)
  (.seq (.ret (.bin .mod (.var 2) (.var 1)))
  .nil)))))
theorem opIx_l {G : GS} {a : Addr} {xs : List D} {i : Int} {Q : DK} {E : XD} (h : G a = some (.lst xs)) : opIx (.ref a) (.int i) G Q E ↔ ∃ x, atI xs i = some x ∧ Q x G := by
  simp [opIx, seqOf, lsqOf, h]
  cases atI xs i <;> simp
theorem opSetL_l {G : GS} {a : Addr} {xs : List D} {i : Int} {v : D} {P : GS → Prop} (h : G a = some (.lst xs)) : opSetL (.ref a) (.int i) v G P ↔ ∃ j, ixN xs.length i = some j ∧ P (gup G a (.lst (xs.set j v))) := by
  simp [opSetL, lstOf, h]
  cases ixN xs.length i <;> simp
theorem k__law_take : Keeps n__law_take 2 false il__law_take sp__law_take := by
  intro ds G Q E hl h
  unfold sp__law_take at h
  split at h
  · rename_i b m
    obtain ⟨l, ⟨ns, st, hb, hl', hne⟩, m0, m1, h⟩ := h
    have div7 : CDivW (st * 48271 % 2147483647) 7 := ⟨by decide, by decide⟩
    have mul : CMul st 48271 ∨ CMulW st 48271 := .inl (.inr (by decide))
    simp [il__law_take, startD, n__law_take, opIx_l hb, atI, ixN, dNew]
    intro p hp
    have npb : b ≠ p := fun z => by rw [z, hp] at hb; cases hb
    have npl : l ≠ p := fun z => by rw [z, hp] at hl'; cases hl'
    have hb1 : gup G p (.lst []) b = some (.lst [.ref l, .int st]) := by rw [gup_ne npb]; exact hb
    have hl1 : gup G p (.lst []) l = some (.lst (ns.map D.int)) := by rw [gup_ne npl]; exact hl'
    refine opEq_nil hl1 gup_same (fun d hd => ?_) ?_
    · obtain ⟨n, _, rfl⟩ := List.mem_map.mp hd
      exact pyDep_int.mono (by decide)
    · have fr : Frm [b, l] G (gup G p (.lst [])) := frm_gup Frm.refl (.inr hp)
      obtain ⟨G1, hG1⟩ : ∃ G1, G1 = gup G p (.lst []) := ⟨_, rfl⟩
      rw [← hG1] at hb1 hl1 fr ⊢
      cases ns with
      | nil =>
        simp [opIx_l hb1, opSetL_l hb1, atI, ixN, opMul, opMod, mul, opDiv]
        have hb2 : gup G1 b (.lst [.ref l, .int (st * 48271 % 2147483647)]) b = some (.lst [.ref l, .int (st * 48271 % 2147483647)]) := gup_same
        simp [opIx_l hb2, atI, ixN, opDiv, opMod, div7, m0]
        exact h _ _ (frm_gup fr (.inl (by simp))) ⟨[], _, gup_same, by rw [gup_ne (Ne.symm hne)]; exact hl1, hne⟩ (Int.emod_nonneg _ (by omega)) (Int.emod_lt_of_pos _ m0)
      | cons n ns =>
        have dv : CDivW n m := ⟨m0, m1⟩
        simp [opIx_l hb1, opIx_l hl1, opSetL_l hl1, atI, ixN, opDiv, dv]
        have hb2 : gup G1 l (.lst (D.int (n / m) :: ns.map D.int)) b = some (.lst [.ref l, .int st]) := by rw [gup_ne hne]; exact hb1
        have hl2 : gup G1 l (.lst (D.int (n / m) :: ns.map D.int)) l = some (.lst (D.int (n / m) :: ns.map D.int)) := gup_same
        have fr2 : Frm [b, l] G (gup G1 l (.lst (D.int (n / m) :: ns.map D.int))) := frm_gup fr (.inl (by simp))
        have r0 := Int.emod_nonneg n (show m ≠ 0 by omega)
        have r1 := Int.emod_lt_of_pos n m0
        have pop : Q (.int (n % m)) (gup G1 l (.lst (ns.map D.int))) := h _ _ (frm_gup fr (.inl (by simp))) ⟨ns, st, by rw [gup_ne hne]; exact hb1, gup_same, hne⟩ r0 r1
        simp [opIx_l hb2, opIx_l hl2, atI, ixN, isLstD, lstOf, opPopAt, opMod, m0, gup_same, gup_gup]
        by_cases c1 : n / m = 0
        · simpa [c1] using pop
        · simp only [c1, if_false]
          by_cases c2 : n / m = -1
          · simpa [c2] using pop
          · simp only [c2, if_false]
            exact h _ _ fr2 ⟨n / m :: ns, st, hb2, hl2, hne⟩ r0 r1
  · exact h.elim
/-! ### the box made -/
def sp__law_begun : Spec := fun ds G Q _ => match ds with
  | [.ref s] => ∃ ns : List Int, G s = some (.rol (ns.map D.int)) ∧ ns.length ≤ 63 ∧ ∀ G' b l, GSub G G' → G b = none → G l = none → BoxAt G' b l → Q (.ref b) G'
  | _ => False
def e__law_begun : FnE := ⟨.glob "_law_begun", 1, 1, sp__law_begun⟩
def n__law_begun : List Str := ["_law_script", "_law_stirred", "_law_cell"]
def il__law_begun (g0 : GS) : Sx :=
  (.seq (.asg (.cI 0) (.gN 1))
  (.seq (.for_ (.iSeq (.var 0)) (.gN 2) (.seq (.asg (.bin .mod (.bin .add (.bin .add (.bin .mul (.var 1) (.cI 48271)) (.bin .mul (.var 2) (.cI 69621))) (.cI 11)) (.cI 2147483647)) (.gN 1))
  .nil))
  (.seq (.ret (.lst (.cons (.bt .list (.cons (.var 0) .nil)) (.cons (.bin .mul (.var 1) (.bt .int (.cons (.cmp .gt (.bt .len (.cons (.var 0) .nil)) (.cI 2)) .nil))) .nil))))
  .nil)))
theorem mul_l {i j : Int} {G : GS} {Q : DK} {E : XD} (h : -(2 ^ 64) < j ∧ j < 2 ^ 64) : opMul (.int i) (.int j) G Q E ↔ Q (.int (i * j)) G := by
  have : CMul i j ∨ CMulW i j := .inl (.inr h)
  simp [opMul, this]
theorem mod_l {i j : Int} {G : GS} {Q : DK} {E : XD} (h : 0 < j) : opMod (.int i) (.int j) G Q E ↔ Q (.int (i % j)) G := by
  simp [opMod, h]
theorem k__law_begun : Keeps n__law_begun 1 false il__law_begun sp__law_begun := by
  intro ds G Q E hl h
  unfold sp__law_begun at h
  split at h
  · rename_i s
    obtain ⟨ns, hs, hn, h⟩ := h
    simp [il__law_begun, startD, n__law_begun, dSeqI, seqI, lsqOf, hs]
    refine for_ind (fun rest ρ G' => (∃ (st : Int) (x : Option D), ρ = [some (.ref s), some (.int st), x]) ∧ G' = G ∧ ∃ ns' : List Int, rest = ns'.map D.int) ?_ ?_ _ _ _ ⟨⟨0, none, rfl⟩, rfl, ns, rfl⟩
    · rintro ρ G' ⟨⟨st, x, rfl⟩, rfl, _⟩
      refine ⟨by simp [lsqOf, hs], ?_⟩
      simp [opList, seqOf, lsqOf, hs, dNew, opLen, lenD, opIntC]
      intro p hp
      have nps : s ≠ p := fun z => by rw [z, hp] at hs; cases hs
      have hs2 : gup G' p (.lst (ns.map D.int)) s = some (.rol (ns.map D.int)) := by rw [gup_ne nps]; exact hs
      have e : ∀ j : Int, (j = 0 ∨ j = 1) → opMul (.int st) (.int j) (gup G' p (.lst (ns.map D.int))) (fun d G1 => ∀ p_1, G1 p_1 = none → Q (.ref p_1) (gup G1 p_1 (.lst [.ref p, d]))) (fun cn p G' => E cn p G') := fun j hj => by
        rw [mul_l (by rcases hj with rfl | rfl <;> decide)]
        intro p2 hp2
        obtain ⟨n1, n2⟩ := gup_none.mp hp2
        exact h _ p2 p (gsub_gup (gsub_gup (GSub.refl G') hp) n2) n2 hp ⟨ns, _, gup_same, by rw [gup_ne (Ne.symm n1), gup_same], n1⟩
      simp only [hs2]
      exact e _ (by split <;> simp)
    · rintro d rest ρ G' ⟨⟨st, x, rfl⟩, rfl, ns', hr⟩
      refine ⟨by simp [lsqOf, hs], fun N hN => ?_⟩
      cases ns' with
      | nil => cases hr
      | cons n ns' =>
        simp at hr
        obtain ⟨rfl, rfl⟩ := hr
        simp [mul_l, mod_l]
        exact hN _ _ ⟨⟨_, _, rfl⟩, rfl, ns', rfl⟩
  · exact h.elim
end GL
set_option Elab.async false
set_option linter.all false
set_option maxRecDepth 100000
set_option maxHeartbeats 8000000
/-! K7: alike. -/
namespace GL
open PySem PySem.Spec PyProof.Rows L2
/-- the same items, tuples or lists, so deep -/
def Like (G : GS) : Nat → D → D → Prop
  | 0, _, _ => False
  | n + 1, f, d => (f = .non ∧ d = .non) ∨ (∃ b, f = .bl b ∧ d = .bl b) ∨ (∃ i, f = .int i ∧ d = .int i) ∨ (∃ s, f = .str s ∧ d = .str s) ∨
    (∃ xs ys, ((f = .tup xs ∧ d = .tup ys) ∨ ∃ a b, f = .ref a ∧ d = .ref b ∧ G a = some (.lst xs) ∧ G b = some (.lst ys)) ∧ (xs.length = ys.length ∧ xs.length ≤ 100000) ∧ ∀ (i : Nat) x y, xs[i]? = some x → ys[i]? = some y → Like G n x y)
def sp__law_alike (n : Nat) : Spec := fun ds G Q _ => match ds with
  | [f, d] => Like G n f d ∧ Q (.bl true) G
  | _ => False
def e__law_alike (n : Nat) : FnE := ⟨.glob "_law_alike", 2, n, sp__law_alike n⟩
@[simp] theorem e__law_alike_ar {n : Nat} : (e__law_alike n).ar = 2 := rfl
@[simp] theorem e__law_alike_sp {n : Nat} {f d : D} {G : GS} {Q : DK} {E : XD} : (e__law_alike n).sp [f, d] G Q E = (Like G n f d ∧ Q (.bl true) G) := rfl
def n__law_alike : List Str := ["_law_found", "_law_due", "_law_k"]
def il__law_alike (n : Nat) (g0 : GS) : Sx :=
  (.seq (.ite (.tcmp .isN (.var 1) .cN) (.seq (.ret (.cmp .isN (.var 0) .cN))
  .nil) .nil)
  (.seq (.ite (.tv (.bt .isi (.cons (.var 1) (.cons (.ty .bool) .nil)))) (.seq (.ret (.and (.bt .isi (.cons (.var 0) (.cons (.ty .bool) .nil))) (.cmp .eq (.var 0) (.var 1))))
  .nil) .nil)
  (.seq (.ite (.tv (.bt .isi (.cons (.var 1) (.cons (.ty .int) .nil)))) (.seq (.ret (.and (.bt .isi (.cons (.var 0) (.cons (.ty .int) .nil))) (.and (.not (.bt .isi (.cons (.var 0) (.cons (.ty .bool) .nil)))) (.cmp .eq (.var 0) (.var 1)))))
  .nil) .nil)
  (.seq (.ite (.tv (.bt .isi (.cons (.var 1) (.cons (.ty .str) .nil)))) (.seq (.ret (.and (.bt .isi (.cons (.var 0) (.cons (.ty .str) .nil))) (.cmp .eq (.var 0) (.var 1))))
  .nil) .nil)
  (.seq (.ite (.tor (.tcmp .ne (.bt .isi (.cons (.var 1) (.cons (.ty .tuple) .nil))) (.bt .isi (.cons (.var 0) (.cons (.ty .tuple) .nil)))) (.tcmp .ne (.bt .isi (.cons (.var 1) (.cons (.ty .list) .nil))) (.bt .isi (.cons (.var 0) (.cons (.ty .list) .nil))))) (.seq (.ret (.cB false))
  .nil) .nil)
  (.seq (.ite (.tcmp .ne (.bt .len (.cons (.var 0) .nil)) (.bt .len (.cons (.var 1) .nil))) (.seq (.ret (.cB false))
  .nil) .nil)
  (.seq (.for_ (.iR1 (.bt .len (.cons (.var 1) .nil))) (.gN 2) (.seq (.ite (.tnot (.tv (.call (e__law_alike n) (.cons (.ix (.var 0) (.var 2)) (.cons (.ix (.var 1) (.var 2)) .nil))))) (.seq (.ret (.cB false))
  .nil) .nil)
  .nil))
  (.seq (.ret (.cB true))
  .nil))))))))
@[simp] theorem opEq_bb {x y : Bool} {G : GS} {Q : DK} {E : XD} : opEq (.bl x) (.bl y) G Q E = Q (.bl (decide (x = y))) G := rfl
/-- a sequence's items -/
theorem opIx_s {G : GS} {d : D} {xs : List D} {i : Int} {Q : DK} {E : XD} (hd : ∀ s, d ≠ .str s) (h : seqOf G d = some xs) : opIx d (.int i) G Q E ↔ ∃ x, atI xs i = some x ∧ Q x G := by
  cases d with
  | str s => exact absurd rfl (hd s)
  | _ =>
    simp [opIx, h]
    cases atI xs i <;> simp
theorem like_loop {n : Nat} {G : GS} {f d : D} {xs ys : List D} {Q : DK} {E : XD} (hf : seqOf G f = some xs) (hd : seqOf G d = some ys) (nf : ∀ s, f ≠ .str s) (nd : ∀ s, d ≠ .str s) (hl : xs.length = ys.length) (hz : ys.length ≤ 100000) (hk : ∀ (i : Nat) x y, xs[i]? = some x → ys[i]? = some y → Like G n x y) (q : Q (.bl true) G) {Z : DEnds} (hZ : ∀ ρ, Z.nx ρ G ) {z : Option D} :
    forD (GL.gN 2) (Sx.seq (.ite (.tnot (.tv (.call (e__law_alike n) (.cons (.ix (.var 0) (.var 2)) (.cons (.ix (.var 1) (.var 2)) .nil))))) (.seq (.ret (.cB false)) .nil) .nil) .nil).den Z E (fun _ => True) (rngD 0 ys.length) [some f, some d, z] G := by
  refine for_ind (fun rest ρ G' => G' = G ∧ ∃ (i : Nat) (z : Option D), i ≤ ys.length ∧ rest = (rngD 0 ys.length).drop i ∧ ρ = [some f, some d, z]) ?_ ?_ _ _ _ ⟨rfl, 0, z, Nat.zero_le _, rfl, rfl⟩
  · rintro ρ G' ⟨rfl, i, z, hi, hr, rfl⟩
    exact ⟨trivial, hZ _⟩
  · rintro x rest ρ G' ⟨rfl, i, z, hi, hr, rfl⟩
    refine ⟨trivial, fun N hN => ?_⟩
    have hlt : i < ys.length := by
      have := congrArg List.length hr
      simp [rngD] at this
      omega
    have hx : x = .int (i : Int) := by
      have e : ((rngD 0 ys.length).drop i)[0]? = some x := by rw [← hr]; rfl
      rw [List.getElem?_drop] at e
      simp [rngD, hlt] at e
      exact e.symm
    have hrest : rest = (rngD 0 ys.length).drop (i + 1) := by
      rw [← List.drop_drop, ← hr]
      rfl
    subst hx
    have ix : ixN xs.length (i : Int) = some i := by
      unfold ixN
      rw [if_pos (by omega), if_pos (by omega)]
      simp
    have iy : ixN ys.length (i : Int) = some i := by
      unfold ixN
      rw [if_pos (by omega), if_pos (by omega)]
      simp
    have ex : xs[i]? = some (xs[i]'(by omega)) := List.getElem?_eq_getElem _
    have ey : ys[i]? = some ys[i] := List.getElem?_eq_getElem hlt
    simp [opIx_s nf hf, opIx_s nd hd, atI, ix, iy, ex, ey]
    exact ⟨hk i _ _ ex ey, hN _ _ ⟨rfl, i + 1, _, hlt, hrest, rfl⟩⟩
theorem k__law_alike (n : Nat) : Keeps n__law_alike 2 false (il__law_alike n) (sp__law_alike (n + 1)) := by
  intro ds G Q E hl h
  unfold sp__law_alike at h
  split at h
  · rename_i f d
    obtain ⟨h, q⟩ := h
    rcases h with ⟨rfl, rfl⟩ | ⟨b, rfl, rfl⟩ | ⟨i, rfl, rfl⟩ | ⟨s, rfl, rfl⟩ | ⟨xs, ys, hs, ⟨hl1, hl2⟩, hk⟩
    · simpa [il__law_alike, startD, n__law_alike, isNon] using q
    · simpa [il__law_alike, startD, n__law_alike, isNon, opIsi] using q
    · simpa [il__law_alike, startD, n__law_alike, isNon, opIsi] using q
    · simpa [il__law_alike, startD, n__law_alike, isNon, opIsi] using q
    · rcases hs with ⟨rfl, rfl⟩ | ⟨a, b, rfl, rfl, ha, hb⟩
      · simp [il__law_alike, startD, n__law_alike, isNon, opIsi, opLen, lenD, hl1, dRng1, rngI]
        refine ⟨by omega, ?_⟩
        exact like_loop (n := n) (xs := xs) (ys := ys) rfl rfl (fun s z => by cases z) (fun s z => by cases z) hl1 (by omega) hk q (fun _ => q)
      · have ta : tyD G (.ref a) = some "list" := by simp [tyD, ha]
        have tb : tyD G (.ref b) = some "list" := by simp [tyD, hb]
        simp [il__law_alike, startD, n__law_alike, isNon, opIsi, opLen, lenD, ha, hb, ta, tb, hl1, dRng1, rngI]
        refine ⟨by omega, ?_⟩
        exact like_loop (n := n) (xs := xs) (ys := ys) (by simp [seqOf, lsqOf, ha]) (by simp [seqOf, lsqOf, hb]) (fun s z => by cases z) (fun s z => by cases z) hl1 (by omega) hk q (fun _ => q)
  · exact h.elim
end GL
set_option Elab.async false
set_option linter.all false
set_option maxRecDepth 100000
set_option maxHeartbeats 8000000
/-! K8: told, all. -/
namespace GL
open PySem PySem.Spec PyProof.Rows L2
def sp__law_told (cs : Nat → Option ClE) : Spec := fun ds G Q _ => match ds with
  | [.ref f] => ∃ k cds e, G f = some (.clo k cds) ∧ cs k = some e ∧ e.ar = 0 ∧ e.sp cds [] G Q (fun cn p G1 => (isErr cn ∧ p = []) ∧ ∀ G2, GSub G1 G2 → Q (.tup [.str cn, .int 0]) G2)
  | _ => False
def e__law_told (cs : Nat → Option ClE) (lev : Nat) : FnE := ⟨.glob "_law_told", 1, lev, sp__law_told cs⟩
@[simp] theorem e__law_told_ar {cs : Nat → Option ClE} {lev : Nat} : (e__law_told cs lev).ar = 1 := rfl
theorem k__law_told (cs : Nat → Option ClE) : ∀ ds G Q E, ds.length = 1 → sp__law_told cs ds G Q E → dTold cs (endsD false G Q) (fun cn p G' => E cn p (cutK false G G')) (startD toldN ds) G := by
  intro ds G Q E hl h
  unfold sp__law_told at h
  split at h
  · rename_i f
    obtain ⟨k, cds, e, h1, h2, h3, h4⟩ := h
    show dClo cs (dVar 0) aNil _ G _ _
    unfold dClo
    simp [startD, toldN, isCloD, h1, opClo, h2, h3]
    exact h4
  · exact h.elim
/-- a comprehension whose test is never met, and which leaves no trace but new things -/
theorem comp_none {tg : CT} {t : DT} {e : DE} {ρ : Rho} {stab : GS → Prop} {Q : DK} {p : Addr} : ∀ {ds : List D} {G : GS}, (∀ G', GSub G G' → stab G') →
    (∀ d ∈ ds, ∃ ρ1, tg.put d ρ = some ρ1 ∧ ∀ G' QT, GSub G G' → (∀ G'', GSub G' G'' → QT false G'') → t ρ1 G' QT noX) → (∀ G', GSub G G' → Q (.ref p) G') → compD tg t e ρ stab p Q ds G
  | [], G, hs, h, q => by
    unfold compD
    exact ⟨hs _ (GSub.refl G), q _ (GSub.refl G)⟩
  | d :: ds, G, hs, h, q => by
    obtain ⟨ρ1, h1, h2⟩ := h d (by simp)
    unfold compD
    refine ⟨hs _ (GSub.refl G), ?_⟩
    rw [h1]
    refine h2 G _ (GSub.refl G) fun G'' s => ?_
    simp only [Bool.false_eq_true, if_false]
    exact comp_none (fun G' s' => hs G' (s.trans s')) (fun d' hd => by
      obtain ⟨ρ2, h3, h4⟩ := h d' (List.mem_cons_of_mem _ hd)
      exact ⟨ρ2, h3, fun G' QT s' => h4 G' QT (s.trans s')⟩) fun G' s' => q G' (s.trans s')
def sp__law_all (cs : Nat → Option ClE) (n : Nat) : Spec := fun ds G Q _ => match ds with
  | [.ref w, due] => ∃ fs, G w = some (.lst fs) ∧ (∀ f ∈ fs, ∀ G' Q', GSub G G' → (∀ r G1, GSub G' G1 → Like G1 n r due → Q' r G1) → sp__law_told cs [f] G' Q' noX) ∧ ∀ G', GSub G G' → Q (.bl true) G'
  | _ => False
def e__law_all (cs : Nat → Option ClE) (n lev : Nat) : FnE := ⟨.glob "_law_all", 2, lev, sp__law_all cs n⟩
@[simp] theorem e__law_all_ar {cs : Nat → Option ClE} {n lev : Nat} : (e__law_all cs n lev).ar = 2 := rfl
def n__law_all : List Str := ["_law_works", "_law_due", "_law_work"]
def il__law_all (cs : Nat → Option ClE) (n lev : Nat) (g0 : GS) : Sx :=
  (.seq (.ret (.cmp .eq (.lc (.one 2) (.iSeq (.var 0)) (.tnot (.tv (.call (e__law_alike n) (.cons (.call (e__law_told cs lev) (.cons (.var 2) .nil)) (.cons (.var 1) .nil))))) (.var 2)) (.lst .nil)))
  .nil)
theorem k__law_all (cs : Nat → Option ClE) (n lev : Nat) : Keeps n__law_all 2 false (il__law_all cs n lev) (sp__law_all cs n) := by
  intro ds G Q E hl h
  unfold sp__law_all at h
  split at h
  · rename_i w due
    obtain ⟨fs, hw, hf, q⟩ := h
    simp [il__law_all, startD, n__law_all, dLc, dSeqI, seqI, lsqOf, hw]
    intro p hp
    have sub : GSub G (gup G p (.lst [])) := gsub_gup (GSub.refl G) hp
    refine comp_none (fun G' s => ?_) (fun f hfm => ⟨[some (.ref w), some due, some f], rfl, fun G' QT s hq => ?_⟩) fun G' s => ?_
    · simp [(sub.trans s) _ _ hw]
    · simp only [m_notT, m_tst, m_call, m_cons, m_nil, m_var, List.getElem?_cons_zero, List.getElem?_cons_succ]
      refine ⟨rfl, ?_⟩
      refine hf f hfm G' _ (sub.trans s) fun r G1 s1 lk => ?_
      simp
      exact ⟨lk, hq _ s1⟩
    · intro p2 hp2
      have n1 : p ≠ p2 := fun z => by
        have := s p _ gup_same
        rw [z, hp2] at this
        cases this
      refine opEq_nil (xs := []) (by rw [gup_ne n1]; exact s p _ gup_same) gup_same (fun d hd => by cases hd) ?_
      exact q _ (sub.trans (s.trans (GSub.new hp2)))
  · exact h.elim
end GL
set_option Elab.async false
set_option linter.all false
set_option maxRecDepth 100000
set_option maxHeartbeats 8000000
/-! K9: drawn pages (law k02). -/
namespace GL
open PySem PySem.Spec PyProof.Rows L2
/-- plain data, so deep -/
def Plain : Nat → D → Prop
  | _, .non => True
  | _, .bl _ => True
  | _, .int _ => True
  | _, .str s => PyData.strOk s = true
  | n + 1, .tup ds => ∀ e ∈ ds, Plain n e
  | _, _ => False
theorem Plain.tame {G : GS} : ∀ {n : Nat} {d : D}, Plain n d → tame G n d
  | 0, .non, _ => rfl
  | 0, .bl _, _ => rfl
  | 0, .int _, _ => rfl
  | 0, .str _, _ => rfl
  | 0, .tup _, h => by unfold Plain at h; exact h.elim
  | 0, .ref _, h => by unfold Plain at h; exact h.elim
  | 0, .ty _, h => by unfold Plain at h; exact h.elim
  | n + 1, .non, _ => ⟨rfl, trivial⟩
  | n + 1, .bl _, _ => ⟨rfl, trivial⟩
  | n + 1, .int _, _ => ⟨rfl, trivial⟩
  | n + 1, .str _, _ => ⟨rfl, trivial⟩
  | n + 1, .tup ds, h => ⟨rfl, fun e he => by unfold Plain at h; exact (h e he).tame⟩
  | n + 1, .ref _, h => by unfold Plain at h; exact h.elim
  | n + 1, .ty _, h => by unfold Plain at h; exact h.elim
theorem Plain.py : ∀ {n : Nat} {d : D}, Plain n d → pyDep n d
  | n, .non, _ => pyDep_non.mono (Nat.zero_le _)
  | n, .bl _, _ => pyDep_bl.mono (Nat.zero_le _)
  | n, .int _, _ => pyDep_int.mono (Nat.zero_le _)
  | n, .str s, h => by unfold Plain at h; exact (pyDep_str h).mono (Nat.zero_le _)
  | 0, .tup _, h => by unfold Plain at h; exact h.elim
  | n + 1, .tup ds, h => by unfold Plain at h; exact pyDep.tup fun e he => (h e he).py
  | n, .ref _, h => by unfold Plain at h; exact h.elim
  | n, .ty _, h => by unfold Plain at h; exact h.elim
/-- lists as long as memory allows -/
def Short : Nat → D → Prop
  | n + 1, .tup ds => ds.length ≤ 100000 ∧ ∀ e ∈ ds, Short n e
  | _, _ => True
theorem Plain.like {G : GS} : ∀ {n : Nat} {d : D}, Plain n d → Short n d → Like G (n + 1) d d
  | n, .non, _, _ => .inl ⟨rfl, rfl⟩
  | n, .bl b, _, _ => .inr (.inl ⟨b, rfl, rfl⟩)
  | n, .int i, _, _ => .inr (.inr (.inl ⟨i, rfl, rfl⟩))
  | n, .str s, _, _ => .inr (.inr (.inr (.inl ⟨s, rfl, rfl⟩)))
  | 0, .tup _, h, _ => by unfold Plain at h; exact h.elim
  | n + 1, .tup ds, h, hs => by
    unfold Plain at h
    unfold Short at hs
    refine .inr (.inr (.inr (.inr ⟨ds, ds, .inl ⟨rfl, rfl⟩, ⟨rfl, hs.1⟩, fun i x y e1 e2 => ?_⟩)))
    rw [e1] at e2
    cases e2
    have hm := List.mem_of_getElem? e1
    exact (h x hm).like (hs.2 x hm)
  | n, .ref _, h, _ => by unfold Plain at h; exact h.elim
  | n, .ty _, h, _ => by unfold Plain at h; exact h.elim
/-- a page that may be written -/
structure GoodPage (d : D) : Prop where
  ok : okPage d = true
  pl : Plain 4 d
  sh : Short 4 d
theorem log_le {m : Int} (h0 : 0 < m) (h : m ≤ 2 ^ 64) : m.natAbs.log2 < 9000 := by
  have h1 : m.natAbs ≤ 2 ^ 64 := by omega
  have h2 : m.natAbs ≠ 0 := by omega
  have : m.natAbs.log2 < 65 := (Nat.log2_lt h2).mpr (by omega)
  omega
theorem take_step {G : GS} {b l : Addr} {m : Int} {Q : DK} {E : XD} (hB : BoxAt G b l) (h0 : 0 < m) (h1 : m ≤ 2 ^ 64) (h : ∀ G' r, Frm [b, l] G G' → BoxAt G' b l → 0 ≤ r → r < m → Q (.int r) G') : e__law_take.sp [.ref b, .int m] G Q E :=
  ⟨l, hB, h0, log_le h0 h1, h⟩
theorem Frm.trans {L : List Addr} {G G1 G2 : GS} (a : Frm L G G1) (b : Frm L G1 G2) : Frm L G G2 := fun c o hc h => b c o hc (a c o hc h)
def sp__law_page : Spec := fun ds G Q _ => match ds with
  | [.ref b] => ∃ l, BoxAt G b l ∧ ∀ G' pg, Frm [b, l] G G' → BoxAt G' b l → GoodPage pg → Q pg G'
  | _ => False
def e__law_page : FnE := ⟨.glob "_law_page", 1, 2, sp__law_page⟩
def n__law_page : List Str := ["_law_box", "_law_slots", "_law_k", "_law_begin", "_law_size", "_law_behind", "_law_some"]
def il_page_turn : Sx :=
  (.seq (.asg (.call e__law_take (.cons (.var 0) (.cons (.cI 25) .nil))) (.gN 3))
  (.seq (.asg (.call e__law_take (.cons (.var 0) (.cons (.bin .sub (.cI 25) (.var 3)) .nil))) (.gN 4))
  (.seq (.asg (.ix (.lst (.cons .cN (.cons (.tup (.cons (.call e__law_take (.cons (.var 0) (.cons (.cI 12) .nil))) (.cons (.call e__law_take (.cons (.var 0) (.cons (.cI 8) .nil))) .nil))) .nil))) (.call e__law_take (.cons (.var 0) (.cons (.cI 2) .nil)))) (.gN 5))
  (.seq (.asg (.lst (.cons (.tup (.cons (.cS "free") (.cons (.call e__law_take (.cons (.var 0) (.cons (.cI 101) .nil))) .nil))) (.cons (.tup (.cons (.cS "row") (.cons (.call e__law_take (.cons (.var 0) (.cons (.cI 100) .nil))) (.cons (.var 3) (.cons (.var 4) (.cons (.var 5) .nil)))))) .nil))) (.gN 6))
  (.seq (.expr (.mth .append (.var 6) (.cons (.tup (.cons (.cS "part") (.cons (.call e__law_take (.cons (.var 0) (.cons (.cI 100) .nil))) (.cons (.bt .min (.cons (.var 3) (.cons (.cI 23) .nil))) (.cons (.bt .max (.cons (.cI 1) (.cons (.var 4) .nil))) (.cons .cN .nil)))))) .nil)))
  (.seq (.expr (.mth .append (.var 1) (.cons (.ix (.var 6) (.call e__law_take (.cons (.var 0) (.cons (.cI 3) .nil)))) .nil)))
  .nil))))))
def il__law_page (g0 : GS) : Sx :=
  (.seq (.asg (.lst .nil) (.gN 1))
  (.seq (.for_ (.iR1 (.cI 8)) (.gN 2) il_page_turn)
  (.seq (.ret (.tup (.cons (.bt .tuple (.cons (.var 1) .nil)) (.cons (.bt .tuple (.cons (.lc (.one 2) (.iR1 (.cI 24)) .tyes (.call e__law_take (.cons (.var 0) (.cons (.cI 100) .nil)))) .nil)) .nil))))
  .nil)))
/-- a slot that may stand in a page -/
structure GoodSlot (d : D) : Prop where
  ok : isSlotB d = true
  pl : Plain 2 d
  sh : Short 2 d
theorem plain_tup {n : Nat} {ds : List D} (h : ∀ e ∈ ds, Plain n e) : Plain (n + 1) (.tup ds) := by unfold Plain; exact h
theorem plain_int {n : Nat} {i : Int} : Plain n (.int i) := by unfold Plain; trivial
theorem plain_non {n : Nat} : Plain n .non := by unfold Plain; trivial
theorem plain_str {n : Nat} {s : Str} (h : PyData.strOk s = true) : Plain n (.str s) := by unfold Plain; exact h
theorem short_tup {n : Nat} {ds : List D} (h : ds.length ≤ 100000 ∧ ∀ e ∈ ds, Short n e) : Short (n + 1) (.tup ds) := by unfold Short; exact h
theorem short_int {n : Nat} {i : Int} : Short n (.int i) := by cases n <;> exact trivial
theorem short_non {n : Nat} : Short n .non := by cases n <;> exact trivial
theorem short_str {n : Nat} {s : Str} : Short n (.str s) := by cases n <;> exact trivial
theorem gs_free {t : Int} (h0 : 0 ≤ t) (h1 : t < 101) : GoodSlot (.tup [.str "free", .int t]) := by
  refine ⟨?_, ?_, ?_⟩
  · simp [isSlotB, isNumB]; omega
  · refine plain_tup fun e he => ?_
    simp at he
    rcases he with rfl | rfl
    · exact plain_str (by kernel_rfl)
    · exact plain_int
  · refine short_tup ⟨by simp, fun e he => ?_⟩
    simp at he
    rcases he with rfl | rfl
    · exact short_str
    · exact short_int
theorem gs_row {t b s n1 n2 : Int} {nxt : D} (h0 : 0 ≤ t) (h1 : t < 100) (b0 : 0 ≤ b) (b1 : b < 25) (s0 : 0 ≤ s) (s1 : s < 25 - b) (n10 : 0 ≤ n1) (n11 : n1 < 12) (n20 : 0 ≤ n2) (n21 : n2 < 8) (hn : nxt = .non ∨ nxt = .tup [.int n1, .int n2]) : GoodSlot (.tup [.str "row", .int t, .int b, .int s, nxt]) := by
  have pn : Plain 1 nxt := by
    rcases hn with rfl | rfl
    · exact plain_non
    · refine plain_tup fun e he => ?_
      simp at he
      rcases he with rfl | rfl <;> exact plain_int
  have sn : Short 1 nxt := by
    rcases hn with rfl | rfl
    · exact short_non
    · refine short_tup ⟨by simp, fun e he => ?_⟩
      simp at he
      rcases he with rfl | rfl <;> exact short_int
  have nx : isNextB nxt = true := by
    rcases hn with rfl | rfl
    · rfl
    · simp [isNextB, isPlaceB, isNumB]; omega
  refine ⟨?_, ?_, ?_⟩
  · rw [isSlot4 (by decide) (.inl rfl)]
    simp [isNumB, sumLe, nx]; omega
  · refine plain_tup fun e he => ?_
    simp at he
    rcases he with rfl | rfl | rfl | rfl | rfl
    · exact plain_str (by kernel_rfl)
    · exact plain_int
    · exact plain_int
    · exact plain_int
    · exact pn
  · refine short_tup ⟨by simp, fun e he => ?_⟩
    simp at he
    rcases he with rfl | rfl | rfl | rfl | rfl
    · exact short_str
    · exact short_int
    · exact short_int
    · exact short_int
    · exact sn
theorem gs_part {t b s : Int} (h0 : 0 ≤ t) (h1 : t < 100) (b0 : 0 ≤ b) (b1 : b ≤ 23) (s0 : 1 ≤ s) (s1 : b + s ≤ 24) : GoodSlot (.tup [.str "part", .int t, .int b, .int s, .non]) := by
  refine ⟨?_, ?_, ?_⟩
  · rw [isSlot4 (by decide) (.inr rfl)]
    simp [isNumB, sumLe, isNextB, posB]; omega
  · refine plain_tup fun e he => ?_
    simp at he
    rcases he with rfl | rfl | rfl | rfl | rfl
    · exact plain_str (by kernel_rfl)
    · exact plain_int
    · exact plain_int
    · exact plain_int
    · exact plain_non
  · refine short_tup ⟨by simp, fun e he => ?_⟩
    simp at he
    rcases he with rfl | rfl | rfl | rfl | rfl
    · exact short_str
    · exact short_int
    · exact short_int
    · exact short_int
    · exact short_non
theorem page_turn {G : GS} {b l s : Addr} {acc : List D} {x2 x3 x4 x5 x6 : Option D} {D0 : DEnds} {E : XD} (hB : BoxAt G b l) (hs : G s = some (.lst acc)) (hsb : s ≠ b) (hsl : s ≠ l) (hn : acc.length < 1000)
    (h : ∀ G' d x3 x4 x5 x6, Frm [b, l, s] G G' → BoxAt G' b l → G' s = some (.lst (acc ++ [d])) → GoodSlot d → D0.nx [some (.ref b), some (.ref s), x2, x3, x4, x5, x6] G') :
    il_page_turn.den D0 E [some (.ref b), some (.ref s), x2, x3, x4, x5, x6] G := by
  simp [il_page_turn]
  refine take_step hB (by decide) (by decide) fun G1 bg f1 B1 b0 b1 => ?_
  refine take_step B1 (by omega) (by omega) fun G2 sz f2 B2 s0 s1 => ?_
  refine take_step B2 (by decide) (by decide) fun G3 n1 f3 B3 n10 n11 => ?_
  refine take_step B3 (by decide) (by decide) fun G4 n2 f4 B4 n20 n21 => ?_
  have ns : s ∉ [b, l] := by simp [hsb, hsl]
  have s4 : G4 s = some (.lst acc) := f4 _ _ ns (f3 _ _ ns (f2 _ _ ns (f1 _ _ ns hs)))
  have f04 : Frm [b, l] G G4 := ((f1.trans f2).trans f3).trans f4
  intro p hp
  have npb : p ≠ b := fun z => by obtain ⟨_, _, e, _⟩ := B4; rw [z, e] at hp; cases hp
  have npl : p ≠ l := fun z => by obtain ⟨_, _, _, e, _⟩ := B4; rw [z, e] at hp; cases hp
  have np : p ∉ [b, l] := by simp [npb, npl]
  have sub4 : GSub G4 (gup G4 p (.lst [.non, .tup [.int n1, .int n2]])) := gsub_gup (GSub.refl G4) hp
  refine take_step (B4.sub sub4) (by decide) (by decide) fun G5 n3 f5 B5 n30 n31 => ?_
  have p5 : G5 p = some (.lst [.non, .tup [.int n1, .int n2]]) := f5 _ _ np gup_same
  have s5 : G5 s = some (.lst acc) := f5 _ _ ns (sub4 _ _ s4)
  have f05 : Frm [b, l] G G5 := (f04.trans sub4.frm).trans f5
  have nx : ∃ nxt, atI [D.non, D.tup [.int n1, .int n2]] n3 = some nxt ∧ (nxt = .non ∨ nxt = .tup [.int n1, .int n2]) := by
    have : n3 = 0 ∨ n3 = 1 := by omega
    rcases this with rfl | rfl
    · exact ⟨.non, by simp [atI, ixN], .inl rfl⟩
    · exact ⟨_, by simp [atI, ixN], .inr rfl⟩
  obtain ⟨nxt, en, hn3⟩ := nx
  rw [opIx_l p5]
  refine ⟨nxt, en, ?_⟩
  refine take_step B5 (by decide) (by decide) fun G6 t1 f6 B6 t10 t11 => ?_
  refine take_step B6 (by decide) (by decide) fun G7 t2 f7 B7 t20 t21 => ?_
  intro p2 hp2
  have s7 : G7 s = some (.lst acc) := f7 _ _ ns (f6 _ _ ns s5)
  have f07 : Frm [b, l] G G7 := (f05.trans f6).trans f7
  have n2b : p2 ≠ b := fun z => by obtain ⟨_, _, e, _⟩ := B7; rw [z, e] at hp2; cases hp2
  have n2l : p2 ≠ l := fun z => by obtain ⟨_, _, _, e, _⟩ := B7; rw [z, e] at hp2; cases hp2
  have n2s : p2 ≠ s := fun z => by rw [z, s7] at hp2; cases hp2
  have np2 : p2 ∉ [b, l] := by simp [n2b, n2l]
  have sub7 : GSub G7 (gup G7 p2 (.lst [.tup [.str "free", .int t1], .tup [.str "row", .int t2, .int bg, .int sz, nxt]])) := gsub_gup (GSub.refl G7) hp2
  refine ⟨by simp [isLstD, lstOf, gup_same], ?_⟩
  refine take_step (B7.sub sub7) (by decide) (by decide) fun G8 t3 f8 B8 t30 t31 => ?_
  have p8 : G8 p2 = some (.lst [.tup [.str "free", .int t1], .tup [.str "row", .int t2, .int bg, .int sz, nxt]]) := f8 _ _ np2 gup_same
  have s8 : G8 s = some (.lst acc) := f8 _ _ ns (sub7 _ _ s7)
  have f08 : Frm [b, l] G G8 := (f07.trans sub7.frm).trans f8
  have a8 : lstOf G8 p2 = some [.tup [.str "free", .int t1], .tup [.str "row", .int t2, .int bg, .int sz, nxt]] := by simp [lstOf, p8]
  simp only [opMin, opMax, opAppend, a8]
  refine ⟨by simp, ?_⟩
  obtain ⟨mb, hmb⟩ : ∃ mb : Int, mb = if 23 < bg then 23 else bg := ⟨_, rfl⟩
  obtain ⟨ms, hms⟩ : ∃ ms : Int, ms = if sz > 1 then sz else 1 := ⟨_, rfl⟩
  rw [← hmb, ← hms]
  have hb2 : 0 ≤ mb ∧ mb ≤ 23 ∧ mb ≤ bg := by rw [hmb]; split <;> omega
  have hs2 : 1 ≤ ms ∧ mb + ms ≤ 24 := by
    rw [hms]
    split
    · omega
    · rw [hmb]; split <;> omega
  obtain ⟨G9, hG9⟩ : ∃ G9, G9 = gup G8 p2 (.lst ([.tup [.str "free", .int t1], .tup [.str "row", .int t2, .int bg, .int sz, nxt]] ++ [.tup [.str "part", .int t3, .int mb, .int ms, .non]])) := ⟨_, rfl⟩
  rw [← hG9]
  have s9 : G9 s = some (.lst acc) := by rw [hG9, gup_ne (Ne.symm n2s)]; exact s8
  have B9 : BoxAt G9 b l := by
    obtain ⟨ns', st, e1, e2, e3⟩ := B8
    exact ⟨ns', st, by rw [hG9, gup_ne (Ne.symm n2b)]; exact e1, by rw [hG9, gup_ne (Ne.symm n2l)]; exact e2, e3⟩
  have gp2 : G p2 = none := by
    cases e : G p2 with
    | none => rfl
    | some o => rw [f07 _ _ np2 e] at hp2; cases hp2
  have f09 : Frm [b, l] G G9 := by rw [hG9]; exact frm_gup f08 (.inr gp2)
  refine ⟨by simp [isLstD, lstOf, s9], ?_⟩
  refine take_step B9 (by decide) (by decide) fun G10 t4 f10 B10 t40 t41 => ?_
  have p10 : G10 p2 = some (.lst [.tup [.str "free", .int t1], .tup [.str "row", .int t2, .int bg, .int sz, nxt], .tup [.str "part", .int t3, .int mb, .int ms, .non]]) := f10 _ _ np2 (by rw [hG9]; exact gup_same)
  have s10 : G10 s = some (.lst acc) := f10 _ _ ns s9
  have pk : ∃ sl, atI [D.tup [.str "free", .int t1], .tup [.str "row", .int t2, .int bg, .int sz, nxt], .tup [.str "part", .int t3, .int mb, .int ms, .non]] t4 = some sl ∧ GoodSlot sl := by
    have : t4 = 0 ∨ t4 = 1 ∨ t4 = 2 := by omega
    rcases this with rfl | rfl | rfl
    · exact ⟨.tup [.str "free", .int t1], by simp [atI, ixN], gs_free t10 t11⟩
    · exact ⟨.tup [.str "row", .int t2, .int bg, .int sz, nxt], by simp [atI, ixN], gs_row t20 t21 b0 b1 s0 s1 n10 n11 n20 n21 hn3⟩
    · exact ⟨.tup [.str "part", .int t3, .int mb, .int ms, .non], by simp [atI, ixN], gs_part t30 t31 hb2.1 hb2.2.1 hs2.1 hs2.2⟩
  obtain ⟨sl, es, gs⟩ := pk
  rw [opIx_l p10]
  refine ⟨sl, es, ?_⟩
  have a10 : lstOf G10 s = some acc := by simp [lstOf, s10]
  simp only [opAppend, a10]
  refine ⟨by omega, h _ sl _ _ _ _ ?_ ?_ gup_same gs⟩
  · exact frm_gup (fun c o hc e => (f09.trans f10) c o (fun z => hc (by simp at z ⊢; rcases z with z | z <;> simp [z])) e) (.inl (by simp))
  · obtain ⟨ns', st, e1, e2, e3⟩ := B10
    exact ⟨ns', st, by rw [gup_ne (Ne.symm hsb)]; exact e1, by rw [gup_ne (Ne.symm hsl)]; exact e2, e3⟩
theorem comp_ind {tg : CT} {t : DT} {e : DE} {ρ : Rho} {stab : GS → Prop} {Q : DK} {p : Addr} (J : List D → List D → GS → Prop) (h0 : ∀ acc G, J [] acc G → stab G ∧ Q (.ref p) G)
    (hs : ∀ d ds acc G, J (d :: ds) acc G → stab G ∧ ∃ ρ1, tg.put d ρ = some ρ1 ∧ ∀ N : GS → Prop, (∀ acc' G', J ds acc' G' → N G') → t ρ1 G (fun b G1 => if b = true then e ρ1 G1 (fun y G2 => (match lstOf G2 p with
        | some acc => acc.length < 100000 ∧ N (gup G2 p (.lst (acc ++ [y])))
        | none => False)) noX
      else N G1) noX) : ∀ ds acc G, J ds acc G → compD tg t e ρ stab p Q ds G
  | [], acc, G, j => by
    unfold compD
    exact h0 acc G j
  | d :: ds, acc, G, j => by
    obtain ⟨h1, ρ1, h2, h3⟩ := hs d ds acc G j
    unfold compD
    refine ⟨h1, ?_⟩
    rw [h2]
    exact h3 _ fun acc' G' j' => comp_ind J h0 hs ds acc' G' j'
/-- one cell of a page -/
def GoodCell (d : D) : Prop := ∃ i : Int, d = .int i ∧ 0 ≤ i ∧ i < 100
theorem good_page {ss cs : List D} (h1 : ss.length = 8) (h2 : ∀ s ∈ ss, GoodSlot s) (h3 : cs.length = 24) (h4 : ∀ c ∈ cs, GoodCell c) : GoodPage (.tup [.tup ss, .tup cs]) := by
  refine ⟨?_, ?_, ?_⟩
  · have a : ss.all isSlotB = true := List.all_eq_true.mpr fun s hs => (h2 s hs).ok
    have b : areCellsB (.tup cs) = true := by
      simp only [areCellsB, h3, decide_true, Bool.true_and]
      refine List.all_eq_true.mpr fun c hc => ?_
      obtain ⟨i, rfl, i0, i1⟩ := h4 c hc
      simp [isNumB]; omega
    simp [okPage, isPageB, h1, b]
    exact fun s hs => (h2 s hs).ok
  · refine plain_tup fun e he => ?_
    simp at he
    rcases he with rfl | rfl
    · exact plain_tup fun s hs => (h2 s hs).pl
    · refine plain_tup fun c hc => ?_
      obtain ⟨i, rfl, _⟩ := h4 c hc
      exact plain_int
  · refine short_tup ⟨by simp, fun e he => ?_⟩
    simp at he
    rcases he with rfl | rfl
    · exact short_tup ⟨by omega, fun s hs => (h2 s hs).sh⟩
    · refine short_tup ⟨by omega, fun c hc => ?_⟩
      obtain ⟨i, rfl, _⟩ := h4 c hc
      exact short_int
theorem rngD_len {lo : Int} {n : Nat} : (rngD lo n).length = n := by simp [rngD]
theorem k__law_page : Keeps n__law_page 1 false il__law_page sp__law_page := by
  intro ds G Q E hl h
  unfold sp__law_page at h
  split at h
  · rename_i b
    obtain ⟨l, hB, q⟩ := h
    simp [il__law_page, startD, n__law_page, dSeqI, seqI, lsqOf, dLc]
    intro s hs
    have hsb : s ≠ b := fun z => by obtain ⟨_, _, e, _⟩ := hB; rw [z, e] at hs; cases hs
    have hsl : s ≠ l := fun z => by obtain ⟨_, _, _, e, _⟩ := hB; rw [z, e] at hs; cases hs
    have hG0 : Frm [b, l] G (gup G s (.lst [])) := (gsub_gup (GSub.refl G) hs).frm
    have B0 : BoxAt (gup G s (.lst [])) b l := hB.sub (gsub_gup (GSub.refl G) hs)
    simp [dRng1, rngI]
    refine for_ind (fun rest ρ G' => ∃ acc x2 x3 x4 x5 x6, ρ = [some (.ref b), some (.ref s), x2, x3, x4, x5, x6] ∧ BoxAt G' b l ∧ G' s = some (.lst acc) ∧ Frm [b, l] G G' ∧ acc.length + rest.length = 8 ∧ ∀ e ∈ acc, GoodSlot e) ?_ ?_ _ _ _ ⟨[], none, none, none, none, none, rfl, B0, gup_same, hG0, by simp [rngD_len], by simp⟩
    · rintro ρ G' ⟨acc, x2, x3, x4, x5, x6, rfl, B, e, f, n, g⟩
      refine ⟨trivial, ?_⟩
      simp [opTuple, seqOf, lsqOf, e, dLc, dRng1, rngI]
      intro p hp
      have npb : p ≠ b := fun z => by obtain ⟨_, _, e, _⟩ := B; rw [z, e] at hp; cases hp
      have npl : p ≠ l := fun z => by obtain ⟨_, _, _, e, _⟩ := B; rw [z, e] at hp; cases hp
      have np : p ∉ [b, l] := by simp [npb, npl]
      have gp : G p = none := by
        cases z : G p with
        | none => rfl
        | some o => rw [f _ _ np z] at hp; cases hp
      have B1 : BoxAt (gup G' p (.lst [])) b l := B.sub (gsub_gup (GSub.refl G') hp)
      refine comp_ind (fun rest ac G1 => BoxAt G1 b l ∧ G1 p = some (.lst ac) ∧ Frm [b, l] G G1 ∧ ac.length + rest.length = 24 ∧ ∀ e ∈ ac, GoodCell e) ?_ ?_ _ [] _ ⟨B1, gup_same, frm_gup f (.inr gp), by simp [rngD_len], by simp⟩
      · rintro ac G1 ⟨B2, e2, f2, n2, g2⟩
        refine ⟨trivial, ?_⟩
        simp [opTuple, seqOf, lsqOf, e2]
        exact q _ _ f2 B2 (good_page (by simpa using n) g (by simpa using n2) g2)
      · rintro d rest ac G1 ⟨B2, e2, f2, n2, g2⟩
        refine ⟨trivial, _, rfl, fun N hN => ?_⟩
        simp
        refine take_step B2 (by decide) (by decide) fun G2 r f3 B3 r0 r1 => ?_
        have e3 : G2 p = some (.lst ac) := f3 _ _ np e2
        simp only [List.length_cons] at n2
        simp [lstOf, e3]
        refine ⟨by omega, hN (ac ++ [.int r]) _ ⟨?_, gup_same, ?_, ?_, ?_⟩⟩
        · obtain ⟨ns', st, e1, e2, e3⟩ := B3
          exact ⟨ns', st, by rw [gup_ne (Ne.symm npb)]; exact e1, by rw [gup_ne (Ne.symm npl)]; exact e2, e3⟩
        · exact frm_gup (f2.trans f3) (.inr gp)
        · simp; omega
        · intro z hz
          rcases List.mem_append.mp hz with hz | hz
          · exact g2 z hz
          · simp at hz
            exact ⟨r, hz, r0, r1⟩
    · rintro d rest ρ G' ⟨acc, x2, x3, x4, x5, x6, rfl, B, e, f, n, g⟩
      simp only [List.length_cons] at n
      refine ⟨trivial, fun N hN => ?_⟩
      simp
      refine page_turn B e hsb hsl (by omega) fun G1 sl y3 y4 y5 y6 f1 B1 e1 gs => ?_
      refine hN _ _ ⟨acc ++ [sl], _, _, _, _, _, rfl, B1, e1, ?_, ?_, ?_⟩
      · intro c o hc z
        refine f1 c o ?_ (f c o hc z)
        simp at hc ⊢
        exact ⟨hc.1, hc.2, fun y => by rw [y, hs] at z; cases z⟩
      · simp; omega
      · intro z hz
        rcases List.mem_append.mp hz with hz | hz
        · exact g z hz
        · simp at hz
          rw [hz]
          exact gs
  · exact h.elim
end GL
set_option Elab.async false
set_option linter.all false
set_option maxRecDepth 100000
set_option maxHeartbeats 8000000
/-! K10: the law's own book beside the disk (law k02). -/
namespace GL
open PySem PySem.Spec PyProof.Rows L2
@[simp] theorem sne_pages_left : ((("pages" : Str)) = (("left" : Str))) = False := by simp only [eq_iff_iff, iff_false]; decide
@[simp] theorem sne_pages_stands : ((("pages" : Str)) = (("stands" : Str))) = False := by simp only [eq_iff_iff, iff_false]; decide
@[simp] theorem sne_pages_many : ((("pages" : Str)) = (("many" : Str))) = False := by simp only [eq_iff_iff, iff_false]; decide
@[simp] theorem sne_left_pages : ((("left" : Str)) = (("pages" : Str))) = False := by simp only [eq_iff_iff, iff_false]; decide
@[simp] theorem sne_left_stands : ((("left" : Str)) = (("stands" : Str))) = False := by simp only [eq_iff_iff, iff_false]; decide
@[simp] theorem sne_left_many : ((("left" : Str)) = (("many" : Str))) = False := by simp only [eq_iff_iff, iff_false]; decide
@[simp] theorem sne_stands_pages : ((("stands" : Str)) = (("pages" : Str))) = False := by simp only [eq_iff_iff, iff_false]; decide
@[simp] theorem sne_stands_left : ((("stands" : Str)) = (("left" : Str))) = False := by simp only [eq_iff_iff, iff_false]; decide
@[simp] theorem sne_stands_many : ((("stands" : Str)) = (("many" : Str))) = False := by simp only [eq_iff_iff, iff_false]; decide
@[simp] theorem sne_many_pages : ((("many" : Str)) = (("pages" : Str))) = False := by simp only [eq_iff_iff, iff_false]; decide
@[simp] theorem sne_many_left : ((("many" : Str)) = (("left" : Str))) = False := by simp only [eq_iff_iff, iff_false]; decide
@[simp] theorem sne_many_stands : ((("many" : Str)) = (("stands" : Str))) = False := by simp only [eq_iff_iff, iff_false]; decide
def ownL (pl : Addr) (left stands many : D) : List (Key × D) := [(.inr "pages", .ref pl), (.inr "left", left), (.inr "stands", stands), (.inr "many", many)]
/-- the box, the disk, the law's own book -/
structure Wd (G : GS) (b l d k o pl : Addr) (pages : List D) (left : Option Int) (stands : Bool) (many : Int) (pages' : List D) (left' : Option Int) (stands' : Bool) (many' : Int) : Prop where
  box : BoxAt G b l
  disk : DiskAt G d k pages left stands many
  own : G o = some (.dK (ownL pl (optD left') (.bl stands') (.int many')))
  pgs : G pl = some (.lst pages')
  nd : [b, l, d, k, o, pl].Nodup
section
variable {G G' : GS} {b l d k o pl : Addr} {pages pages' : List D} {left left' : Option Int} {stands stands' : Bool} {many many' : Int}
theorem Wd.frmBox (h : Wd G b l d k o pl pages left stands many pages' left' stands' many') (f : Frm [b, l] G G') (B : BoxAt G' b l) : Wd G' b l d k o pl pages left stands many pages' left' stands' many' := by
  have nd := h.nd
  simp only [List.nodup_cons, List.mem_cons, List.not_mem_nil, not_or, or_false] at nd
  obtain ⟨⟨a1, a2, a3, a4, a5⟩, ⟨b1, b2, b3, b4⟩, ⟨c1, c2, c3⟩, ⟨d1, d2⟩, e1, _⟩ := nd
  refine ⟨B, ⟨f _ _ ?_ h.disk.at_, f _ _ ?_ h.disk.kept, h.disk.ne⟩, f _ _ ?_ h.own, f _ _ ?_ h.pgs, h.nd⟩
  · simp [Ne.symm a2, Ne.symm b1]
  · simp [Ne.symm a3, Ne.symm b2]
  · simp [Ne.symm a4, Ne.symm b3]
  · simp [Ne.symm a5, Ne.symm b4]
theorem Wd.sub (h : Wd G b l d k o pl pages left stands many pages' left' stands' many') (f : GSub G G') : Wd G' b l d k o pl pages left stands many pages' left' stands' many' :=
  ⟨h.box.sub f, ⟨f _ _ h.disk.at_, f _ _ h.disk.kept, h.disk.ne⟩, f _ _ h.own, f _ _ h.pgs, h.nd⟩
theorem keepC_of {g : GS} {a : Addr} {u : GO} (h : G a = some u) (n : ∀ k ds, u ≠ .clo k ds) : keepC g G a = some u := by
  unfold keepC
  rw [h]
  cases u with
  | clo k ds => exact absurd rfl (n k ds)
  | _ => rfl
theorem Wd.keep {g : GS} (h : Wd G b l d k o pl pages left stands many pages' left' stands' many') : Wd (keepC g G) b l d k o pl pages left stands many pages' left' stands' many' := by
  obtain ⟨ns, st, h1, h2, h3⟩ := h.box
  exact ⟨⟨ns, st, keepC_of h1 (fun _ _ z => by cases z), keepC_of h2 (fun _ _ z => by cases z), h3⟩, ⟨keepC_of h.disk.at_ (fun _ _ z => by cases z), keepC_of h.disk.kept (fun _ _ z => by cases z), h.disk.ne⟩, keepC_of h.own (fun _ _ z => by cases z), keepC_of h.pgs (fun _ _ z => by cases z), h.nd⟩
theorem Wd.setOwn {left'' : Option Int} {stands'' : Bool} {many'' : Int} (h : Wd G b l d k o pl pages left stands many pages' left' stands' many') : Wd (gup G o (.dK (ownL pl (optD left'') (.bl stands'') (.int many'')))) b l d k o pl pages left stands many pages' left'' stands'' many'' := by
  have nd := h.nd
  simp only [List.nodup_cons, List.mem_cons, List.not_mem_nil, not_or, or_false] at nd
  obtain ⟨⟨a1, a2, a3, a4, a5⟩, ⟨b1, b2, b3, b4⟩, ⟨c1, c2, c3⟩, ⟨d1, d2⟩, e1, _⟩ := nd
  obtain ⟨ns, st, h1, h2, h3⟩ := h.box
  exact ⟨⟨ns, st, by rw [gup_ne a4]; exact h1, by rw [gup_ne b3]; exact h2, h3⟩, ⟨by rw [gup_ne c2]; exact h.disk.at_, by rw [gup_ne d1]; exact h.disk.kept, h.disk.ne⟩, gup_same, by rw [gup_ne (Ne.symm e1)]; exact h.pgs, h.nd⟩
theorem Wd.setPgs {pages'' : List D} (h : Wd G b l d k o pl pages left stands many pages' left' stands' many') : Wd (gup G pl (.lst pages'')) b l d k o pl pages left stands many pages'' left' stands' many' := by
  have nd := h.nd
  simp only [List.nodup_cons, List.mem_cons, List.not_mem_nil, not_or, or_false] at nd
  obtain ⟨⟨a1, a2, a3, a4, a5⟩, ⟨b1, b2, b3, b4⟩, ⟨c1, c2, c3⟩, ⟨d1, d2⟩, e1, _⟩ := nd
  obtain ⟨ns, st, h1, h2, h3⟩ := h.box
  exact ⟨⟨ns, st, by rw [gup_ne a5]; exact h1, by rw [gup_ne b4]; exact h2, h3⟩, ⟨by rw [gup_ne c3]; exact h.disk.at_, by rw [gup_ne d2]; exact h.disk.kept, h.disk.ne⟩, by rw [gup_ne e1]; exact h.own, gup_same, h.nd⟩
theorem Wd.setDisk {pages'' : List D} {left'' : Option Int} {stands'' : Bool} {many'' : Int} (h : Wd G b l d k o pl pages left stands many pages' left' stands' many') (f : Frm [d, k] G G') (dd : DiskAt G' d k pages'' left'' stands'' many'') : Wd G' b l d k o pl pages'' left'' stands'' many'' pages' left' stands' many' := by
  have nd := h.nd
  simp only [List.nodup_cons, List.mem_cons, List.not_mem_nil, not_or, or_false] at nd
  obtain ⟨⟨a1, a2, a3, a4, a5⟩, ⟨b1, b2, b3, b4⟩, ⟨c1, c2, c3⟩, ⟨d1, d2⟩, e1, _⟩ := nd
  obtain ⟨ns, st, h1, h2, h3⟩ := h.box
  refine ⟨⟨ns, st, f _ _ (by simp [a2, a3]) h1, f _ _ (by simp [b1, b2]) h2, h3⟩, dd, f _ _ (by simp [Ne.symm c2, Ne.symm d1]) h.own, f _ _ (by simp [Ne.symm c3, Ne.symm d2]) h.pgs, h.nd⟩
theorem frm_one {a c : Addr} (f : Frm [a] G G') : Frm [a, c] G G' := fun x u hx e => f x u (by simp at hx ⊢; exact hx.1) e
section
variable {Q : DK} {E : XD} {P : GS → Prop} {v x y z : D}
theorem own_pages (h : G o = some (.dK (ownL pl x y z))) : opDGet (.ref o) (.str "pages") G Q E ↔ Q (.ref pl) G := by simp [opDGet, dLook, h, keyD, ownL, valD, List.find?_cons]
theorem own_left (h : G o = some (.dK (ownL pl x y z))) : opDGet (.ref o) (.str "left") G Q E ↔ Q x G := by simp [opDGet, dLook, h, keyD, ownL, valD, List.find?_cons]
theorem own_stands (h : G o = some (.dK (ownL pl x y z))) : opDGet (.ref o) (.str "stands") G Q E ↔ Q y G := by simp [opDGet, dLook, h, keyD, ownL, valD, List.find?_cons]
theorem own_many (h : G o = some (.dK (ownL pl x y z))) : opDGet (.ref o) (.str "many") G Q E ↔ Q z G := by simp [opDGet, dLook, h, keyD, ownL, valD, List.find?_cons]
theorem set_left (h : G o = some (.dK (ownL pl x y z))) : opSetD (.ref o) (.str "left") v G P ↔ P (gup G o (.dK (ownL pl v y z))) := by simp [opSetD, h, keyD, ownL, putDk]
theorem set_stands (h : G o = some (.dK (ownL pl x y z))) : opSetD (.ref o) (.str "stands") v G P ↔ P (gup G o (.dK (ownL pl x v z))) := by simp [opSetD, h, keyD, ownL, putDk]
theorem set_many (h : G o = some (.dK (ownL pl x y z))) : opSetD (.ref o) (.str "many") v G P ↔ P (gup G o (.dK (ownL pl x y v))) := by simp [opSetD, h, keyD, ownL, putDk]
end
end
end GL
set_option Elab.async false
set_option linter.all false
set_option maxRecDepth 100000
set_option maxHeartbeats 8000000
/-! K11: one turn of law k02. -/
namespace GL
open PySem PySem.Spec PyProof.Rows L2
def il_c0 : Ex := .meth e_Disk_arm (.var 0) (.cons (.dget (.var 1) (.cS "left")) .nil)
def il_c1 : Ex := .meth e_Disk_again (.var 0) .nil
def il_c2 : Ex := .meth e_Disk_page (.var 0) (.cons (.var 1) .nil)
def il_c3 : Ex := .meth e_Disk_write (.var 0) (.cons (.var 1) (.cons (.var 2) .nil))
def il_c4 : Ex := .meth e_Disk_page (.var 0) (.cons (.cI 99) .nil)
def il_c5 : Ex := .meth e_Disk_write (.var 1) (.cons (.cI 99) (.cons (.tup .nil) .nil))
def n_c0 : List Str := ["_law_disk", "_law_own"]
def n_c1 : List Str := ["_law_disk"]
def n_c2 : List Str := ["_law_disk", "_law_number"]
def n_c3 : List Str := ["_law_disk", "_law_number", "_law_page_here"]
def n_c4 : List Str := ["_law_disk"]
def n_c5 : List Str := ["_law_a", "_law_disk"]
def clE (N : List Str) (ak : ArgK) (lev : Nat) (il : Ex) : ClE := ⟨ak.ar, lev + 1, fun cds ds => il.den.e (startL N ak ds cds)⟩
def cs02 : Nat → Option ClE
  | 0 => some (clE n_c0 .z 2 il_c0)
  | 1 => some (clE n_c1 .z 1 il_c1)
  | 2 => some (clE n_c2 .z 3 il_c2)
  | 3 => some (clE n_c3 .z 4 il_c3)
  | 4 => some (clE n_c4 .z 3 il_c4)
  | 5 => some (clE n_c5 (.d "_law_a") 4 il_c5)
  | _ => none
abbrev e_told02 : FnE := e__law_told cs02 6
abbrev e_alike6 : FnE := e__law_alike 6
def sp__law_turn : Spec := fun ds G Q _ => match ds with
  | [.ref b, .ref d, .ref o] => ∃ l k pl pages left stands many, Wd G b l d k o pl pages left stands many pages left stands many ∧ (∀ p ∈ pages, GoodPage p) ∧ 0 < pages.length ∧ pages.length ≤ 12 ∧
      ∀ G' pages' left' stands' many', Wd G' b l d k o pl pages' left' stands' many' pages' left' stands' many' → (∀ p ∈ pages', GoodPage p) → pages'.length = pages.length → Q (.bl true) G'
  | _ => False
def e__law_turn : FnE := ⟨.glob "_law_turn", 3, 7, sp__law_turn⟩
def n__law_turn : List Str := ["_law_box", "_law_disk", "_law_own", "_law_way", "_law_number", "_law_due", "_law_page_here"]
def t_arm (ls : Nat → LamD) : Sx :=
  (.seq (.asg (.call e__law_take (.cons (.var 0) (.cons (.ix (.lst (.cons (.cI 2) (.cons (.cI 5) (.cons (.cI 30) .nil)))) (.call e__law_take (.cons (.var 0) (.cons (.cI 3) .nil)))) .nil))) (.gSub .dct (.var 2) (.cS "left")))
  (.seq (.ret (.call e_alike6 (.cons (.call e_told02 (.cons (.lam 0 (ls 0) [1, 2]) .nil)) (.cons .cN .nil))))
  .nil))
def t_again (ls : Nat → LamD) : Sx :=
  (.seq (.asg (.tup (.cons .cN (.cons (.cB false) .nil))) (.gT 2 (.gsC (.gSub .dct (.var 2) (.cS "left")) (.gsC (.gSub .dct (.var 2) (.cS "stands")) .gs0))))
  (.seq (.ret (.call e_alike6 (.cons (.call e_told02 (.cons (.lam 1 (ls 1) [1]) .nil)) (.cons .cN .nil))))
  .nil))
def t_page (ls : Nat → LamD) : Sx :=
  (.seq (.asg (.ite (.tv (.dget (.var 2) (.cS "stands"))) (.tup (.cons (.cS "Stopped") (.cons (.cI 0) .nil))) (.ix (.dget (.var 2) (.cS "pages")) (.var 4))) (.gN 5))
  (.seq (.ret (.call e_alike6 (.cons (.call e_told02 (.cons (.lam 2 (ls 2) [1, 4]) .nil)) (.cons (.var 5) .nil))))
  .nil))
def t_write (ls : Nat → LamD) (g0 : GS) : Sx :=
  (.seq (.asg (.call e__law_page (.cons (.var 0) .nil)) (.gNc g0 6))
  (.seq (.asg .cN (.gN 5))
  (.seq (.ite (.tor (.tv (.dget (.var 2) (.cS "stands"))) (.tcmp .eq (.dget (.var 2) (.cS "left")) (.cI 0))) (.seq (.asg (.tup (.cons (.tup (.cons (.cS "Stopped") (.cons (.cI 0) .nil))) (.cons (.cB true) .nil))) (.gT 2 (.gsC (.gN 5) (.gsC (.gSub .dct (.var 2) (.cS "stands")) .gs0))))
  .nil) (.seq (.asg (.ite (.tcmp .notN (.dget (.var 2) (.cS "left")) .cN) (.bin .sub (.dget (.var 2) (.cS "left")) (.cI 1)) .cN) (.gSub .dct (.var 2) (.cS "left")))
  (.seq (.asg (.var 6) (.gSub .lst (.dget (.var 2) (.cS "pages")) (.var 4)))
  (.seq (.asg (.bin .add (.dget (.var 2) (.cS "many")) (.cI 1)) (.gSub .dct (.var 2) (.cS "many")))
  .nil))))
  (.seq (.ret (.call e_alike6 (.cons (.call e_told02 (.cons (.lam 3 (ls 3) [1, 4, 6]) .nil)) (.cons (.var 5) .nil))))
  .nil))))
def il__law_turn (ls : Nat → LamD) (g0 : GS) : Sx :=
  (.seq (.asg (.call e__law_take (.cons (.var 0) (.cons (.cI 8) .nil))) (.gN 3))
  (.seq (.asg (.call e__law_take (.cons (.var 0) (.cons (.bt .len (.cons (.dget (.var 2) (.cS "pages")) .nil)) .nil))) (.gNc g0 4))
  (.seq (.ite (.tcmp .eq (.var 3) (.cI 0)) (t_arm ls) .nil)
  (.seq (.ite (.tcmp .eq (.var 3) (.cI 1)) (t_again ls) .nil)
  (.seq (.ite (.tcmp .lt (.var 3) (.cI 4)) (t_page ls) .nil)
  (t_write ls g0))))))
section
variable {G G0 : GS} {b l d k o pl : Addr} {pages pages' : List D} {left left' : Option Int} {stands stands' : Bool} {many many' : Int}
/-- after a turn -/
def AfterT (Q : DK) (b l d k o pl : Addr) (n : Nat) : Prop := ∀ G' pages' left' stands' many', Wd G' b l d k o pl pages' left' stands' many' pages' left' stands' many' → (∀ p ∈ pages', GoodPage p) → pages'.length = n → Q (.bl true) G'
theorem clo_new {p : Addr} {n : Nat} {ds : List D} {G : GS} (hp : G p = none) : (gup G p (.clo n ds)) p = some (.clo n ds) := gup_same
theorem Wd.take {m : Int} {Q : DK} {E : XD} (W : Wd G b l d k o pl pages left stands many pages' left' stands' many') (h0 : 0 < m) (h1 : m ≤ 2 ^ 64) (h : ∀ G' r, Frm [b, l] G G' → Wd G' b l d k o pl pages left stands many pages' left' stands' many' → 0 ≤ r → r < m → Q (.int r) G') : e__law_take.sp [.ref b, .int m] G Q E :=
  take_step W.box h0 h1 fun G' r f B r0 r1 => h G' r f (W.frmBox f B) r0 r1
theorem Wd.new {p : Addr} {u : GO} (W : Wd G b l d k o pl pages left stands many pages' left' stands' many') (hp : G p = none) : Wd (gup G p u) b l d k o pl pages left stands many pages' left' stands' many' := W.sub (gsub_gup (GSub.refl G) hp)
theorem Wd.ne_b {p : Addr} (W : Wd G b l d k o pl pages left stands many pages' left' stands' many') (hp : G p = none) : p ∉ [b, l] := by
  obtain ⟨ns, st, h1, h2, _⟩ := W.box
  simp only [List.mem_cons, List.not_mem_nil, or_false, not_or]
  exact ⟨fun z => (by rw [z, h1] at hp; cases hp), fun z => (by rw [z, h2] at hp; cases hp)⟩
theorem told_step {f : Addr} {n : Nat} {cds : List D} {e : ClE} {Q : DK} {E : XD} (h : G f = some (.clo n cds)) (hc : cs02 n = some e) (ha : e.ar = 0) (hs : e.sp cds [] G Q (fun cn p G1 => (isErr cn ∧ p = []) ∧ ∀ G2, GSub G1 G2 → Q (.tup [.str cn, .int 0]) G2)) : e_told02.sp [.ref f] G Q E :=
  ⟨n, cds, e, h, hc, ha, hs⟩
theorem isErr_Stopped : isErr "Stopped" := ⟨8, rfl, by decide⟩
theorem isErr_NoPage : isErr "NoPage" := ⟨6, rfl, by decide⟩
theorem Like.up {G : GS} : ∀ {n : Nat} {x y : D}, Like G n x y → Like G (n + 1) x y
  | 0, _, _, h => h.elim
  | n + 1, x, y, h => by
    rcases h with h | h | h | h | ⟨xs, ys, h1, h2, h3⟩
    · exact .inl h
    · exact .inr (.inl h)
    · exact .inr (.inr (.inl h))
    · exact .inr (.inr (.inr (.inl h)))
    · exact .inr (.inr (.inr (.inr ⟨xs, ys, h1, h2, fun i x y e1 e2 => (h3 i x y e1 e2).up⟩)))
theorem like_word {G : GS} {s : Str} {i : Int} : Like G 6 (.tup [.str s, .int i]) (.tup [.str s, .int i]) := by
  refine .inr (.inr (.inr (.inr ⟨_, _, .inl ⟨rfl, rfl⟩, ⟨rfl, by simp⟩, fun j x y e1 e2 => ?_⟩)))
  rw [e1] at e2
  cases e2
  have hm := List.mem_of_getElem? e1
  simp at hm
  rcases hm with rfl | rfl
  · exact .inr (.inr (.inr (.inl ⟨s, rfl, rfl⟩)))
  · exact .inr (.inr (.inl ⟨i, rfl, rfl⟩))
theorem GoodPage.like {G : GS} {p : D} (h : GoodPage p) : Like G 5 p p := h.pl.like h.sh
theorem t_arm_ok {ls : Nat → LamD} {x3 x4 x5 x6 : Option D} {Q : DK} {E : XD} (W : Wd G b l d k o pl pages left stands many pages left stands many) (g : ∀ p ∈ pages, GoodPage p) (q : AfterT (fun v G' => Q v (keepC G0 G')) b l d k o pl pages.length) :
    (t_arm ls).den (endsD true G0 Q) E [some (.ref b), some (.ref d), some (.ref o), x3, x4, x5, x6] G := by
  simp [t_arm, dNew]
  intro p hp
  refine (W.new hp).take (by decide) (by decide) fun G1 r f1 W1 r0 r1 => ?_
  have p1 : G1 p = some (.lst [.int 2, .int 5, .int 30]) := f1 _ _ (W.ne_b hp) gup_same
  rw [opIx_l p1]
  obtain ⟨c, hc, c0, c1⟩ : ∃ c : Int, atI [D.int 2, D.int 5, D.int 30] r = some (.int c) ∧ 0 < c ∧ c ≤ 30 := by
    have : r = 0 ∨ r = 1 ∨ r = 2 := by omega
    rcases this with rfl | rfl | rfl
    · exact ⟨2, by simp [atI, ixN], by decide, by decide⟩
    · exact ⟨5, by simp [atI, ixN], by decide, by decide⟩
    · exact ⟨30, by simp [atI, ixN], by decide, by decide⟩
  refine ⟨_, hc, ?_⟩
  refine W1.take c0 (by omega) fun G2 n f2 W2 n0 n1 => ?_
  rw [set_left W2.own]
  have W3 := W2.setOwn (left'' := some n) (stands'' := stands) (many'' := many)
  simp only [optD] at W3
  simp [dLam, rhoGet, dNew]
  intro f hf
  have W4 := W3.new (u := .clo 0 [.ref d, .ref o]) hf
  refine told_step gup_same rfl rfl ?_
  simp [clE, il_c0, startL, ArgK.vals, n_c0, dMeth, W4.disk.ins, own_left W4.own, lk1, e_Disk_arm, -List.lookup_eq_none_iff]
  refine ⟨nomem _ _ _ _ _ (by decide) (by decide) (by decide) (by decide), k, pages, left, stands, many, W4.disk, rfl, ?_⟩
  have hn : isNumB (.int n) 0 1000000 = true := by simp [isNumB]; omega
  simp only [optD, hn, if_true]
  intro n' G5 e f5 D5
  cases e
  have W5 := W4.setDisk (frm_one f5) D5
  exact ⟨.inl ⟨rfl, rfl⟩, q _ _ _ _ _ W5 g rfl⟩
theorem t_again_ok {ls : Nat → LamD} {x3 x4 x5 x6 : Option D} {Q : DK} {E : XD} (W : Wd G b l d k o pl pages left stands many pages left stands many) (g : ∀ p ∈ pages, GoodPage p) (q : AfterT (fun v G' => Q v (keepC G0 G')) b l d k o pl pages.length) :
    (t_again ls).den (endsD true G0 Q) E [some (.ref b), some (.ref d), some (.ref o), x3, x4, x5, x6] G := by
  simp [t_again, set_left W.own]
  have W1 := W.setOwn (left'' := none) (stands'' := stands) (many'' := many)
  simp only [optD] at W1
  rw [set_stands W1.own]
  have W2 := W1.setOwn (left'' := none) (stands'' := false) (many'' := many)
  simp [dLam, rhoGet, dNew]
  intro f hf
  have W4 := W2.new (u := .clo 1 [.ref d]) hf
  refine told_step gup_same rfl rfl ?_
  simp [clE, il_c1, startL, ArgK.vals, n_c1, dMeth, W4.disk.ins, lk1, e_Disk_again, -List.lookup_eq_none_iff]
  refine ⟨nomem _ _ _ _ _ (by decide) (by decide) (by decide) (by decide), k, pages, left, stands, many, W4.disk, ?_⟩
  intro G5 f5 D5
  have W5 := W4.setDisk (frm_one f5) D5
  exact ⟨.inl ⟨rfl, rfl⟩, q _ _ _ _ _ W5 g rfl⟩
theorem t_page_ok {ls : Nat → LamD} {x3 x5 x6 : Option D} {n : Nat} {Q : DK} {E : XD} (hn : n < pages.length) (h12 : pages.length ≤ 12) (W : Wd G b l d k o pl pages left stands many pages left stands many) (g : ∀ p ∈ pages, GoodPage p) (q : AfterT (fun v G' => Q v (keepC G0 G')) b l d k o pl pages.length) :
    (t_page ls).den (endsD true G0 Q) E [some (.ref b), some (.ref d), some (.ref o), x3, some (.int n), x5, x6] G := by
  obtain ⟨pg, hpg⟩ : ∃ pg, pages[n]? = some pg := ⟨_, List.getElem?_eq_getElem hn⟩
  have gpg := g pg (List.mem_of_getElem? hpg)
  have hnum : isNumB (.int n) 0 ((pages.length : Int) - 1) = true := by simp [isNumB]; omega
  simp [t_page, own_stands W.own, own_pages W.own]
  cases stands with
  | true =>
    simp [dLam, rhoGet, dNew]
    intro f hf
    have W4 := W.new (u := .clo 2 [.ref d, .int n]) hf
    refine told_step gup_same rfl rfl ?_
    simp [clE, il_c2, startL, ArgK.vals, n_c2, dMeth, W4.disk.ins, lk1, e_Disk_page, -List.lookup_eq_none_iff]
    refine ⟨nomem _ _ _ _ _ (by decide) (by decide) (by decide) (by decide), k, pages, left, true, many, W4.disk, rfl, ?_⟩
    simp
    exact ⟨isErr_Stopped, fun G2 s => ⟨like_word, q _ _ _ _ _ (W4.sub s) g rfl⟩⟩
  | false =>
    simp
    rw [opIx_l W.pgs]
    refine ⟨pg, by simpa [atI, ixN, hn] using hpg, ?_⟩
    simp [dLam, rhoGet, dNew]
    intro f hf
    have W4 := W.new (u := .clo 2 [.ref d, .int n]) hf
    refine told_step gup_same rfl rfl ?_
    simp [clE, il_c2, startL, ArgK.vals, n_c2, dMeth, W4.disk.ins, lk1, e_Disk_page, -List.lookup_eq_none_iff]
    refine ⟨nomem _ _ _ _ _ (by decide) (by decide) (by decide) (by decide), k, pages, left, false, many, W4.disk, rfl, ?_⟩
    simp only [hnum, if_true, Bool.false_eq_true, if_false]
    intro n' x e1 e2
    cases e1
    rw [hpg] at e2
    cases e2
    exact ⟨gpg.like.up, q _ _ _ _ _ W4 g rfl⟩
theorem set_good {n : Nat} {pg : D} (g : ∀ p ∈ pages, GoodPage p) (gp : GoodPage pg) : ∀ p ∈ pages.set n pg, GoodPage p := fun p hp => by
  rcases List.mem_or_eq_of_mem_set hp with h | rfl
  · exact g p h
  · exact gp
theorem wr_pre {pg : D} {n : Nat} (gp : GoodPage pg) : (tyD G (.int n)).isSome = true ∧ tame G 4 pg ∧ pyDep 50 pg ∧ (∀ ss c, pg = .tup [.tup ss, c] → ss.length ≤ 1000) := by
  refine ⟨rfl, gp.pl.tame, gp.pl.py.mono (by decide), fun ss c e => ?_⟩
  have := gp.ok
  rw [e] at this
  simp [okPage, isPageB] at this
  omega
theorem wr_st {pg : D} {n : Nat} {Q : DK} {E : XD} (gp : GoodPage pg) (D0 : DiskAt G d k pages left true many) (h : E "Stopped" [] G) : sp_Disk_write [.ref d, .int n, pg] G Q E :=
  ⟨k, pages, left, true, many, D0, wr_pre gp, by simpa using h⟩
theorem wr_0 {pg : D} {n : Nat} {Q : DK} {E : XD} (hnum : isNumB (.int n) 0 ((pages.length : Int) - 1) = true) (gp : GoodPage pg) (D0 : DiskAt G d k pages (some 0) false many) (h : ∀ G', Frm [d] G G' → DiskAt G' d k pages (some 0) true many → E "Stopped" [] G') : sp_Disk_write [.ref d, .int n, pg] G Q E := by
  refine ⟨k, pages, some 0, false, many, D0, wr_pre gp, ?_⟩
  simp only [hnum, gp.ok, if_true, Bool.false_eq_true, if_false]
  exact h
theorem wr_n {pg : D} {n : Nat} {Q : DK} {E : XD} (hl : left ≠ some 0) (hnum : isNumB (.int n) 0 ((pages.length : Int) - 1) = true) (gp : GoodPage pg) (D0 : DiskAt G d k pages left false many) (h : ∀ G', Frm [d, k] G G' → DiskAt G' d k (pages.set n pg) (left.map fun x => x - 1) false (many + 1) → Q .non G') : sp_Disk_write [.ref d, .int n, pg] G Q E := by
  refine ⟨k, pages, left, false, many, D0, wr_pre gp, ?_⟩
  simp only [hnum, gp.ok, if_true, Bool.false_eq_true, if_false]
  cases left with
  | none =>
    intro n' e
    cases e
    exact h
  | some i =>
    intro n' e
    cases e
    exact h
theorem t_write_ok {ls : Nat → LamD} {x3 x5 x6 : Option D} {n : Nat} {Q : DK} {E : XD} (hn : n < pages.length) (h12 : pages.length ≤ 12) (W : Wd G b l d k o pl pages left stands many pages left stands many) (g : ∀ p ∈ pages, GoodPage p) (q : AfterT (fun v G' => Q v (keepC G0 G')) b l d k o pl pages.length) :
    (t_write ls G0).den (endsD true G0 Q) E [some (.ref b), some (.ref d), some (.ref o), x3, some (.int n), x5, x6] G := by
  have hnum : isNumB (.int n) 0 ((pages.length : Int) - 1) = true := by simp [isNumB]; omega
  simp [t_write]
  refine ⟨rfl, l, W.box, fun G1 pg f1 B1 gp => ?_⟩
  have W1 := (W.frmBox f1 B1).keep (g := G0)
  simp [gNc, own_stands W1.own, own_left W1.own]
  cases stands with
  | true =>
    simp [set_stands W1.own]
    have W2 := W1.setOwn (left'' := left) (stands'' := true) (many'' := many)
    simp [dLam, rhoGet, dNew]
    intro f hf
    have W4 := W2.new (u := .clo 3 [.ref d, .int n, pg]) hf
    refine told_step gup_same rfl rfl ?_
    simp [clE, il_c3, startL, ArgK.vals, n_c3, dMeth, W4.disk.ins, lk1, e_Disk_write, -List.lookup_eq_none_iff]
    exact ⟨nomem _ _ _ _ _ (by decide) (by decide) (by decide) (by decide), wr_st gp W4.disk ⟨⟨isErr_Stopped, rfl⟩, fun G2 s => ⟨like_word, q _ _ _ _ _ (W4.sub s) g rfl⟩⟩⟩
  | false =>
    cases left with
    | none =>
      simp only [optD, opEq_ni, m_bool, Bool.false_eq_true, if_false, own_left W1.own, isNon, if_true]
      rw [set_left W1.own]
      have W2 := W1.setOwn (left'' := none) (stands'' := false) (many'' := many)
      simp only [optD] at W2
      simp [own_pages W2.own]
      rw [opSetL_l W2.pgs]
      refine ⟨n, by simp [ixN, hn], ?_⟩
      have W3 := W2.setPgs (pages'' := pages.set n pg)
      simp only [sSeq, sAsg, m_bin, m_var, m_c, List.getElem?_cons_zero, List.getElem?_cons_succ]
      rw [own_many W3.own]
      simp [opAdd]
      rw [set_many W3.own]
      have W5 := W3.setOwn (left'' := none) (stands'' := false) (many'' := many + 1)
      simp only [optD] at W5 ⊢
      simp [dLam, rhoGet, dNew]
      intro f hf
      have W4 := W5.new (u := .clo 3 [.ref d, .int n, pg]) hf
      refine told_step gup_same rfl rfl ?_
      simp [clE, il_c3, startL, ArgK.vals, n_c3, dMeth, W4.disk.ins, lk1, e_Disk_write, -List.lookup_eq_none_iff]
      refine ⟨nomem _ _ _ _ _ (by decide) (by decide) (by decide) (by decide), wr_n (by simp) hnum gp W4.disk fun G5 f5 D5 => ?_⟩
      exact ⟨.inl ⟨rfl, rfl⟩, q _ _ _ _ _ (W4.setDisk f5 D5) (set_good g gp) (by simp)⟩
    | some i =>
      by_cases hi : i = 0
      · subst hi
        simp [optD, set_stands W1.own]
        have W2 := W1.setOwn (left'' := some 0) (stands'' := true) (many'' := many)
        simp only [optD] at W2
        simp [dLam, rhoGet, dNew]
        intro f hf
        have W4 := W2.new (u := .clo 3 [.ref d, .int n, pg]) hf
        refine told_step gup_same rfl rfl ?_
        simp [clE, il_c3, startL, ArgK.vals, n_c3, dMeth, W4.disk.ins, lk1, e_Disk_write, -List.lookup_eq_none_iff]
        refine ⟨nomem _ _ _ _ _ (by decide) (by decide) (by decide) (by decide), wr_0 hnum gp W4.disk fun G5 f5 D5 => ?_⟩
        exact ⟨⟨isErr_Stopped, rfl⟩, fun G2 s => ⟨like_word, q _ _ _ _ _ ((W4.setDisk (frm_one f5) D5).sub s) g rfl⟩⟩
      · have hd : decide (i = 0) = false := by simp [hi]
        simp [optD, hi, own_left W1.own, isNon]
        rw [set_left W1.own]
        have W2 := W1.setOwn (left'' := some (i - 1)) (stands'' := false) (many'' := many)
        simp only [optD] at W2
        simp [own_pages W2.own]
        rw [opSetL_l W2.pgs]
        refine ⟨n, by simp [ixN, hn], ?_⟩
        have W3 := W2.setPgs (pages'' := pages.set n pg)
        simp only [sSeq, sAsg, m_bin, m_var, m_c, List.getElem?_cons_zero, List.getElem?_cons_succ]
        rw [own_many W3.own]
        simp [opAdd]
        rw [set_many W3.own]
        have W5 := W3.setOwn (left'' := some (i - 1)) (stands'' := false) (many'' := many + 1)
        simp only [optD] at W5 ⊢
        simp [dLam, rhoGet, dNew]
        intro f hf
        have W4 := W5.new (u := .clo 3 [.ref d, .int n, pg]) hf
        refine told_step gup_same rfl rfl ?_
        simp [clE, il_c3, startL, ArgK.vals, n_c3, dMeth, W4.disk.ins, lk1, e_Disk_write, -List.lookup_eq_none_iff]
        refine ⟨nomem _ _ _ _ _ (by decide) (by decide) (by decide) (by decide), wr_n (by simpa using hi) hnum gp W4.disk fun G5 f5 D5 => ?_⟩
        exact ⟨.inl ⟨rfl, rfl⟩, q _ _ _ _ _ (W4.setDisk f5 D5) (set_good g gp) (by simp)⟩
theorem k__law_turn (ls : Nat → LamD) : Keeps n__law_turn 3 true (il__law_turn ls) sp__law_turn := by
  intro ds G Q E hl h
  unfold sp__law_turn at h
  split at h
  · rename_i b d o
    obtain ⟨l, k, pl, pages, left, stands, many, W, g, hn, h12, q⟩ := h
    have q : AfterT (fun v G' => Q v (keepC G G')) b l d k o pl pages.length := fun G' pages' left' stands' many' W' g' e => q _ _ _ _ _ W'.keep g' e
    simp [il__law_turn, startD, n__law_turn]
    refine W.take (by decide) (by decide) fun G1 way f1 W1 w0 w1 => ?_
    simp [own_pages W1.own, opLen, lenD, lsqOf, W1.pgs]
    refine W1.take (by omega) (by omega) fun G2 num f2 W2 n0 n1 => ?_
    have W3 := W2.keep (g := G)
    obtain ⟨n, rfl⟩ : ∃ n : Nat, num = n := ⟨num.toNat, by omega⟩
    have hn2 : n < pages.length := by omega
    simp only [gNc, List.set_cons_succ, List.set_cons_zero]
    by_cases c0 : way = 0
    · subst c0
      simp
      exact t_arm_ok W3 g q
    by_cases c1 : way = 1
    · subst c1
      simp
      exact t_again_ok W3 g q
    by_cases c2 : way < 4
    · simp [c0, c1, c2]
      exact t_page_ok hn2 h12 W3 g q
    · simp [c0, c1, c2]
      exact t_write_ok hn2 h12 W3 g q
  · exact h.elim
end
end GL
set_option Elab.async false
set_option linter.all false
set_option maxRecDepth 100000
set_option maxHeartbeats 8000000
/-! K12: the law k02. -/
namespace GL
open PySem PySem.Spec PyProof.Rows L2
abbrev e_all02 : FnE := e__law_all cs02 6 7
def sp02 : Spec := fun ds G Q _ => match ds with
  | [.ref s] => ∃ ns : List Int, G s = some (.rol (ns.map D.int)) ∧ ns.length ≤ 63 ∧ ∀ G', Q (.bl true) G'
  | _ => False
def e02 : FnE := ⟨.glob "law", 1, 8, sp02⟩
def n02 : List Str := ["_law_script", "_law_box", "_law_many", "_law_disk", "_law_fresh", "_law_own", "_law_turn_here", "_law_works", "_law_number"]
def l02_body (ls : Nat → LamD) : Sx :=
  (.seq (.ite (.tnot (.tv (.call e__law_turn (.cons (.var 1) (.cons (.var 3) (.cons (.var 5) .nil)))))) (.seq (.ret (.cB false))
  .nil) .nil)
  (.seq (.ite (.tnot (.tv (.call e_alike6 (.cons (.lst (.cons (.meth e_Disk_pages (.var 3) .nil) (.cons (.meth e_Disk_writes (.var 3) .nil) .nil))) (.cons (.lst (.cons (.var 2) (.cons (.dget (.var 5) (.cS "many")) .nil))) .nil))))) (.seq (.ret (.cB false))
  .nil) .nil)
  (.seq (.asg (.lst (.cons (.lam 4 (ls 4) [3]) (.cons (.lam 5 (ls 5) [3]) .nil))) (.gN 7))
  (.seq (.ite (.tnot (.tv (.call e_all02 (.cons (.var 7) (.cons (.tup (.cons (.ite (.tv (.dget (.var 5) (.cS "stands"))) (.cS "Stopped") (.cS "NoPage")) (.cons (.cI 0) .nil))) .nil))))) (.seq (.ret (.cB false))
  .nil) .nil)
  .nil))))
def l02_end (g0 : GS) : Sx :=
  (.seq (.expr (.meth e_Disk_again (.var 3) .nil))
  (.seq (.ret (.call e_alike6 (.cons (.lcC g0 (.one 8) (.iR1 (.var 2)) .tyes (.meth e_Disk_page (.var 3) (.cons (.var 8) .nil))) (.cons (.dget (.var 5) (.cS "pages")) .nil))))
  .nil))
def il02 (ls : Nat → LamD) (g0 : GS) : Sx :=
  (.seq (.asg (.call e__law_begun (.cons (.var 0) .nil)) (.gN 1))
  (.seq (.asg (.bin .add (.cI 2) (.call e__law_take (.cons (.var 1) (.cons (.cI 11) .nil)))) (.gN 2))
  (.seq (.asg (.make e_Disk (.cons (.var 2) .nil)) (.gNc g0 3))
  (.seq (.asg (.tup (.cons (.bin .mul (.tup (.cons (.tup (.cons (.cS "free") (.cons (.cI 0) .nil))) .nil)) (.cI 8)) (.cons (.bin .mul (.tup (.cons (.cI 0) .nil)) (.cI 24)) .nil))) (.gN 4))
  (.seq (.asg (.disp (.dpC "pages" (.bin .mul (.lst (.cons (.var 4) .nil)) (.var 2)) (.dpC "left" .cN (.dpC "stands" (.cB false) (.dpC "many" (.cI 0) .dp0))))) (.gN 5))
  (.seq (.for_ (.iR1 (.call e__law_take (.cons (.var 1) (.cons (.ix (.lst (.cons (.cI 41) (.cons (.cI 121) .nil))) (.call e__law_take (.cons (.var 1) (.cons (.cI 2) .nil)))) .nil)))) (.gN 6) (l02_body ls))
  (l02_end g0)))))))
section
variable {G G0 : GS} {b l d k o pl : Addr} {pages pages' : List D} {left left' : Option Int} {stands stands' : Bool} {many many' : Int}
theorem like_ints {G : GS} {p q : Addr} {x y : Int} (hp : G p = some (.lst [.int x, .int y])) (hq : G q = some (.lst [.int x, .int y])) : Like G 6 (.ref p) (.ref q) := by
  refine .inr (.inr (.inr (.inr ⟨_, _, .inr ⟨p, q, rfl, rfl, hp, hq⟩, ⟨rfl, by simp⟩, fun j x y e1 e2 => ?_⟩)))
  rw [e1] at e2
  cases e2
  have hm := List.mem_of_getElem? e1
  simp at hm
  rcases hm with rfl | rfl <;> exact .inr (.inr (.inl ⟨_, rfl, rfl⟩))
theorem told_page99 {f : Addr} {Q : DK} {E : XD} (h12 : pages.length ≤ 12) (D : DiskAt G d k pages left stands many) (hf : G f = some (.clo 4 [.ref d])) (q : ∀ r G1, GSub G G1 → Like G1 6 r (.tup [.str (if stands = true then "Stopped" else "NoPage"), .int 0]) → Q r G1) : e_told02.sp [.ref f] G Q E := by
  refine told_step hf rfl rfl ?_
  have hnum : isNumB (.int 99) 0 ((pages.length : Int) - 1) = false := by simp [isNumB]; omega
  simp [clE, il_c4, startL, ArgK.vals, n_c4, dMeth, D.ins, lk1, e_Disk_page, -List.lookup_eq_none_iff]
  refine ⟨nomem _ _ _ _ _ (by decide) (by decide) (by decide) (by decide), k, pages, left, stands, many, D, rfl, ?_⟩
  cases stands with
  | true => simpa using ⟨isErr_Stopped, fun G2 s => q _ _ s like_word⟩
  | false => simpa [hnum] using ⟨isErr_NoPage, fun G2 s => q _ _ s like_word⟩
theorem told_write99 {f : Addr} {Q : DK} {E : XD} (h12 : pages.length ≤ 12) (D : DiskAt G d k pages left stands many) (hf : G f = some (.clo 5 [.ref d])) (q : ∀ r G1, GSub G G1 → Like G1 6 r (.tup [.str (if stands = true then "Stopped" else "NoPage"), .int 0]) → Q r G1) : e_told02.sp [.ref f] G Q E := by
  refine told_step hf rfl rfl ?_
  have hnum : isNumB (.int 99) 0 ((pages.length : Int) - 1) = false := by simp [isNumB]; omega
  simp [clE, il_c5, startL, ArgK.vals, n_c5, dMeth, D.ins, lk1, e_Disk_write, -List.lookup_eq_none_iff]
  refine ⟨nomem _ _ _ _ _ (by decide) (by decide) (by decide) (by decide), k, pages, left, stands, many, D, ⟨rfl, ?_, ?_, ?_⟩, ?_⟩
  · exact ⟨rfl, fun e he => by cases he⟩
  · exact pyDep.mono (n := 1) (pyDep.tup fun e he => by cases he) (by decide)
  · intro ss c e
    cases e
  · cases stands with
    | true => simpa using ⟨isErr_Stopped, fun G2 s => q _ _ s like_word⟩
    | false => simpa [hnum] using ⟨isErr_NoPage, fun G2 s => q _ _ s like_word⟩
theorem body_ok {ls : Nat → LamD} {D0 : DEnds} {E : XD} {m : Nat} {s fr : D} {x6 x7 x8 : Option D} (m2 : 2 ≤ m ∧ m ≤ 12) (W : Wd G b l d k o pl pages left stands many pages left stands many) (g : ∀ p ∈ pages, GoodPage p) (hm : pages.length = m)
    (h : ∀ G' pages' left' stands' many' x7, Wd G' b l d k o pl pages' left' stands' many' pages' left' stands' many' → (∀ p ∈ pages', GoodPage p) → pages'.length = m → D0.nx [some s, some (.ref b), some (.int m), some (.ref d), some fr, some (.ref o), x6, x7, x8] G') :
    (l02_body ls).den D0 E [some s, some (.ref b), some (.int m), some (.ref d), some fr, some (.ref o), x6, x7, x8] G := by
  simp [l02_body]
  refine ⟨rfl, l, k, pl, pages, left, stands, many, W, g, by omega, by omega, fun G1 pages1 left1 stands1 many1 W1 g1 hl1 => ?_⟩
  simp [dMeth, W1.disk.ins, e_Disk_pages, -List.lookup_eq_none_iff]
  refine ⟨nomem _ _ _ _ _ (by decide) (by decide) (by decide) (by decide), k, pages1, left1, stands1, many1, W1.disk, ?_⟩
  simp [W1.disk.ins, e_Disk_writes, -List.lookup_eq_none_iff]
  refine ⟨nomem _ _ _ _ _ (by decide) (by decide) (by decide) (by decide), k, pages1, left1, stands1, many1, W1.disk, ?_⟩
  simp [dNew]
  intro p hp
  have W2 := W1.new (u := .lst [.int pages1.length, .int many1]) hp
  rw [own_many W2.own]
  intro p2 hp2
  have W3 := W2.new (u := .lst [.int m, .int many1]) hp2
  have np : p ≠ p2 := fun z => by rw [← z, gup_same] at hp2; cases hp2
  have lk := like_ints (x := (m : Int)) (y := many1) (p := p) (q := p2) (G := gup (gup G1 p (.lst [.int pages1.length, .int many1])) p2 (.lst [.int m, .int many1])) (by rw [gup_ne np, gup_same, hl1, hm]) gup_same
  refine ⟨lk, ?_⟩
  obtain ⟨G3, hG3⟩ : ∃ G3, G3 = gup (gup G1 p (.lst [.int pages1.length, .int many1])) p2 (.lst [.int m, .int many1]) := ⟨_, rfl⟩
  rw [← hG3] at W3 ⊢
  clear hG3
  simp [dLam, rhoGet, dNew]
  intro c4 h4 c5 h5 pw hw
  obtain ⟨n4, h4'⟩ := gup_none.mp h5
  obtain ⟨nw5, hw'⟩ := gup_none.mp hw
  obtain ⟨nw4, _⟩ := gup_none.mp hw'
  have W6 := ((W3.new (u := .clo 4 [.ref d]) h4).new (u := .clo 5 [.ref d]) h5).new (u := .lst [.ref c4, .ref c5]) hw
  obtain ⟨G6, hG6⟩ : ∃ G6, G6 = gup (gup (gup G3 c4 (.clo 4 [.ref d])) c5 (.clo 5 [.ref d])) pw (.lst [.ref c4, .ref c5]) := ⟨_, rfl⟩
  rw [← hG6] at W6 ⊢
  have e4 : G6 c4 = some (.clo 4 [.ref d]) := by rw [hG6, gup_ne (Ne.symm nw4), gup_ne (Ne.symm n4), gup_same]
  have e5 : G6 c5 = some (.clo 5 [.ref d]) := by rw [hG6, gup_ne (Ne.symm nw5), gup_same]
  have ew : G6 pw = some (.lst [.ref c4, .ref c5]) := by rw [hG6, gup_same]
  clear hG6
  have key : ∀ {Q : DK} {E : XD}, (∀ G', GSub G6 G' → Q (.bl true) G') → e_all02.sp [.ref pw, .tup [.str (if stands1 = true then "Stopped" else "NoPage"), .int 0]] G6 Q E := fun {Q E} q => by
    refine ⟨_, ew, fun f hf G' Q' sub q' => ?_, q⟩
    simp at hf
    rcases hf with rfl | rfl
    · exact told_page99 (E := noX) (by omega) (W6.sub sub).disk (sub _ _ e4) q'
    · exact told_write99 (E := noX) (by omega) (W6.sub sub).disk (sub _ _ e5) q'
  rw [own_stands W6.own]
  cases stands1 with
  | true =>
    simp
    exact key fun G' sub => by
      simp
      exact h _ _ _ _ _ _ (W6.sub sub) g1 (by omega)
  | false =>
    simp
    exact key fun G' sub => by
      simp
      exact h _ _ _ _ _ _ (W6.sub sub) g1 (by omega)
theorem end_ok {Q : DK} {E : XD} {m : Nat} {s fr : D} {x6 x7 x8 : Option D} (m2 : 2 ≤ m ∧ m ≤ 12) (W : Wd G b l d k o pl pages left stands many pages left stands many) (g : ∀ p ∈ pages, GoodPage p) (hm : pages.length = m) (q : ∀ G', Q (.bl true) G') :
    (l02_end G0).den (endsD true G0 Q) E [some s, some (.ref b), some (.int m), some (.ref d), some fr, some (.ref o), x6, x7, x8] G := by
  simp [l02_end, dMeth, W.disk.ins, e_Disk_again, -List.lookup_eq_none_iff]
  refine ⟨nomem _ _ _ _ _ (by decide) (by decide) (by decide) (by decide), k, pages, left, stands, many, W.disk, fun G1 f1 D1 => ?_⟩
  have W1 := W.setDisk (frm_one f1) D1
  simp [dLcC, dLcK, dRng1, rngI]
  refine ⟨by omega, fun p hp => ?_⟩
  have W2 := W1.keep (g := G0)
  have hp2 := keepC_none (g0 := G0) hp
  obtain ⟨G2, hG2⟩ : ∃ G2, G2 = keepC G0 G1 := ⟨_, rfl⟩
  rw [← hG2] at W2 hp2 ⊢
  clear hG2
  obtain ⟨f, hf⟩ : ∃ f : D → D, f = fun d => match d with
    | .int i => (pages[i.toNat]?).getD .non
    | _ => .non := ⟨_, rfl⟩
  have hmap : ((rngD 0 m).filter fun _ => true).map f = pages := by
    rw [List.filter_eq_self.mpr fun _ _ => rfl]
    apply List.ext_getElem?
    intro i
    simp [rngD, hf, ← hm]
    by_cases hi : i < pages.length
    · simp [hi]
    · simp [hi]
  refine comp_pure (P := fun _ => true) (f := f) (acc := []) (by simp [rngD_len]; omega) (fun _ _ => trivial) (fun x hx => ?_) p hp2 ?_
  · obtain ⟨i, hi, rfl⟩ : ∃ i : Nat, i < m ∧ x = .int i := by
      simp [rngD] at hx
      obtain ⟨i, h1, h2⟩ := hx
      exact ⟨i, h1, h2.symm⟩
    refine ⟨_, rfl, fun G3 s3 => ⟨fun QT q => q, fun _ QE q => ?_⟩⟩
    have W3 := W2.sub s3
    obtain ⟨pg, hpg⟩ : ∃ pg, pages[i]? = some pg := ⟨_, List.getElem?_eq_getElem (by omega)⟩
    have hnum : isNumB (.int i) 0 ((pages.length : Int) - 1) = true := by simp [isNumB]; omega
    simp [dMeth, W3.disk.ins, e_Disk_page, -List.lookup_eq_none_iff]
    refine ⟨nomem _ _ _ _ _ (by decide) (by decide) (by decide) (by decide), k, pages, none, false, many, W3.disk, rfl, ?_⟩
    simp only [hnum, if_true, Bool.false_eq_true, if_false]
    intro n' x e1 e2
    cases e1
    rw [hf] at q
    simpa [e2] using q
  · rw [hmap]
    have W3 := W2.new (u := .lst pages) hp2
    simp only [List.nil_append]
    rw [own_pages W3.own]
    refine ⟨.inr (.inr (.inr (.inr ⟨_, _, .inr ⟨_, _, rfl, rfl, gup_same, W3.pgs⟩, ⟨rfl, by omega⟩, fun j x y e1 e2 => ?_⟩))), q _⟩
    rw [e1] at e2
    cases e2
    exact (g _ (List.mem_of_getElem? e1)).like
theorem k02 (ls : Nat → LamD) : Keeps n02 1 true (il02 ls) sp02 := by
  intro ds G Q E hl h
  unfold sp02 at h
  split at h
  · rename_i s
    obtain ⟨ns, hs, hn, q⟩ := h
    simp [il02, startD, n02]
    refine ⟨rfl, ns, hs, hn, fun G1 b l f1 gb gl B1 => ?_⟩
    refine take_step B1 (by decide) (by decide) fun G2 r f2 B2 r0 r1 => ?_
    simp [opAdd, dMake, e_Disk]
    intro d hd
    have hnum : isNumB (.int (2 + r)) 2 12 = true := by simp [isNumB]; omega
    have B3 : BoxAt (gup G2 d (.ins "Disk" [])) b l := B2.sub (gsub_gup (GSub.refl G2) hd)
    have ndb : d ∉ [b, l] := by
      obtain ⟨ns, st, h1, h2, _⟩ := B2
      simp only [List.mem_cons, List.not_mem_nil, or_false, not_or]
      exact ⟨fun z => (by rw [z, h1] at hd; cases hd), fun z => (by rw [z, h2] at hd; cases hd)⟩
    refine ⟨⟨gup_same, rfl⟩, ?_⟩
    simp only [hnum]
    intro n e G4 k hk f4 D4
    cases e
    have nkb : k ∉ [b, l] := by
      obtain ⟨ns, st, h1, h2, _⟩ := B3
      simp only [List.mem_cons, List.not_mem_nil, or_false, not_or]
      exact ⟨fun z => (by rw [z, h1] at hk; cases hk), fun z => (by rw [z, h2] at hk; cases hk)⟩
    have nkd : k ≠ d := fun z => by rw [z, gup_same] at hk; cases hk
    simp only [List.mem_cons, List.not_mem_nil, or_false, not_or] at ndb nkb
    have B4 : BoxAt G4 b l := B3.frm f4 (by simp [Ne.symm ndb.1]) (by simp [Ne.symm ndb.2])
    obtain ⟨m, hm⟩ : ∃ m : Nat, 2 + r = m := ⟨(2 + r).toNat, by omega⟩
    rw [hm] at D4 hnum ⊢
    simp only [Int.toNat_natCast] at D4
    have m2 : 2 ≤ m ∧ m ≤ 12 := by omega
    simp [gNc, opMul]
    simp only [← fresh.eq_1]
    have D5 : DiskAt (keepC G G4) d k (List.replicate m fresh) none false 0 := ⟨keepC_of D4.at_ (fun _ _ z => by cases z), keepC_of D4.kept (fun _ _ z => by cases z), D4.ne⟩
    have B5 : BoxAt (keepC G G4) b l := by
      obtain ⟨ns, st, h1, h2, h3⟩ := B4
      exact ⟨ns, st, keepC_of h1 (fun _ _ z => by cases z), keepC_of h2 (fun _ _ z => by cases z), h3⟩
    obtain ⟨G5, hG5⟩ : ∃ G5, G5 = keepC G G4 := ⟨_, rfl⟩
    rw [← hG5] at D5 B5 ⊢
    clear hG5
    simp [dDisp, dNew]
    intro o ho p hp
    simp only [opMul, lstOf, gup_same]
    refine ⟨⟨by omega, by omega, by rw [sizeLine_eq]; simp; omega⟩, fun pl hpl => ?_⟩
    have ef : (List.replicate (Int.toNat (m : Int)) [fresh]).flatten = List.replicate m fresh := by simp
    rw [ef]
    have hpo : o ≠ p := fun z => by rw [← z, gup_same] at hp; cases hp
    obtain ⟨nplp, hpl1⟩ := gup_none.mp hpl
    obtain ⟨nplo, hpl2⟩ := gup_none.mp hpl1
    obtain ⟨npo, hp1⟩ := gup_none.mp hp
    refine ⟨by rw [gup_ne (Ne.symm nplo), gup_ne hpo, gup_same], ?_⟩
    have eo : putAll [] ["pages", "left", "stands", "many"] [.ref pl, .non, .bl false, .int 0] = ownL pl (optD none) (.bl false) (.int 0) := by simp [putAll, putDk, ownL, optD]
    rw [eo]
    obtain ⟨ns', st', b1, b2, b3⟩ := B5
    have d1 := D5.at_
    have d2 := D5.kept
    have nn : ∀ {x u}, G5 x = some u → x ≠ o ∧ x ≠ pl ∧ x ≠ p := fun {x u} e => ⟨fun z => (by rw [z, ho] at e; cases e), fun z => (by rw [z, hpl2] at e; cases e), fun z => (by rw [z, hp1] at e; cases e)⟩
    have W : Wd (gup (gup (gup (gup G5 o (.dK [])) p (.lst [fresh])) pl (.lst (List.replicate m fresh))) o (.dK (ownL pl (optD none) (.bl false) (.int 0)))) b l d k o pl (List.replicate m fresh) none false 0 (List.replicate m fresh) none false 0 := by
      have st : ∀ {x u}, G5 x = some u → gup (gup (gup (gup G5 o (.dK [])) p (.lst [fresh])) pl (.lst (List.replicate m fresh))) o (.dK (ownL pl (optD none) (.bl false) (.int 0))) x = some u := fun {x u} e => by
        obtain ⟨z1, z2, z3⟩ := nn e
        rw [gup_ne z1, gup_ne z2, gup_ne z3, gup_ne z1]
        exact e
      refine ⟨⟨ns', st', st b1, st b2, b3⟩, ⟨st d1, st d2, D5.ne⟩, gup_same, by rw [gup_ne nplo, gup_same], ?_⟩
      obtain ⟨x1, x2, x3⟩ := nn b1
      obtain ⟨y1, y2, y3⟩ := nn b2
      obtain ⟨z1, z2, z3⟩ := nn d1
      obtain ⟨w1, w2, w3⟩ := nn d2
      simp [b3, x1, x2, y1, y2, z1, z2, w1, w2, Ne.symm ndb.1, Ne.symm ndb.2, Ne.symm nkb.1, Ne.symm nkb.2, D5.ne, Ne.symm nplo]
    obtain ⟨G6, hG6⟩ : ∃ G6, G6 = gup (gup (gup (gup G5 o (.dK [])) p (.lst [fresh])) pl (.lst (List.replicate m fresh))) o (.dK (ownL pl (optD none) (.bl false) (.int 0))) := ⟨_, rfl⟩
    rw [← hG6] at W ⊢
    clear hG6
    have gf : ∀ p ∈ List.replicate m fresh, GoodPage p := fun p hp => by
      obtain ⟨_, rfl⟩ := List.mem_replicate.mp hp
      refine good_page rfl (fun s hs => ?_) rfl fun c hc => ?_
      · simp at hs
        subst hs
        exact gs_free (by decide) (by decide)
      · simp at hc
        exact ⟨0, hc, by decide, by decide⟩
    simp [dRng1, dNew]
    intro q1 hq1
    have W7 := W.new (u := .lst [.int 41, .int 121]) hq1
    refine W7.take (by decide) (by decide) fun G8 r8 f8 W8 r80 r81 => ?_
    have p8 : G8 q1 = some (.lst [.int 41, .int 121]) := f8 _ _ (W.ne_b hq1) gup_same
    rw [opIx_l p8]
    obtain ⟨c, hc, c0, c1⟩ : ∃ c : Int, atI [D.int 41, D.int 121] r8 = some (.int c) ∧ 0 < c ∧ c ≤ 121 := by
      have : r8 = 0 ∨ r8 = 1 := by omega
      rcases this with rfl | rfl
      · exact ⟨41, by simp [atI, ixN], by decide, by decide⟩
      · exact ⟨121, by simp [atI, ixN], by decide, by decide⟩
    refine ⟨_, hc, ?_⟩
    refine W8.take c0 (by omega) fun G9 t f9 W9 t0 t1 => ?_
    simp [rngI]
    refine ⟨by omega, ?_⟩
    refine for_ind (fun rest ρ G' => ∃ pages left stands many x6 x7, ρ = [some (.ref s), some (.ref b), some (.int m), some (.ref d), some fresh, some (.ref o), x6, x7, none] ∧ Wd G' b l d k o pl pages left stands many pages left stands many ∧ (∀ p ∈ pages, GoodPage p) ∧ pages.length = m) ?_ ?_ _ _ _ ⟨_, _, _, _, none, none, rfl, W9, gf, by simp⟩
    · rintro ρ G' ⟨pages, left, stands, many, x6, x7, rfl, W', g', e'⟩
      exact ⟨trivial, end_ok m2 W' g' e' q⟩
    · rintro x rest ρ G' ⟨pages, left, stands, many, x6, x7, rfl, W', g', e'⟩
      refine ⟨trivial, fun N hN => ?_⟩
      simp
      exact body_ok m2 W' g' e' fun G2 pages' left' stands' many' x7' W2 g2 e2 => hN _ _ ⟨_, _, _, _, _, _, rfl, W2, g2, e2⟩
  · exact h.elim
end
end GL
set_option Elab.async false
set_option linter.all false
set_option maxRecDepth 100000
set_option maxHeartbeats 0
/-! the head of row k02: printed by genh.py -/
namespace Row_k02
open PySem PySem.Spec PyProof.Rows L2 GL
abbrev R : PySem.W.OpenRow := PySem.W.OpenLaw.row PySem.Challenge.rw_slotpages_k02_disks
def top (i : Nat) : Stmt := PySem.Challenge.pw_slotpages_k02_disks.main.body.getD i (.Pass ⟨0, 0, 0, 0⟩)
def clsBody : Stmt → List Stmt
  | .ClassDef _ _ _ b _ _ _ _ _ _ _ => b
  | _ => []
def mth (i j : Nat) : Stmt := (clsBody (top i)).getD j (.Pass ⟨0, 0, 0, 0⟩)
abbrev qv : Program := PySem.W.view R.prog [38]
abbrev s_is_number : Stmt := top 22
def d_is_number : He.DefD := ⟨("is_number", none), "is_number", "is_number", defArgs s_is_number, defBody s_is_number, defScope s_is_number, [], []⟩
abbrev s_is_place : Stmt := top 23
def d_is_place : He.DefD := ⟨("is_place", none), "is_place", "is_place", defArgs s_is_place, defBody s_is_place, defScope s_is_place, [], []⟩
abbrev s_is_slot : Stmt := top 24
def d_is_slot : He.DefD := ⟨("is_slot", none), "is_slot", "is_slot", defArgs s_is_slot, defBody s_is_slot, defScope s_is_slot, [], []⟩
abbrev s_are_cells : Stmt := top 25
def d_are_cells : He.DefD := ⟨("are_cells", none), "are_cells", "are_cells", defArgs s_are_cells, defBody s_are_cells, defScope s_are_cells, [], []⟩
abbrev s_is_page : Stmt := top 26
def d_is_page : He.DefD := ⟨("is_page", none), "is_page", "is_page", defArgs s_is_page, defBody s_is_page, defScope s_is_page, [], []⟩
abbrev s__law_begun : Stmt := top 31
def d__law_begun : He.DefD := ⟨("_law_begun", none), "_law_begun", "_law_begun", defArgs s__law_begun, defBody s__law_begun, defScope s__law_begun, [], []⟩
abbrev s__law_take : Stmt := top 32
def d__law_take : He.DefD := ⟨("_law_take", none), "_law_take", "_law_take", defArgs s__law_take, defBody s__law_take, defScope s__law_take, [], []⟩
abbrev s__law_alike : Stmt := top 33
def d__law_alike : He.DefD := ⟨("_law_alike", none), "_law_alike", "_law_alike", defArgs s__law_alike, defBody s__law_alike, defScope s__law_alike, [], []⟩
abbrev s__law_told : Stmt := top 34
def d__law_told : He.DefD := ⟨("_law_told", none), "_law_told", "_law_told", defArgs s__law_told, defBody s__law_told, defScope s__law_told, [], []⟩
abbrev s__law_all : Stmt := top 35
def d__law_all : He.DefD := ⟨("_law_all", none), "_law_all", "_law_all", defArgs s__law_all, defBody s__law_all, defScope s__law_all, [], []⟩
abbrev s__law_page : Stmt := top 36
def d__law_page : He.DefD := ⟨("_law_page", none), "_law_page", "_law_page", defArgs s__law_page, defBody s__law_page, defScope s__law_page, [], []⟩
abbrev s__law_turn : Stmt := top 37
def d__law_turn : He.DefD := ⟨("_law_turn", none), "_law_turn", "_law_turn", defArgs s__law_turn, defBody s__law_turn, defScope s__law_turn, [], []⟩
abbrev s_law : Stmt := top 38
def d_law : He.DefD := ⟨("law", none), "law", "law", defArgs s_law, defBody s_law, defScope s_law, [], []⟩
abbrev s_Disk___init__ : Stmt := mth 29 0
def d_Disk___init__ : He.DefD := ⟨("Disk", some "__init__"), "__init__", "Disk.__init__", defArgs s_Disk___init__, defBody s_Disk___init__, defScope s_Disk___init__, [], []⟩
abbrev s_Disk_need : Stmt := mth 29 1
def d_Disk_need : He.DefD := ⟨("Disk", some "need"), "need", "Disk.need", defArgs s_Disk_need, defBody s_Disk_need, defScope s_Disk_need, [], []⟩
abbrev s_Disk_pages : Stmt := mth 29 2
def d_Disk_pages : He.DefD := ⟨("Disk", some "pages"), "pages", "Disk.pages", defArgs s_Disk_pages, defBody s_Disk_pages, defScope s_Disk_pages, [], []⟩
abbrev s_Disk_page : Stmt := mth 29 3
def d_Disk_page : He.DefD := ⟨("Disk", some "page"), "page", "Disk.page", defArgs s_Disk_page, defBody s_Disk_page, defScope s_Disk_page, [], []⟩
abbrev s_Disk_write : Stmt := mth 29 4
def d_Disk_write : He.DefD := ⟨("Disk", some "write"), "write", "Disk.write", defArgs s_Disk_write, defBody s_Disk_write, defScope s_Disk_write, [], []⟩
abbrev s_Disk_arm : Stmt := mth 29 5
def d_Disk_arm : He.DefD := ⟨("Disk", some "arm"), "arm", "Disk.arm", defArgs s_Disk_arm, defBody s_Disk_arm, defScope s_Disk_arm, [], []⟩
abbrev s_Disk_again : Stmt := mth 29 6
def d_Disk_again : He.DefD := ⟨("Disk", some "again"), "again", "Disk.again", defArgs s_Disk_again, defBody s_Disk_again, defScope s_Disk_again, [], []⟩
abbrev s_Disk_writes : Stmt := mth 29 7
def d_Disk_writes : He.DefD := ⟨("Disk", some "writes"), "writes", "Disk.writes", defArgs s_Disk_writes, defBody s_Disk_writes, defScope s_Disk_writes, [], []⟩
def names0 : List Str := ["PageError", "BadDisk", "NoPage", "BadPage", "BadCount", "Stopped", "BadRow", "NoRow", "Full", "BadText", "SLOTS", "CELLS", "MOST_VALUE", "MOST_TURN", "MOST_PAGES", "LEAST_PAGES", "FREE", "ROW", "PART", "FRESH"]
def names1 : List Str := ["is_number", "is_place", "is_slot", "are_cells", "is_page", "MOST_COUNT", "Disk", "_law_begun", "_law_take", "_law_alike", "_law_told", "_law_all", "_law_page", "_law_turn"]
def names : List Str := names0 ++ names1
def fn : List He.DefD := [d_is_number, d_is_place, d_is_slot, d_are_cells, d_is_page, d__law_begun, d__law_take, d__law_alike, d__law_told, d__law_all, d__law_page, d__law_turn, d_law, d_Disk___init__, d_Disk_need, d_Disk_pages, d_Disk_page, d_Disk_write, d_Disk_arm, d_Disk_again, d_Disk_writes]
def fa0 : List He.Fa := [.glo "is_number", .glo "is_place", .glo "is_slot", .glo "are_cells", .glo "is_page", .glo "_law_begun", .glo "_law_take", .glo "_law_alike", .glo "_law_told", .glo "_law_all", .glo "_law_page", .glo "_law_turn", .glo "law", .glo "Disk", .cls "Disk"]
def fa1 : List He.Fa := [.mkr "Disk", .meth "Disk" "need", .meth "Disk" "pages", .meth "Disk" "page", .meth "Disk" "write", .meth "Disk" "arm", .meth "Disk" "again", .meth "Disk" "writes", .noat "Disk" "kept", .noat "Disk" "left", .noat "Disk" "stands", .noat "Disk" "many", .glo "PageError", .glo "BadDisk", .glo "NoPage"]
def fa2 : List He.Fa := [.glo "BadPage", .glo "BadCount", .glo "Stopped", .glo "BadRow", .glo "NoRow", .glo "Full", .glo "BadText", .exc "BadDisk", .exc "NoPage", .exc "BadPage", .exc "BadCount", .exc "Stopped", .exc "BadRow", .exc "NoRow", .exc "Full"]
def fa3 : List He.Fa := [.free "ValueError", .free "bool", .free "int", .free "isinstance", .free "len", .free "list", .free "max", .free "min", .free "range", .free "str", .free "tuple"]
def fa : List He.Fa := fa0 ++ fa1 ++ fa2 ++ fa3
def gls : List (Str × D) := [("SLOTS", (.int 8)), ("CELLS", (.int 24)), ("MOST_VALUE", (.int 99)), ("MOST_TURN", (.int 99)), ("MOST_PAGES", (.int 12)), ("LEAST_PAGES", (.int 2)), ("FREE", (.str "free")), ("ROW", (.str "row")), ("PART", (.str "part")), ("FRESH", (.tup [(.tup [(.tup [(.str "free"), (.int 0)]), (.tup [(.str "free"), (.int 0)]), (.tup [(.str "free"), (.int 0)]), (.tup [(.str "free"), (.int 0)]), (.tup [(.str "free"), (.int 0)]), (.tup [(.str "free"), (.int 0)]), (.tup [(.str "free"), (.int 0)]), (.tup [(.str "free"), (.int 0)])]), (.tup [(.int 0), (.int 0), (.int 0), (.int 0), (.int 0), (.int 0), (.int 0), (.int 0), (.int 0), (.int 0), (.int 0), (.int 0), (.int 0), (.int 0), (.int 0), (.int 0), (.int 0), (.int 0), (.int 0), (.int 0), (.int 0), (.int 0), (.int 0), (.int 0)])])), ("MOST_COUNT", (.int 1000000))]
def tf : List He.Defn := [("_law_turn", none), ("law", none)]
def ex (K : PySem.W.Frag) : Bool := (gls.all fun p => glB K p.1 p.2) && (noLst K && (errsB K && decide ((tf.map fun p => (He.cT K p).2).Nodup)))
abbrev hk : PySem.W.Hook := He.hookX 5 fa fn [] tf ex
def ob (s : PySem.W.SharedT) : He.AlX := He.obsX 5 fa fn [] tf ex (HandSHeadRun.getT s)
theorem ob_eq (s : PySem.W.SharedT) : ob s = hk.obs s.abs := He.obsX_eq (HandSHeadRun.getT_eq s)
theorem run (w : World) : HandSHeadRun.RunEq R qv hk ob 6000 names w := by
  intro os
  kernel_rfl
end Row_k02
set_option Elab.async false
set_option linter.all false
set_option maxRecDepth 100000
set_option maxHeartbeats 0
/-! the facts of row k02: printed by rowgen.py -/
namespace Row_k02
open PySem PySem.Spec PyProof.Rows L2 GL
structure Ctx (w : World) (K : PySem.W.Frag) (mg : Str → Option Value) (h : Heap) : Prop where
  X : K.In h
  G : h.Ns mainGlobals mg
  c : He.SaysX fa fn [] tf ex w h K
section
variable {P : Program} {w : World} {K : PySem.W.Frag} {mg : Str → Option Value} {base h : Heap} {Γ : Gm}
theorem Ctx.fre (C : Ctx w K mg h) (i : Nat) {x : Str} (e : fa[i]? = some (.free x)) : BtFact mg x := ⟨He.free_ok C.X C.G (C.c.t.d.fact i e)⟩
theorem Ctx.glo (C : Ctx w K mg h) (i : Nat) {x : Str} (e : fa[i]? = some (.glo x)) : mg x = some (.ref (He.ga K x)) := He.glo_ok C.X C.G (C.c.t.d.fact i e)
theorem Ctx.cl (C : Ctx w K mg h) (i : Nat) {x : Str} (e : fa[i]? = some (.cls x)) : Cls K (He.ga K x) := He.cls_ok (C.c.t.d.fact i e)
theorem Ctx.mt (C : Ctx w K mg h) (i : Nat) {x m : Str} (e : fa[i]? = some (.meth x m)) : Meth K (He.ga K x) m (He.ma K (He.ga K x) m) := He.meth_ok (C.c.t.d.fact i e)
theorem Ctx.mkk (C : Ctx w K mg h) (i : Nat) {x : Str} (e : fa[i]? = some (.mkr x)) : Mk K (He.ga K x) (He.ma K (He.ga K x) "__init__") := He.mkr_ok (C.c.t.d.fact i e)
theorem Ctx.gl (C : Ctx w K mg h) (i : Nat) {x : Str} {d : D} (e : gls[i]? = some (x, d)) : GlFact K mg x d := by
  have := (He.ba (show ((gls.all fun p => glB K p.1 p.2) && (noLst K && (errsB K && decide ((tf.map fun p => (He.cT K p).2).Nodup)))) = true from C.c.more)).1
  exact glB_ok C.X C.G (List.all_eq_true.mp this _ (List.mem_of_getElem? e))
theorem Ctx.fl (C : Ctx w K mg h) (i j k : Nat) {c f : Str} (e1 : fa[i]? = some (.glo c)) (e2 : fa[j]? = some (.cls c)) (e3 : fa[k]? = some (.noat c f)) : FlFact K mg c f := ⟨fun A hA => by
  rw [C.glo i e1] at hA
  cases hA
  exact ⟨C.cl j e2, He.noat_ok (C.c.t.d.fact k e3)⟩⟩
theorem Ctx.exf (C : Ctx w K mg h) (i j : Nat) {x : Str} (e1 : fa[i]? = some (.glo x)) (e2 : fa[j]? = some (.exc x)) : ExFact K mg x := by
  obtain ⟨h1, h2, h3, h4⟩ := He.exc_ok (C.c.t.d.fact j e2)
  exact ⟨_, C.glo i e1, h1, h2, h3, h4⟩
theorem sc_is_number : FnScope n_is_number ["part", "low", "high"] (defScope s_is_number) := ⟨by kernel_rfl, by kernel_rfl, by kernel_rfl, by decide +kernel, rfl, by decide +kernel, by decide +kernel⟩
theorem t_is_number (C : Ctx w K mg h) : FnFact P w K mg base Γ e_is_number := by
  obtain ⟨fd, F⟩ := C.c.t.d.def_ 0 (d := d_is_number) rfl
  have a0 := C.fre 48 (x := "isinstance") (by rfl)
  have a1 := C.fre 47 (x := "int") (by rfl)
  have a2 := C.fre 46 (x := "bool") (by rfl)
  refine mk_glob (C.glo 0 (by rfl)) F.kp (F.bindsN fun _ _ _ _ _ _ us hl => match us, hl with | [_, _, _], _ => rfl) rfl (il_ok (il := il_is_number) (lam := false) (mkl := false) F sc_is_number (fun z => nomatch z) (fun z => nomatch z) (fun g0 => ?_) (fun g0 => ?_) k_is_number)
  · kernel_rfl
  · simp only [il_is_number, Sx.ok, Ex.ok]
    repeat' (first | exact trivial | assumption | refine ⟨?_, ?_⟩ | intro _)
theorem sc_is_place : FnScope n_is_place ["place"] (defScope s_is_place) := ⟨by kernel_rfl, by kernel_rfl, by kernel_rfl, by decide +kernel, rfl, by decide +kernel, by decide +kernel⟩
theorem t_is_place (C : Ctx w K mg h) : FnFact P w K mg base Γ e_is_place := by
  obtain ⟨fd, F⟩ := C.c.t.d.def_ 1 (d := d_is_place) rfl
  have a0 := C.fre 48 (x := "isinstance") (by rfl)
  have a1 := C.fre 49 (x := "len") (by rfl)
  have a2 := C.fre 55 (x := "tuple") (by rfl)
  have a3 := C.gl 4 (x := "MOST_PAGES") (by rfl)
  have a4 := C.gl 0 (x := "SLOTS") (by rfl)
  have a5 := t_is_number (P := P) (w := w) (base := base) (Γ := Γ) C
  refine mk_glob (C.glo 1 (by rfl)) F.kp (F.bindsN fun _ _ _ _ _ _ us hl => match us, hl with | [_], _ => rfl) rfl (il_ok (il := il_is_place) (lam := false) (mkl := false) F sc_is_place (fun z => nomatch z) (fun z => nomatch z) (fun g0 => ?_) (fun g0 => ?_) k_is_place)
  · kernel_rfl
  · simp only [il_is_place, Sx.ok, Ex.ok]
    repeat' (first | exact trivial | assumption | refine ⟨?_, ?_⟩ | intro _)
theorem sc_is_slot : FnScope n_is_slot ["slot"] (defScope s_is_slot) := ⟨by kernel_rfl, by kernel_rfl, by kernel_rfl, by decide +kernel, rfl, by decide +kernel, by decide +kernel⟩
theorem t_is_slot (C : Ctx w K mg h) : FnFact P w K mg base Γ e_is_slot := by
  obtain ⟨fd, F⟩ := C.c.t.d.def_ 2 (d := d_is_slot) rfl
  have a0 := C.fre 48 (x := "isinstance") (by rfl)
  have a1 := C.fre 49 (x := "len") (by rfl)
  have a2 := C.fre 55 (x := "tuple") (by rfl)
  have a3 := C.fre 54 (x := "str") (by rfl)
  have a4 := C.gl 6 (x := "FREE") (by rfl)
  have a5 := C.gl 3 (x := "MOST_TURN") (by rfl)
  have a6 := C.gl 7 (x := "ROW") (by rfl)
  have a7 := C.gl 8 (x := "PART") (by rfl)
  have a8 := C.gl 1 (x := "CELLS") (by rfl)
  have a9 := t_is_number (P := P) (w := w) (base := base) (Γ := Γ) C
  have a10 := t_is_place (P := P) (w := w) (base := base) (Γ := Γ) C
  refine mk_glob (C.glo 2 (by rfl)) F.kp (F.bindsN fun _ _ _ _ _ _ us hl => match us, hl with | [_], _ => rfl) rfl (il_ok (il := il_is_slot) (lam := false) (mkl := false) F sc_is_slot (fun z => nomatch z) (fun z => nomatch z) (fun g0 => ?_) (fun g0 => ?_) k_is_slot)
  · kernel_rfl
  · simp only [il_is_slot, Sx.ok, Ex.ok]
    repeat' (first | exact trivial | assumption | refine ⟨?_, ?_⟩ | intro _)
theorem sc_are_cells : FnScope n_are_cells ["cells"] (defScope s_are_cells) := ⟨by kernel_rfl, by kernel_rfl, by kernel_rfl, by decide +kernel, rfl, by decide +kernel, by decide +kernel⟩
theorem t_are_cells (C : Ctx w K mg h) : FnFact P w K mg base Γ e_are_cells := by
  obtain ⟨fd, F⟩ := C.c.t.d.def_ 3 (d := d_are_cells) rfl
  have a0 := C.fre 48 (x := "isinstance") (by rfl)
  have a1 := C.fre 49 (x := "len") (by rfl)
  have a2 := C.fre 55 (x := "tuple") (by rfl)
  have a3 := C.gl 1 (x := "CELLS") (by rfl)
  have a4 := C.gl 2 (x := "MOST_VALUE") (by rfl)
  have a5 := t_is_number (P := P) (w := w) (base := base) (Γ := Γ) C
  refine mk_glob (C.glo 3 (by rfl)) F.kp (F.bindsN fun _ _ _ _ _ _ us hl => match us, hl with | [_], _ => rfl) rfl (il_ok (il := il_are_cells) (lam := false) (mkl := false) F sc_are_cells (fun z => nomatch z) (fun z => nomatch z) (fun g0 => ?_) (fun g0 => ?_) k_are_cells)
  · kernel_rfl
  · simp only [il_are_cells, Sx.ok, Ex.ok]
    repeat' (first | exact trivial | assumption | refine ⟨?_, ?_⟩ | intro _)
theorem sc_is_page : FnScope n_is_page ["page"] (defScope s_is_page) := ⟨by kernel_rfl, by kernel_rfl, by kernel_rfl, by decide +kernel, rfl, by decide +kernel, by decide +kernel⟩
theorem t_is_page (C : Ctx w K mg h) : FnFact P w K mg base Γ e_is_page := by
  obtain ⟨fd, F⟩ := C.c.t.d.def_ 4 (d := d_is_page) rfl
  have a0 := C.fre 48 (x := "isinstance") (by rfl)
  have a1 := C.fre 49 (x := "len") (by rfl)
  have a2 := C.fre 55 (x := "tuple") (by rfl)
  have a3 := C.gl 0 (x := "SLOTS") (by rfl)
  have a4 := t_are_cells (P := P) (w := w) (base := base) (Γ := Γ) C
  refine mk_glob (C.glo 4 (by rfl)) F.kp (F.bindsN fun _ _ _ _ _ _ us hl => match us, hl with | [_], _ => rfl) rfl (il_ok (il := il_is_page) (lam := false) (mkl := false) F sc_is_page (fun z => nomatch z) (fun z => nomatch z) (fun g0 => ?_) (fun g0 => ?_) k_is_page)
  · kernel_rfl
  · simp only [il_is_page, Sx.ok, Ex.ok]
    repeat' (first | exact trivial | assumption | refine ⟨?_, ?_⟩ | intro _)
theorem sc_Disk___init__ : FnScope n_Disk___init__ ["self", "many"] (defScope s_Disk___init__) := ⟨by kernel_rfl, by kernel_rfl, by kernel_rfl, by decide +kernel, rfl, by decide +kernel, by decide +kernel⟩
theorem t_Disk (C : Ctx w K mg h) : FnFact P w K mg base Γ e_Disk := by
  obtain ⟨fd, F⟩ := C.c.t.d.def_ 13 (d := d_Disk___init__) rfl
  have a0 := C.gl 5 (x := "LEAST_PAGES") (by rfl)
  have a1 := C.gl 4 (x := "MOST_PAGES") (by rfl)
  have a2 := C.gl 9 (x := "FRESH") (by rfl)
  have a3 := C.fl 13 14 23 (c := "Disk") (f := "kept") (by rfl) (by rfl) (by rfl)
  have a4 := C.fl 13 14 24 (c := "Disk") (f := "left") (by rfl) (by rfl) (by rfl)
  have a5 := C.fl 13 14 25 (c := "Disk") (f := "stands") (by rfl) (by rfl) (by rfl)
  have a6 := C.fl 13 14 26 (c := "Disk") (f := "many") (by rfl) (by rfl) (by rfl)
  have a7 := C.exf 28 37 (x := "BadDisk") (by rfl) (by rfl)
  have a8 := t_is_number (P := P) (w := w) (base := base) (Γ := Γ) C
  refine mk_make (C.glo 13 (by rfl)) (C.mkk 15 (by rfl)) (F.bindsN fun _ _ _ _ _ _ us hl => match us, hl with | [_, _], _ => rfl) rfl (il_ok (il := il_Disk___init__) (lam := false) (mkl := false) F sc_Disk___init__ (fun z => nomatch z) (fun z => nomatch z) (fun g0 => ?_) (fun g0 => ?_) k_Disk___init__)
  · kernel_rfl
  · simp only [il_Disk___init__, Sx.ok, Ex.ok]
    repeat' (first | exact trivial | assumption | refine ⟨?_, ?_⟩ | intro _)
theorem sc_Disk_need : FnScope n_Disk_need ["self", "number"] (defScope s_Disk_need) := ⟨by kernel_rfl, by kernel_rfl, by kernel_rfl, by decide +kernel, rfl, by decide +kernel, by decide +kernel⟩
theorem t_Disk_need (C : Ctx w K mg h) : FnFact P w K mg base Γ e_Disk_need := by
  obtain ⟨fd, F⟩ := C.c.t.d.def_ 14 (d := d_Disk_need) rfl
  have a0 := C.fre 49 (x := "len") (by rfl)
  have a1 := C.fl 13 14 25 (c := "Disk") (f := "stands") (by rfl) (by rfl) (by rfl)
  have a2 := C.fl 13 14 23 (c := "Disk") (f := "kept") (by rfl) (by rfl) (by rfl)
  have a3 := C.exf 32 41 (x := "Stopped") (by rfl) (by rfl)
  have a4 := C.exf 29 38 (x := "NoPage") (by rfl) (by rfl)
  have a5 := t_is_number (P := P) (w := w) (base := base) (Γ := Γ) C
  refine mk_meth (C.glo 13 (by rfl)) (C.cl 14 (by rfl)) (C.mt 16 (by rfl)) (F.bindsN fun _ _ _ _ _ _ us hl => match us, hl with | [_, _], _ => rfl) rfl (il_ok (il := il_Disk_need) (lam := false) (mkl := false) F sc_Disk_need (fun z => nomatch z) (fun z => nomatch z) (fun g0 => ?_) (fun g0 => ?_) k_Disk_need)
  · kernel_rfl
  · simp only [il_Disk_need, Sx.ok, Ex.ok]
    repeat' (first | exact trivial | assumption | refine ⟨?_, ?_⟩ | intro _)
theorem sc_Disk_pages : FnScope n_Disk_pages ["self"] (defScope s_Disk_pages) := ⟨by kernel_rfl, by kernel_rfl, by kernel_rfl, by decide +kernel, rfl, by decide +kernel, by decide +kernel⟩
theorem t_Disk_pages (C : Ctx w K mg h) : FnFact P w K mg base Γ e_Disk_pages := by
  obtain ⟨fd, F⟩ := C.c.t.d.def_ 15 (d := d_Disk_pages) rfl
  have a0 := C.fre 49 (x := "len") (by rfl)
  have a1 := C.fl 13 14 23 (c := "Disk") (f := "kept") (by rfl) (by rfl) (by rfl)
  refine mk_meth (C.glo 13 (by rfl)) (C.cl 14 (by rfl)) (C.mt 17 (by rfl)) (F.bindsN fun _ _ _ _ _ _ us hl => match us, hl with | [_], _ => rfl) rfl (il_ok (il := il_Disk_pages) (lam := false) (mkl := false) F sc_Disk_pages (fun z => nomatch z) (fun z => nomatch z) (fun g0 => ?_) (fun g0 => ?_) k_Disk_pages)
  · kernel_rfl
  · simp only [il_Disk_pages, Sx.ok, Ex.ok]
    repeat' (first | exact trivial | assumption | refine ⟨?_, ?_⟩ | intro _)
theorem sc_Disk_page : FnScope n_Disk_page ["self", "number"] (defScope s_Disk_page) := ⟨by kernel_rfl, by kernel_rfl, by kernel_rfl, by decide +kernel, rfl, by decide +kernel, by decide +kernel⟩
theorem t_Disk_page (C : Ctx w K mg h) : FnFact P w K mg base Γ e_Disk_page := by
  obtain ⟨fd, F⟩ := C.c.t.d.def_ 16 (d := d_Disk_page) rfl
  have a0 := C.fl 13 14 23 (c := "Disk") (f := "kept") (by rfl) (by rfl) (by rfl)
  have a1 := t_Disk_need (P := P) (w := w) (base := base) (Γ := Γ) C
  refine mk_meth (C.glo 13 (by rfl)) (C.cl 14 (by rfl)) (C.mt 18 (by rfl)) (F.bindsN fun _ _ _ _ _ _ us hl => match us, hl with | [_, _], _ => rfl) rfl (il_ok (il := il_Disk_page) (lam := false) (mkl := false) F sc_Disk_page (fun z => nomatch z) (fun z => nomatch z) (fun g0 => ?_) (fun g0 => ?_) k_Disk_page)
  · kernel_rfl
  · simp only [il_Disk_page, Sx.ok, Ex.ok]
    repeat' (first | exact trivial | assumption | refine ⟨?_, ?_⟩ | intro _)
theorem sc_Disk_write : FnScope n_Disk_write ["self", "number", "page"] (defScope s_Disk_write) := ⟨by kernel_rfl, by kernel_rfl, by kernel_rfl, by decide +kernel, rfl, by decide +kernel, by decide +kernel⟩
theorem t_Disk_write (C : Ctx w K mg h) : FnFact P w K mg base Γ e_Disk_write := by
  obtain ⟨fd, F⟩ := C.c.t.d.def_ 17 (d := d_Disk_write) rfl
  have a0 := C.fl 13 14 24 (c := "Disk") (f := "left") (by rfl) (by rfl) (by rfl)
  have a1 := C.fl 13 14 25 (c := "Disk") (f := "stands") (by rfl) (by rfl) (by rfl)
  have a2 := C.fl 13 14 23 (c := "Disk") (f := "kept") (by rfl) (by rfl) (by rfl)
  have a3 := C.fl 13 14 26 (c := "Disk") (f := "many") (by rfl) (by rfl) (by rfl)
  have a4 := C.exf 30 39 (x := "BadPage") (by rfl) (by rfl)
  have a5 := C.exf 32 41 (x := "Stopped") (by rfl) (by rfl)
  have a6 := t_Disk_need (P := P) (w := w) (base := base) (Γ := Γ) C
  have a7 := t_is_page (P := P) (w := w) (base := base) (Γ := Γ) C
  have a8 := t_is_slot (P := P) (w := w) (base := base) (Γ := Γ) C
  refine mk_meth (C.glo 13 (by rfl)) (C.cl 14 (by rfl)) (C.mt 19 (by rfl)) (F.bindsN fun _ _ _ _ _ _ us hl => match us, hl with | [_, _, _], _ => rfl) rfl (il_ok (il := il_Disk_write) (lam := false) (mkl := false) F sc_Disk_write (fun z => nomatch z) (fun z => nomatch z) (fun g0 => ?_) (fun g0 => ?_) k_Disk_write)
  · kernel_rfl
  · simp only [il_Disk_write, Sx.ok, Ex.ok]
    repeat' (first | exact trivial | assumption | refine ⟨?_, ?_⟩ | intro _)
theorem sc_Disk_arm : FnScope n_Disk_arm ["self", "count"] (defScope s_Disk_arm) := ⟨by kernel_rfl, by kernel_rfl, by kernel_rfl, by decide +kernel, rfl, by decide +kernel, by decide +kernel⟩
theorem t_Disk_arm (C : Ctx w K mg h) : FnFact P w K mg base Γ e_Disk_arm := by
  obtain ⟨fd, F⟩ := C.c.t.d.def_ 18 (d := d_Disk_arm) rfl
  have a0 := C.gl 10 (x := "MOST_COUNT") (by rfl)
  have a1 := C.fl 13 14 24 (c := "Disk") (f := "left") (by rfl) (by rfl) (by rfl)
  have a2 := C.exf 31 40 (x := "BadCount") (by rfl) (by rfl)
  have a3 := t_is_number (P := P) (w := w) (base := base) (Γ := Γ) C
  refine mk_meth (C.glo 13 (by rfl)) (C.cl 14 (by rfl)) (C.mt 20 (by rfl)) (F.bindsN fun _ _ _ _ _ _ us hl => match us, hl with | [_, _], _ => rfl) rfl (il_ok (il := il_Disk_arm) (lam := false) (mkl := false) F sc_Disk_arm (fun z => nomatch z) (fun z => nomatch z) (fun g0 => ?_) (fun g0 => ?_) k_Disk_arm)
  · kernel_rfl
  · simp only [il_Disk_arm, Sx.ok, Ex.ok]
    repeat' (first | exact trivial | assumption | refine ⟨?_, ?_⟩ | intro _)
theorem sc_Disk_again : FnScope n_Disk_again ["self"] (defScope s_Disk_again) := ⟨by kernel_rfl, by kernel_rfl, by kernel_rfl, by decide +kernel, rfl, by decide +kernel, by decide +kernel⟩
theorem t_Disk_again (C : Ctx w K mg h) : FnFact P w K mg base Γ e_Disk_again := by
  obtain ⟨fd, F⟩ := C.c.t.d.def_ 19 (d := d_Disk_again) rfl
  have a0 := C.fl 13 14 25 (c := "Disk") (f := "stands") (by rfl) (by rfl) (by rfl)
  have a1 := C.fl 13 14 24 (c := "Disk") (f := "left") (by rfl) (by rfl) (by rfl)
  refine mk_meth (C.glo 13 (by rfl)) (C.cl 14 (by rfl)) (C.mt 21 (by rfl)) (F.bindsN fun _ _ _ _ _ _ us hl => match us, hl with | [_], _ => rfl) rfl (il_ok (il := il_Disk_again) (lam := false) (mkl := false) F sc_Disk_again (fun z => nomatch z) (fun z => nomatch z) (fun g0 => ?_) (fun g0 => ?_) k_Disk_again)
  · kernel_rfl
  · simp only [il_Disk_again, Sx.ok, Ex.ok]
    repeat' (first | exact trivial | assumption | refine ⟨?_, ?_⟩ | intro _)
theorem sc_Disk_writes : FnScope n_Disk_writes ["self"] (defScope s_Disk_writes) := ⟨by kernel_rfl, by kernel_rfl, by kernel_rfl, by decide +kernel, rfl, by decide +kernel, by decide +kernel⟩
theorem t_Disk_writes (C : Ctx w K mg h) : FnFact P w K mg base Γ e_Disk_writes := by
  obtain ⟨fd, F⟩ := C.c.t.d.def_ 20 (d := d_Disk_writes) rfl
  have a0 := C.fl 13 14 26 (c := "Disk") (f := "many") (by rfl) (by rfl) (by rfl)
  refine mk_meth (C.glo 13 (by rfl)) (C.cl 14 (by rfl)) (C.mt 22 (by rfl)) (F.bindsN fun _ _ _ _ _ _ us hl => match us, hl with | [_], _ => rfl) rfl (il_ok (il := il_Disk_writes) (lam := false) (mkl := false) F sc_Disk_writes (fun z => nomatch z) (fun z => nomatch z) (fun g0 => ?_) (fun g0 => ?_) k_Disk_writes)
  · kernel_rfl
  · simp only [il_Disk_writes, Sx.ok, Ex.ok]
    repeat' (first | exact trivial | assumption | refine ⟨?_, ?_⟩ | intro _)
theorem sc__law_begun : FnScope n__law_begun ["_law_script"] (defScope s__law_begun) := ⟨by kernel_rfl, by kernel_rfl, by kernel_rfl, by decide +kernel, rfl, by decide +kernel, by decide +kernel⟩
theorem t__law_begun (C : Ctx w K mg h) : FnFact P w K mg base Γ e__law_begun := by
  obtain ⟨fd, F⟩ := C.c.t.d.def_ 5 (d := d__law_begun) rfl
  have a0 := C.fre 50 (x := "list") (by rfl)
  have a1 := C.fre 47 (x := "int") (by rfl)
  have a2 := C.fre 49 (x := "len") (by rfl)
  refine mk_glob (C.glo 5 (by rfl)) F.kp (F.bindsN fun _ _ _ _ _ _ us hl => match us, hl with | [_], _ => rfl) rfl (il_ok (il := il__law_begun) (lam := false) (mkl := false) F sc__law_begun (fun z => nomatch z) (fun z => nomatch z) (fun g0 => ?_) (fun g0 => ?_) k__law_begun)
  · kernel_rfl
  · simp only [il__law_begun, Sx.ok, Ex.ok]
    repeat' (first | exact trivial | assumption | refine ⟨?_, ?_⟩ | intro _)
theorem sc__law_take : FnScope n__law_take ["_law_box", "_law_many"] (defScope s__law_take) := ⟨by kernel_rfl, by kernel_rfl, by kernel_rfl, by decide +kernel, rfl, by decide +kernel, by decide +kernel⟩
theorem t__law_take (C : Ctx w K mg h) : FnFact P w K mg base Γ e__law_take := by
  obtain ⟨fd, F⟩ := C.c.t.d.def_ 6 (d := d__law_take) rfl

  refine mk_glob (C.glo 6 (by rfl)) F.kp (F.bindsN fun _ _ _ _ _ _ us hl => match us, hl with | [_, _], _ => rfl) rfl (il_ok (il := il__law_take) (lam := false) (mkl := false) F sc__law_take (fun z => nomatch z) (fun z => nomatch z) (fun g0 => ?_) (fun g0 => ?_) k__law_take)
  · kernel_rfl
  · simp only [il__law_take, Sx.ok, Ex.ok]
    repeat' (first | exact trivial | assumption | refine ⟨?_, ?_⟩ | intro _)
theorem sc__law_page : FnScope n__law_page ["_law_box"] (defScope s__law_page) := ⟨by kernel_rfl, by kernel_rfl, by kernel_rfl, by decide +kernel, rfl, by decide +kernel, by decide +kernel⟩
theorem t__law_page (C : Ctx w K mg h) : FnFact P w K mg base Γ e__law_page := by
  obtain ⟨fd, F⟩ := C.c.t.d.def_ 10 (d := d__law_page) rfl
  have a0 := C.fre 55 (x := "tuple") (by rfl)
  have a1 := C.fre 52 (x := "min") (by rfl)
  have a2 := C.fre 51 (x := "max") (by rfl)
  have a3 := C.fre 53 (x := "range") (by rfl)
  have a4 := t__law_take (P := P) (w := w) (base := base) (Γ := Γ) C
  refine mk_glob (C.glo 10 (by rfl)) F.kp (F.bindsN fun _ _ _ _ _ _ us hl => match us, hl with | [_], _ => rfl) rfl (il_ok (il := il__law_page) (lam := false) (mkl := false) F sc__law_page (fun z => nomatch z) (fun z => nomatch z) (fun g0 => ?_) (fun g0 => ?_) k__law_page)
  · kernel_rfl
  · simp only [il__law_page, il_page_turn, Sx.ok, Ex.ok]
    repeat' (first | exact trivial | assumption | refine ⟨?_, ?_⟩ | intro _)
theorem no_alike0 (ds : List D) (G : GS) (Q : DK) (E : XD) (h : sp__law_alike 0 ds G Q E) : False := by
  unfold sp__law_alike at h
  split at h
  · exact h.1
  · exact h
theorem sc__law_alike : FnScope n__law_alike ["_law_found", "_law_due"] (defScope s__law_alike) := ⟨by kernel_rfl, by kernel_rfl, by kernel_rfl, by decide +kernel, rfl, by decide +kernel, by decide +kernel⟩
theorem t_alike0 (C : Ctx w K mg h) : FnFact P w K mg base Γ (e__law_alike 0) := by
  obtain ⟨fd, F⟩ := C.c.t.d.def_ 7 (d := d__law_alike) rfl
  exact mk_glob (C.glo 7 (by rfl)) F.kp (F.bindsN (ps := ["_law_found", "_law_due"]) fun _ _ _ _ _ _ us hl => match us, hl with | [_, _], _ => rfl) rfl ⟨fun vs H Q E ⟨ds, _, _, _, _, _, _, q, _⟩ => (no_alike0 _ _ _ _ q).elim, fun _ _ _ _ _ _ _ _ _ _ _ _ _ ⟨ds, _, _, _, _, _, _, q, _⟩ => (no_alike0 _ _ _ _ q).elim⟩
theorem t_alike1 (C : Ctx w K mg h) : FnFact P w K mg base Γ (e__law_alike 1) := by
  obtain ⟨fd, F⟩ := C.c.t.d.def_ 7 (d := d__law_alike) rfl
  have a0 := C.fre 48 (x := "isinstance") (by rfl)
  have a1 := C.fre 49 (x := "len") (by rfl)
  have a2 := C.fre 46 (x := "bool") (by rfl)
  have a3 := C.fre 47 (x := "int") (by rfl)
  have a4 := C.fre 54 (x := "str") (by rfl)
  have a5 := C.fre 55 (x := "tuple") (by rfl)
  have a6 := C.fre 50 (x := "list") (by rfl)
  have a7 := C.fre 53 (x := "range") (by rfl)
  have b := t_alike0 (P := P) (w := w) (base := base) (Γ := Γ) C
  refine mk_glob (C.glo 7 (by rfl)) F.kp (F.bindsN fun _ _ _ _ _ _ us hl => match us, hl with | [_, _], _ => rfl) rfl (il_ok (il := il__law_alike 0) (lam := false) (mkl := false) F sc__law_alike (fun z => nomatch z) (fun z => nomatch z) (fun g0 => ?_) (fun g0 => ?_) (k__law_alike 0))
  · kernel_rfl
  · simp only [il__law_alike, Sx.ok, Ex.ok]
    repeat' (first | exact trivial | assumption | refine ⟨?_, ?_⟩ | intro _)
theorem t_alike2 (C : Ctx w K mg h) : FnFact P w K mg base Γ (e__law_alike 2) := by
  obtain ⟨fd, F⟩ := C.c.t.d.def_ 7 (d := d__law_alike) rfl
  have a0 := C.fre 48 (x := "isinstance") (by rfl)
  have a1 := C.fre 49 (x := "len") (by rfl)
  have a2 := C.fre 46 (x := "bool") (by rfl)
  have a3 := C.fre 47 (x := "int") (by rfl)
  have a4 := C.fre 54 (x := "str") (by rfl)
  have a5 := C.fre 55 (x := "tuple") (by rfl)
  have a6 := C.fre 50 (x := "list") (by rfl)
  have a7 := C.fre 53 (x := "range") (by rfl)
  have b := t_alike1 (P := P) (w := w) (base := base) (Γ := Γ) C
  refine mk_glob (C.glo 7 (by rfl)) F.kp (F.bindsN fun _ _ _ _ _ _ us hl => match us, hl with | [_, _], _ => rfl) rfl (il_ok (il := il__law_alike 1) (lam := false) (mkl := false) F sc__law_alike (fun z => nomatch z) (fun z => nomatch z) (fun g0 => ?_) (fun g0 => ?_) (k__law_alike 1))
  · kernel_rfl
  · simp only [il__law_alike, Sx.ok, Ex.ok]
    repeat' (first | exact trivial | assumption | refine ⟨?_, ?_⟩ | intro _)
theorem t_alike3 (C : Ctx w K mg h) : FnFact P w K mg base Γ (e__law_alike 3) := by
  obtain ⟨fd, F⟩ := C.c.t.d.def_ 7 (d := d__law_alike) rfl
  have a0 := C.fre 48 (x := "isinstance") (by rfl)
  have a1 := C.fre 49 (x := "len") (by rfl)
  have a2 := C.fre 46 (x := "bool") (by rfl)
  have a3 := C.fre 47 (x := "int") (by rfl)
  have a4 := C.fre 54 (x := "str") (by rfl)
  have a5 := C.fre 55 (x := "tuple") (by rfl)
  have a6 := C.fre 50 (x := "list") (by rfl)
  have a7 := C.fre 53 (x := "range") (by rfl)
  have b := t_alike2 (P := P) (w := w) (base := base) (Γ := Γ) C
  refine mk_glob (C.glo 7 (by rfl)) F.kp (F.bindsN fun _ _ _ _ _ _ us hl => match us, hl with | [_, _], _ => rfl) rfl (il_ok (il := il__law_alike 2) (lam := false) (mkl := false) F sc__law_alike (fun z => nomatch z) (fun z => nomatch z) (fun g0 => ?_) (fun g0 => ?_) (k__law_alike 2))
  · kernel_rfl
  · simp only [il__law_alike, Sx.ok, Ex.ok]
    repeat' (first | exact trivial | assumption | refine ⟨?_, ?_⟩ | intro _)
theorem t_alike4 (C : Ctx w K mg h) : FnFact P w K mg base Γ (e__law_alike 4) := by
  obtain ⟨fd, F⟩ := C.c.t.d.def_ 7 (d := d__law_alike) rfl
  have a0 := C.fre 48 (x := "isinstance") (by rfl)
  have a1 := C.fre 49 (x := "len") (by rfl)
  have a2 := C.fre 46 (x := "bool") (by rfl)
  have a3 := C.fre 47 (x := "int") (by rfl)
  have a4 := C.fre 54 (x := "str") (by rfl)
  have a5 := C.fre 55 (x := "tuple") (by rfl)
  have a6 := C.fre 50 (x := "list") (by rfl)
  have a7 := C.fre 53 (x := "range") (by rfl)
  have b := t_alike3 (P := P) (w := w) (base := base) (Γ := Γ) C
  refine mk_glob (C.glo 7 (by rfl)) F.kp (F.bindsN fun _ _ _ _ _ _ us hl => match us, hl with | [_, _], _ => rfl) rfl (il_ok (il := il__law_alike 3) (lam := false) (mkl := false) F sc__law_alike (fun z => nomatch z) (fun z => nomatch z) (fun g0 => ?_) (fun g0 => ?_) (k__law_alike 3))
  · kernel_rfl
  · simp only [il__law_alike, Sx.ok, Ex.ok]
    repeat' (first | exact trivial | assumption | refine ⟨?_, ?_⟩ | intro _)
theorem t_alike5 (C : Ctx w K mg h) : FnFact P w K mg base Γ (e__law_alike 5) := by
  obtain ⟨fd, F⟩ := C.c.t.d.def_ 7 (d := d__law_alike) rfl
  have a0 := C.fre 48 (x := "isinstance") (by rfl)
  have a1 := C.fre 49 (x := "len") (by rfl)
  have a2 := C.fre 46 (x := "bool") (by rfl)
  have a3 := C.fre 47 (x := "int") (by rfl)
  have a4 := C.fre 54 (x := "str") (by rfl)
  have a5 := C.fre 55 (x := "tuple") (by rfl)
  have a6 := C.fre 50 (x := "list") (by rfl)
  have a7 := C.fre 53 (x := "range") (by rfl)
  have b := t_alike4 (P := P) (w := w) (base := base) (Γ := Γ) C
  refine mk_glob (C.glo 7 (by rfl)) F.kp (F.bindsN fun _ _ _ _ _ _ us hl => match us, hl with | [_, _], _ => rfl) rfl (il_ok (il := il__law_alike 4) (lam := false) (mkl := false) F sc__law_alike (fun z => nomatch z) (fun z => nomatch z) (fun g0 => ?_) (fun g0 => ?_) (k__law_alike 4))
  · kernel_rfl
  · simp only [il__law_alike, Sx.ok, Ex.ok]
    repeat' (first | exact trivial | assumption | refine ⟨?_, ?_⟩ | intro _)
theorem t_alike6 (C : Ctx w K mg h) : FnFact P w K mg base Γ (e__law_alike 6) := by
  obtain ⟨fd, F⟩ := C.c.t.d.def_ 7 (d := d__law_alike) rfl
  have a0 := C.fre 48 (x := "isinstance") (by rfl)
  have a1 := C.fre 49 (x := "len") (by rfl)
  have a2 := C.fre 46 (x := "bool") (by rfl)
  have a3 := C.fre 47 (x := "int") (by rfl)
  have a4 := C.fre 54 (x := "str") (by rfl)
  have a5 := C.fre 55 (x := "tuple") (by rfl)
  have a6 := C.fre 50 (x := "list") (by rfl)
  have a7 := C.fre 53 (x := "range") (by rfl)
  have b := t_alike5 (P := P) (w := w) (base := base) (Γ := Γ) C
  refine mk_glob (C.glo 7 (by rfl)) F.kp (F.bindsN fun _ _ _ _ _ _ us hl => match us, hl with | [_, _], _ => rfl) rfl (il_ok (il := il__law_alike 5) (lam := false) (mkl := false) F sc__law_alike (fun z => nomatch z) (fun z => nomatch z) (fun g0 => ?_) (fun g0 => ?_) (k__law_alike 5))
  · kernel_rfl
  · simp only [il__law_alike, Sx.ok, Ex.ok]
    repeat' (first | exact trivial | assumption | refine ⟨?_, ?_⟩ | intro _)
end
end Row_k02
set_option Elab.async false
set_option linter.all false
set_option maxRecDepth 100000
set_option maxHeartbeats 0
/-! the closures of row k02 -/
namespace Row_k02
open PySem PySem.Spec PyProof.Rows L2 GL
def qT : Str := "_law_turn.<locals>.<lambda>"
def qL : Str := "law.<locals>.<lambda>"
def ls : Nat → LamD
  | 0 => lamAt (defBody s__law_turn) qT 0 n_c0
  | 1 => lamAt (defBody s__law_turn) qT 1 n_c1
  | 2 => lamAt (defBody s__law_turn) qT 2 n_c2
  | 3 => lamAt (defBody s__law_turn) qT 3 n_c3
  | 4 => lamAt (defBody s_law) qL 0 n_c4
  | _ => lamAt (defBody s_law) qL 1 ["_law_disk"]
def Gm2 (K : PySem.W.Frag) : Gm := { lam := fun k => if k < 6 then some (ls k) else none, T := [((He.cT K ("_law_turn", none)).2, qT), ((He.cT K ("law", none)).2, qL)], C := [] }
def qs : List Str := [qT, qL]
section
variable {P : Program} {w : World} {K : PySem.W.Frag} {mg : Str → Option Value} {base h : Heap}
theorem c0 (C : Ctx w K mg h) : ClFact P w K mg base (Gm2 K) 0 (clE n_c0 .z 2 il_c0) := by
  have a := t_Disk_arm (P := P) (w := w) (base := base) (Γ := Gm2 K) C
  refine clfact_of (N := n_c0) (l := ls 0) (ak := .z) (q0 := "") rfl (by kernel_rfl) (NdefX.nscope_by (by kernel_rfl)) (fun F X e1 e2 e3 e4 e5 e6 g => ?_) (fun cds ds G Q E _ _ h => h)
  refine (sound P w K mg base (Gm2 K) F.g0 il_c0 _ F X e1 e2 e3 e4 e5 e6 rfl g ?_).e _ (by kernel_rfl)
  simp only [il_c0, Ex.ok]
  repeat' (first | exact trivial | assumption | refine ⟨?_, ?_⟩ | intro _)
theorem c1 (C : Ctx w K mg h) : ClFact P w K mg base (Gm2 K) 1 (clE n_c1 .z 1 il_c1) := by
  have a := t_Disk_again (P := P) (w := w) (base := base) (Γ := Gm2 K) C
  refine clfact_of (N := n_c1) (l := ls 1) (ak := .z) (q0 := "") rfl (by kernel_rfl) (NdefX.nscope_by (by kernel_rfl)) (fun F X e1 e2 e3 e4 e5 e6 g => ?_) (fun cds ds G Q E _ _ h => h)
  refine (sound P w K mg base (Gm2 K) F.g0 il_c1 _ F X e1 e2 e3 e4 e5 e6 rfl g ?_).e _ (by kernel_rfl)
  simp only [il_c1, Ex.ok]
  repeat' (first | exact trivial | assumption | refine ⟨?_, ?_⟩ | intro _)
theorem c2 (C : Ctx w K mg h) : ClFact P w K mg base (Gm2 K) 2 (clE n_c2 .z 3 il_c2) := by
  have a := t_Disk_page (P := P) (w := w) (base := base) (Γ := Gm2 K) C
  refine clfact_of (N := n_c2) (l := ls 2) (ak := .z) (q0 := "") rfl (by kernel_rfl) (NdefX.nscope_by (by kernel_rfl)) (fun F X e1 e2 e3 e4 e5 e6 g => ?_) (fun cds ds G Q E _ _ h => h)
  refine (sound P w K mg base (Gm2 K) F.g0 il_c2 _ F X e1 e2 e3 e4 e5 e6 rfl g ?_).e _ (by kernel_rfl)
  simp only [il_c2, Ex.ok]
  repeat' (first | exact trivial | assumption | refine ⟨?_, ?_⟩ | intro _)
theorem c3 (C : Ctx w K mg h) : ClFact P w K mg base (Gm2 K) 3 (clE n_c3 .z 4 il_c3) := by
  have a := t_Disk_write (P := P) (w := w) (base := base) (Γ := Gm2 K) C
  refine clfact_of (N := n_c3) (l := ls 3) (ak := .z) (q0 := "") rfl (by kernel_rfl) (NdefX.nscope_by (by kernel_rfl)) (fun F X e1 e2 e3 e4 e5 e6 g => ?_) (fun cds ds G Q E _ _ h => h)
  refine (sound P w K mg base (Gm2 K) F.g0 il_c3 _ F X e1 e2 e3 e4 e5 e6 rfl g ?_).e _ (by kernel_rfl)
  simp only [il_c3, Ex.ok]
  repeat' (first | exact trivial | assumption | refine ⟨?_, ?_⟩ | intro _)
theorem c4 (C : Ctx w K mg h) : ClFact P w K mg base (Gm2 K) 4 (clE n_c4 .z 3 il_c4) := by
  have a := t_Disk_page (P := P) (w := w) (base := base) (Γ := Gm2 K) C
  refine clfact_of (N := n_c4) (l := ls 4) (ak := .z) (q0 := "") rfl (by kernel_rfl) (NdefX.nscope_by (by kernel_rfl)) (fun F X e1 e2 e3 e4 e5 e6 g => ?_) (fun cds ds G Q E _ _ h => h)
  refine (sound P w K mg base (Gm2 K) F.g0 il_c4 _ F X e1 e2 e3 e4 e5 e6 rfl g ?_).e _ (by kernel_rfl)
  simp only [il_c4, Ex.ok]
  repeat' (first | exact trivial | assumption | refine ⟨?_, ?_⟩ | intro _)
theorem c5 (C : Ctx w K mg h) : ClFact P w K mg base (Gm2 K) 5 (clE n_c5 (.d "_law_a") 4 il_c5) := by
  have a := t_Disk_write (P := P) (w := w) (base := base) (Γ := Gm2 K) C
  refine clfact_of (N := n_c5) (l := ls 5) (ak := (.d "_law_a")) (q0 := "") rfl (by kernel_rfl) (NdefX.nscope_by (by kernel_rfl)) (fun F X e1 e2 e3 e4 e5 e6 g => ?_) (fun cds ds G Q E _ _ h => h)
  refine (sound P w K mg base (Gm2 K) F.g0 il_c5 _ F X e1 e2 e3 e4 e5 e6 rfl g ?_).e _ (by kernel_rfl)
  simp only [il_c5, Ex.ok]
  repeat' (first | exact trivial | assumption | refine ⟨?_, ?_⟩ | intro _)
theorem csok (C : Ctx w K mg h) {lev : Nat} (hl : 5 ≤ lev) : ∀ k e, cs02 k = some e → ClFact P w K mg base (Gm2 K) k e ∧ e.lev ≤ lev
  | 0, e, q => by cases q; exact ⟨c0 C, by show 3 ≤ lev; omega⟩
  | 1, e, q => by cases q; exact ⟨c1 C, by show 2 ≤ lev; omega⟩
  | 2, e, q => by cases q; exact ⟨c2 C, by show 4 ≤ lev; omega⟩
  | 3, e, q => by cases q; exact ⟨c3 C, by show 5 ≤ lev; omega⟩
  | 4, e, q => by cases q; exact ⟨c4 C, by show 4 ≤ lev; omega⟩
  | 5, e, q => by cases q; exact ⟨c5 C, by show 5 ≤ lev; omega⟩
  | _ + 6, e, q => by cases q
end
end Row_k02
set_option Elab.async false
set_option linter.all false
set_option maxRecDepth 100000
set_option maxHeartbeats 0
/-! told in row k02 -/
namespace Row_k02
open PySem PySem.Spec PyProof.Rows L2 GL
theorem words_ne : ∀ k, k < 9 → ∀ j, j < 9 → (words9.getD k "" == words9.getD j "") = (k == j) := by decide +kernel
def toldForm : List Stmt → Option (Expr × Pos × Pos × Stmt × List Stmt × Pos × Pos)
  | [.Try [.Return (some wc) p3] [.ExceptHandler (some (.Name x np)) (some e) (b :: s) pos'] [] [] pos] => if x = "PageError" ∧ e = "e" then some (wc, p3, np, b, s, pos', pos) else none
  | _ => none
theorem toldForm_ok {b : List Stmt} {z : Expr × Pos × Pos × Stmt × List Stmt × Pos × Pos} (h : toldForm b = some z) : b = [.Try [.Return (some z.1) z.2.1] [.ExceptHandler (some (.Name "PageError" z.2.2.1)) (some "e") (z.2.2.2.1 :: z.2.2.2.2.1) z.2.2.2.2.2.1] [] [] z.2.2.2.2.2.2] := by
  unfold toldForm at h
  split at h
  · split at h
    · rename_i q
      obtain ⟨rfl, rfl⟩ := q
      cases h
      rfl
    · cases h
  · cases h
section
variable {P : Program} {w : World} {K : PySem.W.Frag} {mg : Str → Option Value} {base h : Heap} {Γ : Gm}
theorem Ctx.err (C : Ctx w K mg h) : errsB K = true := (He.ba (He.ba (He.ba (show ((gls.all fun p => glB K p.1 p.2) && (noLst K && (errsB K && decide ((tf.map fun p => (He.cT K p).2).Nodup)))) = true from C.c.more)).2).2).1
theorem isEF (C : Ctx w K mg h) {k j : Nat} {cn y : Str} (hk : errAt k cn) (hj : words9[j]? = some y) (g1 : mg cn = some (.ref (He.ga K cn))) (g2 : mg y = some (.ref (He.ga K y))) : IsEF K mg cn y (k == j) := ⟨fun A hA => by
  rw [g1] at hA
  cases hA
  obtain ⟨h1, h2⟩ := He.ba (List.all_eq_true.mp C.err cn (List.mem_of_getElem? hk.1))
  obtain ⟨h3, h4⟩ := He.ba h2
  refine ⟨excCB_ok h1, .inl ⟨_, g2, ?_⟩⟩
  rw [of_decide_eq_true (List.all_eq_true.mp h3 y (List.mem_of_getElem? hj))]
  have lk : k < 9 := (List.getElem?_eq_some_iff.mp hk.1).1
  have lj : j < 9 := (List.getElem?_eq_some_iff.mp hj).1
  have e := words_ne k lk j lj
  rw [List.getD_eq_getElem?_getD, List.getD_eq_getElem?_getD, hk.1, hj] at e
  exact congrArg some e⟩
theorem isVE (C : Ctx w K mg h) {k : Nat} {cn : Str} (hk : errAt k cn) (g1 : mg cn = some (.ref (He.ga K cn))) (g2 : mg "ValueError" = none) : IsEF K mg cn "ValueError" true := ⟨fun A hA => by
  rw [g1] at hA
  cases hA
  obtain ⟨h1, h2⟩ := He.ba (List.all_eq_true.mp C.err cn (List.mem_of_getElem? hk.1))
  obtain ⟨h3, h4⟩ := He.ba h2
  obtain ⟨h5, h6⟩ := He.ba h4
  exact ⟨excCB_ok h1, .inr ⟨rfl, g2, of_decide_eq_true h5⟩⟩⟩
def tz : Expr × Pos × Pos × Stmt × List Stmt × Pos × Pos := (toldForm (defBody s__law_told)).getD (.Constant .none 0 ⟨0, 0, 0, 0⟩, ⟨0, 0, 0, 0⟩, ⟨0, 0, 0, 0⟩, .Pass ⟨0, 0, 0, 0⟩, [], ⟨0, 0, 0, 0⟩, ⟨0, 0, 0, 0⟩)
theorem tz_ok : toldForm (defBody s__law_told) = some tz := by kernel_rfl
theorem sc__law_told : FnScope toldN ["_law_work"] (defScope s__law_told) := ⟨by kernel_rfl, by kernel_rfl, by kernel_rfl, by decide +kernel, rfl, by decide +kernel, by decide +kernel⟩
def toldIn : Inf := { N := toldN, sc := defScope s__law_told, lev := 5, qual := "_law_told" ++ ".<locals>." }
theorem t__law_told (C : Ctx w K mg h) : FnFact P w K mg base (Gm2 K) e_told02 := by
  obtain ⟨fd, F⟩ := C.c.t.d.def_ 8 (d := d__law_told) rfl
  have gE : ∀ k cn, errAt k cn → mg cn = some (.ref (He.ga K cn)) := fun k cn hk => by
    obtain ⟨hk1, hk2⟩ := hk
    have lk : k < 9 := (List.getElem?_eq_some_iff.mp hk1).1
    match k, lk, hk1 with
    | 0, _, hk1 => cases hk1; exact C.glo 31 (by rfl)
    | 1, _, hk1 => cases hk1; exact C.glo 28 (by rfl)
    | 2, _, hk1 => cases hk1; exact C.glo 30 (by rfl)
    | 3, _, hk1 => cases hk1; exact C.glo 33 (by rfl)
    | 4, _, _ => exact absurd rfl hk2
    | 5, _, hk1 => cases hk1; exact C.glo 35 (by rfl)
    | 6, _, hk1 => cases hk1; exact C.glo 29 (by rfl)
    | 7, _, hk1 => cases hk1; exact C.glo 34 (by rfl)
    | 8, _, hk1 => cases hk1; exact C.glo 32 (by rfl)
  have gT : mg "BadText" = some (.ref (He.ga K "BadText")) := C.glo 36 (by rfl)
  have gP : mg "PageError" = some (.ref (He.ga K "PageError")) := C.glo 27 (by rfl)
  have gI := C.fre 48 (x := "isinstance") (by rfl)
  have gV := C.fre 45 (x := "ValueError") (by rfl)
  have gW : ∀ j y, words9[j]? = some y → mg y = some (.ref (He.ga K y)) := fun j y hj => by
    by_cases z : j = 4
    · subst z
      have e : words9[4]? = some ("BadText" : Str) := rfl
      rw [e] at hj
      cases hj
      exact gT
    · exact gE j y ⟨hj, z⟩
  refine mk_glob (C.glo 8 (by rfl)) F.kp (F.bindsN fun _ _ _ _ _ _ us hl => match us, hl with | [_], _ => rfl) rfl (fnok_of (d := fun _ => dTold cs02) (lam := false) (mkl := false) (k := 5) F sc__law_told (fun z => nomatch z) (fun z => nomatch z) (fun FX X e1 e2 e3 e4 e5 e6 e7 e8 g => ?_) (k__law_told cs02))
  show PSs X (defBody s__law_told) _
  rw [toldForm_ok tz_ok]
  refine pss_one (ups_told (I := toldIn) g e7 e8 rfl rfl rfl rfl (c := .ref (He.ga K "PageError")) ⟨?_, fun W pn xe g' => ?_⟩ ?_ ⟨?_, by decide, .inl ?_⟩ (fun cn hc cls hm => ?_) (fun a k cn => ?_) fun a k cn hk => ?_)
  · refine (sound P w K mg base (Gm2 K) FX.g0 (.clo cs02 (.var 0) .nil) toldIn FX X e1 e2 e3 e4 e5 e6 rfl g ⟨csok C (by decide), trivial, trivial⟩).e _ ?_
    kernel_rfl
  · refine (sound P w K mg base (Gm2 K) FX.g0 (.clo cs02 (.var 0) .nil) toldIn { FX with W := W } (X.tr pn xe) e1 e2 e3 e4 e5 e6 rfl g' ⟨csok C (by decide), trivial, trivial⟩).e _ ?_
    kernel_rfl
  · show X.env.scope.names.lookup ("e" : Str) = _
    rw [g.sc]
    kernel_rfl
  · exact gl_of g (by kernel_rfl)
  · rw [e4]
    exact gP
  · obtain ⟨k, hk⟩ := hc
    rw [e4, gE k cn hk] at hm
    cases hm
    rw [e3]
    obtain ⟨h1, h2⟩ := He.ba (List.all_eq_true.mp C.err cn (List.mem_of_getElem? hk.1))
    obtain ⟨h3, h4⟩ := He.ba h2
    obtain ⟨h5, h6⟩ := He.ba h4
    exact of_decide_eq_true h6
  · kernel_rfl
  · rw [e1, e2, e3, e4, e5, e6]
    have iE : ∀ j y, words9[j]? = some y → IsEF K mg cn y (k == j) := fun j y hj => isEF C hk hj (gE k cn hk) (gW j y hj)
    have b0 := iE 0 "BadCount" rfl
    have b1 := iE 1 "BadDisk" rfl
    have b2 := iE 2 "BadPage" rfl
    have b3 := iE 3 "BadRow" rfl
    have b4 := iE 4 "BadText" rfl
    have b5 := iE 5 "Full" rfl
    have b6 := iE 6 "NoPage" rfl
    have b7 := iE 7 "NoRow" rfl
    have b8 := iE 8 "Stopped" rfl
    have b9 := isVE C hk (gE k cn hk) gV.h
    have iO : ∀ {y : Str} {b : Bool}, IsEF K mg cn y b → ∀ a' cn', (toldI toldIn a cn).exc = some (a', cn') → a' = a ∧ IsEF K mg cn' y b := fun i a' cn' z => by
      cases z
      exact ⟨rfl, i⟩
    simp only [ilToldS, Sx.ok, Ex.ok]
    repeat' (first | exact trivial | exact gI | exact iO (by assumption) | refine ⟨?_, ?_⟩ | intro _)
end
end Row_k02
set_option Elab.async false
set_option linter.all false
set_option maxRecDepth 100000
set_option maxHeartbeats 0
/-! the law in row k02 -/
namespace Row_k02
open PySem PySem.Spec PyProof.Rows L2 GL
section
variable {P : Program} {w : World} {K : PySem.W.Frag} {mg : Str → Option Value} {base h : Heap} {Γ : Gm}
theorem Ctx.nod (C : Ctx w K mg h) : (tf.map fun p => (He.cT K p).2).Nodup := of_decide_eq_true (He.ba (He.ba (He.ba (show ((gls.all fun p => glB K p.1 p.2) && (noLst K && (errsB K && decide ((tf.map fun p => (He.cT K p).2).Nodup)))) = true from C.c.more)).2).2).2
theorem Ctx.noL (C : Ctx w K mg h) : noLst K = true := (He.ba (He.ba (show ((gls.all fun p => glB K p.1 p.2) && (noLst K && (errsB K && decide ((tf.map fun p => (He.cT K p).2).Nodup)))) = true from C.c.more)).2).1
def lamB (I : Inf) (l : LamD) (is : List Nat) : Bool := decide (l.qual = I.qual ++ "<lambda>") && (decide (is.map (fun i => I.N[i]?) = l.free.map some) && ((l.scope.names.all fun y => !decide (y.2 = .free) || l.free.contains y.1) && (l.free.all fun y => l.scope.names.any (fun z => z.1 == y && decide (z.2 = .free)) && (decide (I.sc.names.lookup y = some .cell) || decide (I.sc.names.lookup y = some .free)))))
theorem lam_ok {I : Inf} {Γ : Gm} {k : Nat} {l : LamD} {is : List Nat} (h0 : Γ.lam k = some l) (h : lamB I l is = true) : LamFact I Γ k l is := by
  unfold lamB at h
  simp only [Bool.and_eq_true, decide_eq_true_eq, List.all_eq_true, List.any_eq_true, Bool.or_eq_true, Bool.not_eq_true', beq_iff_eq, decide_eq_false_iff_not, List.contains_iff_mem] at h
  obtain ⟨h1, h2, h3, h4⟩ := h
  refine ⟨h0, h1, h2, fun y hy e => ?_, fun y hy => ?_⟩
  · rcases h3 y hy with z | z
    · exact absurd e z
    · exact z
  · obtain ⟨⟨z, hz, rfl, e⟩, h5⟩ := h4 y hy
    refine ⟨?_, h5⟩
    rw [← e]
    exact hz
/-- the table of the i-th maker of lambdas -/
theorem tab_of (C : Ctx w K mg h) {p : He.Defn} {q qual : Str} {params : Arguments} {body : List Stmt} {scope : Scope} {fd : FuncData} {x : Str} (TB : ∀ p ∈ tf.map (He.cT K), LamX.TabB base mg p.1 p.2) (F : FunD K x qual params body scope [] [] (He.fAd K p) fd) (i : Nat) (hi : tf[i]? = some p) (hT : (Gm2 K).T = tf.zipIdx.map fun z => ((He.cT K z.1).2, qs.getD z.2 "")) (hq : qs[i]? = some q) :
    ∃ c P, LamX.TabB base mg c P ∧ fd.code = .ref c ∧ (P, q) ∈ (Gm2 K).T ∧ ∀ p ∈ (Gm2 K).T, p.1 = P → p.2 = q := by
  obtain ⟨oc, od, dV, kV, doc, pm, an, cdv, ct, osl, rfl, lk, hcd, _, _⟩ := F.ex
  obtain ⟨c, rfl⟩ := He.codeIn_ref hcd
  have ec : He.codeOf K p = c := He.codeOf_eq lk rfl
  have hp : p ∈ tf := List.mem_of_getElem? hi
  have hg : qs.getD i "" = q := by rw [List.getD_eq_getElem?_getD, hq]; rfl
  refine ⟨c, (He.cT K p).2, ?_, rfl, ?_, fun z hz e => ?_⟩
  · have := TB _ (List.mem_map_of_mem hp)
    rw [show (He.cT K p).1 = c from ec] at this
    exact this
  · rw [hT]
    refine List.mem_map.mpr ⟨(p, i), ?_, by rw [← hg]⟩
    rw [List.mk_mem_zipIdx_iff_getElem?]
    exact hi
  · rw [hT] at hz
    obtain ⟨⟨p', j⟩, hj, rfl⟩ := List.mem_map.mp hz
    rw [List.mk_mem_zipIdx_iff_getElem?] at hj
    have nd := C.nod
    have e1 : (tf.map fun p => (He.cT K p).2)[i]? = some (He.cT K p).2 := by rw [List.getElem?_map, hi]; rfl
    have e2 : (tf.map fun p => (He.cT K p).2)[j]? = some (He.cT K p').2 := by rw [List.getElem?_map, hj]; rfl
    have e3 : (He.cT K p').2 = (He.cT K p).2 := e
    rw [e3] at e2
    have ij : j = i := (List.getElem?_inj (List.getElem?_eq_some_iff.mp e2).1 nd).mp (e2.trans e1.symm)
    show qs.getD j "" = q
    rw [ij, hg]
theorem sc__law_all : FnScope n__law_all ["_law_works", "_law_due"] (defScope s__law_all) := ⟨by kernel_rfl, by kernel_rfl, by kernel_rfl, by decide +kernel, rfl, by decide +kernel, by decide +kernel⟩
theorem t__law_all (C : Ctx w K mg h) : FnFact P w K mg base (Gm2 K) e_all02 := by
  obtain ⟨fd, F⟩ := C.c.t.d.def_ 9 (d := d__law_all) rfl
  have a0 := t_alike6 (P := P) (w := w) (base := base) (Γ := Gm2 K) C
  have a1 := t__law_told (P := P) (w := w) (base := base) C
  refine mk_glob (C.glo 9 (by rfl)) F.kp (F.bindsN fun _ _ _ _ _ _ us hl => match us, hl with | [_, _], _ => rfl) rfl (il_ok (il := il__law_all cs02 6 6) (lam := false) (mkl := false) F sc__law_all (fun z => nomatch z) (fun z => nomatch z) (fun g0 => ?_) (fun g0 => ?_) (k__law_all cs02 6 6))
  · kernel_rfl
  · simp only [il__law_all, Sx.ok, Ex.ok]
    repeat' (first | exact trivial | assumption | refine ⟨?_, ?_⟩ | intro _)
theorem sc__law_turn : FnScope n__law_turn ["_law_box", "_law_disk", "_law_own"] (defScope s__law_turn) := ⟨by kernel_rfl, by kernel_rfl, by kernel_rfl, by decide +kernel, rfl, by decide +kernel, by decide +kernel⟩
theorem t__law_turn (C : Ctx w K mg h) (TB : ∀ p ∈ tf.map (He.cT K), LamX.TabB base mg p.1 p.2) : FnFact P w K mg base (Gm2 K) e__law_turn := by
  obtain ⟨fd, F⟩ := C.c.t.d.def_ 11 (d := d__law_turn) rfl
  have a0 := t_alike6 (P := P) (w := w) (base := base) (Γ := Gm2 K) C
  have a1 := t__law_told (P := P) (w := w) (base := base) C
  have a2 := t__law_take (P := P) (w := w) (base := base) (Γ := Gm2 K) C
  have a3 := t__law_page (P := P) (w := w) (base := base) (Γ := Gm2 K) C
  have a4 := C.fre 49 (x := "len") (by rfl)
  have l0 : LamFact (defI n__law_turn (defScope s__law_turn) 6 true true "_law_turn") (Gm2 K) 0 (ls 0) [1, 2] := lam_ok rfl (by kernel_rfl)
  have l1 : LamFact (defI n__law_turn (defScope s__law_turn) 6 true true "_law_turn") (Gm2 K) 1 (ls 1) [1] := lam_ok rfl (by kernel_rfl)
  have l2 : LamFact (defI n__law_turn (defScope s__law_turn) 6 true true "_law_turn") (Gm2 K) 2 (ls 2) [1, 4] := lam_ok rfl (by kernel_rfl)
  have l3 : LamFact (defI n__law_turn (defScope s__law_turn) 6 true true "_law_turn") (Gm2 K) 3 (ls 3) [1, 4, 6] := lam_ok rfl (by kernel_rfl)
  refine mk_glob (C.glo 11 (by rfl)) F.kp (F.bindsN fun _ _ _ _ _ _ us hl => match us, hl with | [_, _, _], _ => rfl) rfl (il_ok (il := il__law_turn ls) (lam := true) (mkl := true) F sc__law_turn (fun _ => rfl) (fun _ => tab_of C TB F 0 rfl rfl rfl) (fun g0 => ?_) (fun g0 => ?_) (k__law_turn ls))
  · kernel_rfl
  · simp only [il__law_turn, t_arm, t_again, t_page, t_write, Sx.ok, Ex.ok]
    repeat' (first | exact trivial | rfl | assumption | refine ⟨?_, ?_⟩ | intro _)
theorem sc_law : FnScope n02 ["_law_script"] (defScope s_law) := ⟨by kernel_rfl, by kernel_rfl, by kernel_rfl, by decide +kernel, rfl, by decide +kernel, by decide +kernel⟩
theorem t_law (C : Ctx w K mg h) (TB : ∀ p ∈ tf.map (He.cT K), LamX.TabB base mg p.1 p.2) {fd : FuncData} (F : FunD K d_law.name d_law.qual d_law.params d_law.body d_law.scope [] [] (He.fAd K d_law.at_) fd) : FnOk P w K mg base (L2.CX P w) 9 (He.fAd K d_law.at_) fd ["_law_script"] (lift (Gm2 K) K mg 1 sp02) := by
  have a0 := t_alike6 (P := P) (w := w) (base := base) (Γ := Gm2 K) C
  have a1 := t__law_turn (P := P) (w := w) (base := base) C TB
  have a2 := t__law_take (P := P) (w := w) (base := base) (Γ := Gm2 K) C
  have a3 := t__law_begun (P := P) (w := w) (base := base) (Γ := Gm2 K) C
  have a4 := t__law_all (P := P) (w := w) (base := base) C
  have a5 := t_Disk (P := P) (w := w) (base := base) (Γ := Gm2 K) C
  have a6 := t_Disk_page (P := P) (w := w) (base := base) (Γ := Gm2 K) C
  have a7 := t_Disk_pages (P := P) (w := w) (base := base) (Γ := Gm2 K) C
  have a8 := t_Disk_writes (P := P) (w := w) (base := base) (Γ := Gm2 K) C
  have a9 := t_Disk_again (P := P) (w := w) (base := base) (Γ := Gm2 K) C
  have b0 := C.fre 53 (x := "range") (by rfl)
  have l4 : LamFact (defI n02 (defScope s_law) 8 true true "law") (Gm2 K) 4 (ls 4) [3] := lam_ok rfl (by kernel_rfl)
  have l5 : LamFact (defI n02 (defScope s_law) 8 true true "law") (Gm2 K) 5 (ls 5) [3] := lam_ok rfl (by kernel_rfl)
  refine il_ok (il := il02 ls) (lam := true) (mkl := true) F sc_law (fun _ => rfl) (fun _ => tab_of C TB F 1 rfl rfl rfl) (fun g0 => ?_) (fun g0 => ?_) (k02 ls)
  · kernel_rfl
  · simp only [il02, l02_body, l02_end, Sx.ok, Ex.ok]
    repeat' (first | exact trivial | rfl | assumption | refine ⟨?_, ?_⟩ | intro _)
theorem at_law {fa : Addr} (C : Ctx w K mg h) (hfa : mg ("law" : Str) = some (.ref fa)) : LamX.LawAtS PySem.Challenge.rw_slotpages_k02_disks w K (L2.CX PySem.Challenge.rw_slotpages_k02_disks.prog w) 9 63 "_law_script" mg fa h := by
  obtain ⟨fd, F⟩ := C.c.t.d.def_ 12 (d := d_law) rfl
  have e := hfa.symm.trans (C.glo 12 (by rfl))
  cases e
  have b := FunD.bindsA (ps := ["_law_script"]) F fun _ _ _ _ _ _ us hl => match us, hl with | [_], _ => rfl
  refine ⟨fd, tf.map (He.cT K), lift (Gm2 K) K mg 1 sp02, fun p hp => ?_, fun p hp => ?_, fun p hp => ?_, fun s v => b s [v] rfl, fun H a ns hl _ hT hS => ?_, fun base _ _ TB => t_law C TB F⟩
  · obtain ⟨q, hq, rfl⟩ := List.mem_map.mp hp
    exact C.c.empty q hq
  · obtain ⟨q, hq, rfl⟩ := List.mem_map.mp hp
    exact C.c.out q hq
  · obtain ⟨q, hq, rfl⟩ := List.mem_map.mp hp
    exact PySem.W.codeHd_of_K C.X (C.c.hd q hq)
  · refine ⟨[.ref a], fun b => if b = a then some (.rol (ns.map D.int)) else none, fun v _ => v = .bl true, noX, rfl, ?_, ⟨fun c o hc => ?_, fun p hp => ?_, fun x d hx => (by cases hx), ext_none⟩, ⟨ns, if_pos rfl, hl, fun _ => rfl⟩, fun d G' v H' e r i q => ?_, fun _ _ _ _ _ _ _ _ _ z => z.elim⟩
    · exact IsL.one (is_ref.mpr rfl)
    · have hc : (if c = a then some (GO.rol (ns.map D.int)) else none) = some o := hc
      by_cases z : c = a
      · subst z
        rw [if_pos rfl] at hc
        cases hc
        exact ⟨ns.map V.int, noLst_ok C.noL hS, isL_ints.mpr rfl⟩
      · rw [if_neg z] at hc
        cases hc
    · have e : (Gm2 K).T = tf.zipIdx.map fun z => ((He.cT K z.1).2, qs.getD z.2 "") := rfl
      rw [e] at hp
      obtain ⟨⟨q, i⟩, hq, rfl⟩ := List.mem_map.mp hp
      rw [List.mk_mem_zipIdx_iff_getElem?] at hq
      exact LamX.TabS.nil (hT _ (List.mem_map_of_mem (List.mem_of_getElem? hq)))
    · have q : d = .bl true := q
      subst q
      exact is_bl.mp i
end
end Row_k02
open PySem PySem.W PySem.Calls PyProof.Rows
theorem PySem.Challenge.cw_slotpages_k02_disks_holds : PySem.Challenge.rw_slotpages_k02_disks.Holds := by
  w_on; o_law
  refine HandSHeadRun.head_any (r := Row_k02.R) (q := Row_k02.qv) (H := Row_k02.hk) (ob := Row_k02.ob) (M := 6000) (loose := Row_k02.names) (d := HandSHeadRun.topDef Row_k02.R.prog 38) (kwd := []) Row_k02.ob_eq
    (by kernel_rfl) (fun s => by kernel_rfl) Row_k02.run (by kernel_rfl) (by kernel_rfl) (by kernel_rfl) (by rfl) (by first | assumption | decide +kernel) (by decide +kernel) ⟨rfl, rfl, rfl, rfl, rfl, by decide +kernel⟩ ?hw ?hc
  case hw => w_witness2
  case hc =>
    refine LamX.walk_ofTsE (l := PySem.Challenge.rw_slotpages_k02_disks) (n := 63) (k := 9) (x := "_law_script") (CX := fun w => L2.CX PySem.Challenge.rw_slotpages_k02_disks.prog w) rfl (by decide) (by kernel_rfl) ⟨rfl, by decide, by decide⟩ ?F ?X
    case F =>
      intro w mg fa h Y G hmg0
      obtain ⟨K, KX, c⟩ := Y
      have hmg : mg ("law" : PySem.Str) = some (.ref fa) := by
        have e : (HandSHeadRun.topDef Row_k02.R.prog 38).name = ("law" : PySem.Str) := by kernel_rfl
        rw [← e]
        exact hmg0
      exact ⟨K, KX, Row_k02.at_law ⟨KX, G, c⟩ hmg⟩
    case X =>
      rintro w H s e s' ⟨_, _, _, _, _, _, _, _, _, _, _, _, z⟩
      exact z
