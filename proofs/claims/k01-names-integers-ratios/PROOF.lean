import PyProof.Rows.All
import Wide.All
import OpenK.AllK
import Wide.FinOn
import KE.KStateDown
import HandS.ForMost
import HandS.More
import HandS.Flow
import HandS.WordsExc
import HandS.Defaults
import HandS.CallSlots
import HandS.ExcInit
import HandS.ExcField
import HandS.Evl
import HandS.Lambda
import HandS.IsInst
import HandS.Wide
import HandS.Walk
import HandS.Zip
import HandS.TryOnly
import HandS.TupAny
import HandS.Deep
import HandS.SlotsOwn
import HandS.ClsMeth
import HandS.Property
import HandS.Gcd
import KE.KOpsOwn
import KE.KCallOwn
import PyProof.Rows.RuleN_abs
import PyProof.Conv_bool
import HandS.TryMany
import HandS.Style
import HandS.FStr
import HandS.Small
import HandS.HeadHook2
import HandS.Head0
import HandS.Head1
import HandS.Head2
import HandS.Head3
import HandS.HeadEnd
import HandS.HeadHook4
import HandS.RaiseMore
import HandS.HeadWalk
import HandS.NestedK
import PySem.Challenge.RW_lastgiver_k01_names_integers_and_ratios
set_option Elab.async false
set_option linter.all false
set_option maxRecDepth 100000
set_option maxHeartbeats 2000000
/-! The mirror layer, part 0: data, what stands for them in a heap, frames of slots, outcomes. -/
namespace Ml
open PySem PySem.Spec PyProof.Rows L2
inductive D where
  | non | bl (b : Bool) | int (i : Int) | str (s : Str)
  | tup (xs : List D) | lst (xs : List D) | dct (kvs : List (Key × D))
  | ins (c : Nat) (fs : List D)
  | cls (c : Nat) | ty (n : String) | fn (k : Nat)
  | xc (c : Nat) (fs : List D) (a dd : Addr)
  | rdl (xs : List D)
  deriving Inhabited
/-- what the text's classes and defs are called by number -/
structure Tab where
  K : PySem.W.Frag
  adr : Nat → Addr
  fld : Nat → List Str
  fna : Nat → Addr
  n : Nat
  kin : Nat → Nat → Bool
  tabs : List (Addr × Str)
abbrev Ex (H H' : Hp) : Prop := Evl.Ex H H'
theorem rdX {B H : Hp} {a : Addr} {xs : List V} (e : Ex B H) (h : B a = some (.lst xs)) : Rd H a (.lst xs) := .inl (e _ _ h)
/-- not a table of code objects -/
def NT (o : HO) : Prop := ∀ ps, o ≠ .tbl ps
/-- .. nor told from outside -/
def NX (o : HO) : Prop := NT o ∧ ∀ f, o ≠ .ext f
abbrev NTs (B : Hp) : Prop := ∀ x o, B x = some o → NT o
theorem tabs_upd {L : List (Addr × Str)} {H : Hp} {a : Addr} {o0 o : HO} (t : LamX.Tabs L H) (h : H a = some o0) (n : NX o0) : LamX.Tabs L (upd H a o) := fun p hp => by
  obtain ⟨ps, h1, h2, h3⟩ := t p hp
  have n1 : p.1 ≠ a := fun z => by rw [z, h] at h1; exact n.1 ps (Option.some.inj h1)
  refine ⟨ps, by rw [upd_ne n1]; exact h1, h2, fun pos cv hc => ?_⟩
  obtain ⟨c, e1, e2⟩ := h3 pos cv hc
  have n2 : c ≠ a := fun z => by rw [z, h] at e2; exact n.2 _ (Option.some.inj e2)
  exact ⟨c, e1, by rw [upd_ne n2]; exact e2⟩
mutual
def Is (T : Tab) : D → V → Hp → Prop
  | .non, v, _ => v = .non
  | .bl b, v, _ => v = .bl b
  | .int i, v, _ => v = .int i
  | .str s, v, _ => v = .str s
  | .tup ds, v, H => ∃ a xs, v = .ref a ∧ H a = some (.tup xs) ∧ IsL T ds xs H
  | .lst ds, v, H => ∃ a xs, v = .ref a ∧ H a = some (.lst xs) ∧ IsL T ds xs H
  | .rdl ds, v, H => ∃ a xs, v = .ref a ∧ SqL T.K H a xs ∧ IsL T ds xs H
  | .dct kvs, v, H => ∃ a ws, v = .ref a ∧ H a = some (.dK ws) ∧ IsK T kvs ws H
  | .ins c ds, v, H => ∃ a dx fs, v = .ref a ∧ H a = some (.ins (T.adr c) dx fs) ∧ fs.map (·.1) = (T.fld c).take ds.length ∧ IsL T ds (fs.map (·.2)) H
  | .cls c, v, _ => v = .ref (T.adr c)
  | .ty n, v, _ => v = .ty n
  | .fn k, v, _ => v = .ref (T.fna k)
  | .xc c ds a dd, v, H => v = .ref a ∧ ∃ ws vs, H dd = some (.xd ws) ∧ ds.length = (T.fld c).length ∧ (∀ (i : Nat) (f : Str) (w : V), (T.fld c)[i]? = some f → vs[i]? = some w → ws.lookup f = some w) ∧ IsL T ds vs H
def IsL (T : Tab) : List D → List V → Hp → Prop
  | [], vs, _ => vs = []
  | d :: ds, vs, H => ∃ v r, vs = v :: r ∧ Is T d v H ∧ IsL T ds r H
def IsK (T : Tab) : List (Key × D) → List (Key × V) → Hp → Prop
  | [], vs, _ => vs = []
  | kd :: ds, vs, H => ∃ v r, vs = (kd.1, v) :: r ∧ Is T kd.2 v H ∧ IsK T ds r H
end
mutual
theorem Is.mono {T : Tab} {H H' : Hp} (e : Ex H H') : ∀ {d : D} {v : V}, Is T d v H → Is T d v H'
  | .non, _, h => h
  | .bl _, _, h => h
  | .int _, _, h => h
  | .str _, _, h => h
  | .tup ds, v, h => by
    unfold Is at h ⊢
    obtain ⟨a, xs, h1, h2, h3⟩ := h
    exact ⟨a, xs, h1, e _ _ h2, IsL.mono e h3⟩
  | .lst ds, v, h => by
    unfold Is at h ⊢
    obtain ⟨a, xs, h1, h2, h3⟩ := h
    exact ⟨a, xs, h1, e _ _ h2, IsL.mono e h3⟩
  | .rdl ds, v, h => by
    unfold Is at h ⊢
    obtain ⟨a, xs, h1, h2, h3⟩ := h
    exact ⟨a, xs, h1, Evl.ex_l e h2, IsL.mono e h3⟩
  | .dct ds, v, h => by
    unfold Is at h ⊢
    obtain ⟨a, xs, h1, h2, h3⟩ := h
    exact ⟨a, xs, h1, e _ _ h2, IsK.mono e h3⟩
  | .ins c ds, v, h => by
    unfold Is at h ⊢
    obtain ⟨a, dx, fs, h1, h2, h3, h4⟩ := h
    exact ⟨a, dx, fs, h1, e _ _ h2, h3, IsL.mono e h4⟩
  | .cls _, _, h => h
  | .ty _, _, h => h
  | .fn _, _, h => h
  | .xc c ds a dd, v, h => by
    unfold Is at h ⊢
    obtain ⟨h0, ws, vs, h1, h2, h3, h4⟩ := h
    exact ⟨h0, ws, vs, e _ _ h1, h2, h3, IsL.mono e h4⟩
theorem IsL.mono {T : Tab} {H H' : Hp} (e : Ex H H') : ∀ {ds : List D} {vs : List V}, IsL T ds vs H → IsL T ds vs H'
  | [], _, h => h
  | d :: ds, vs, h => by
    unfold IsL at h ⊢
    obtain ⟨v, r, h1, h2, h3⟩ := h
    exact ⟨v, r, h1, Is.mono e h2, IsL.mono e h3⟩
theorem IsK.mono {T : Tab} {H H' : Hp} (e : Ex H H') : ∀ {ds : List (Key × D)} {vs : List (Key × V)}, IsK T ds vs H → IsK T ds vs H'
  | [], _, h => h
  | d :: ds, vs, h => by
    unfold IsK at h ⊢
    obtain ⟨v, r, h1, h2, h3⟩ := h
    exact ⟨v, r, h1, Is.mono e h2, IsK.mono e h3⟩
end
end Ml
set_option maxRecDepth 100000
set_option maxHeartbeats 2000000
namespace Ml
open PySem PySem.Spec PyProof.Rows L2
section
variable {T : Tab} {H H' : Hp}
theorem isL_nil {vs : List V} : IsL T [] vs H ↔ vs = [] := by unfold IsL; exact Iff.rfl
theorem isL_cons {d : D} {ds : List D} {vs : List V} : IsL T (d :: ds) vs H ↔ ∃ v r, vs = v :: r ∧ Is T d v H ∧ IsL T ds r H := by
  constructor
  · intro h; unfold IsL at h; exact h
  · intro h; unfold IsL; exact h
theorem IsL.cons {d : D} {ds : List D} {v : V} {vs : List V} (h : Is T d v H) (hs : IsL T ds vs H) : IsL T (d :: ds) (v :: vs) H := isL_cons.mpr ⟨v, vs, rfl, h, hs⟩
theorem IsL.nil : IsL T [] [] H := isL_nil.mpr rfl
theorem IsL.length : ∀ {ds : List D} {vs : List V}, IsL T ds vs H → vs.length = ds.length
  | [], vs, h => by rw [isL_nil.mp h]; rfl
  | d :: ds, vs, h => by
    obtain ⟨v, r, rfl, _, h2⟩ := isL_cons.mp h
    simp [IsL.length h2]
theorem IsL.get : ∀ {ds : List D} {vs : List V} {i : Nat} {d : D}, IsL T ds vs H → ds[i]? = some d → ∃ v, vs[i]? = some v ∧ Is T d v H
  | [], _, _, _, _, e => by simp at e
  | d :: ds, vs, 0, d', h, e => by
    obtain ⟨v, r, rfl, h1, _⟩ := isL_cons.mp h
    simp at e; subst e
    exact ⟨v, rfl, h1⟩
  | d :: ds, vs, i + 1, d', h, e => by
    obtain ⟨v, r, rfl, _, h2⟩ := isL_cons.mp h
    obtain ⟨w, a, b⟩ := IsL.get (i := i) h2 (by simpa using e)
    exact ⟨w, by simpa using a, b⟩
theorem IsL.getV : ∀ {ds : List D} {vs : List V} {i : Nat} {v : V}, IsL T ds vs H → vs[i]? = some v → ∃ d, ds[i]? = some d ∧ Is T d v H := fun {ds vs i v} h e => by
  have hl := h.length
  have hi : i < vs.length := (List.getElem?_eq_some_iff.mp e).1
  obtain ⟨d, hd⟩ : ∃ d, ds[i]? = some d := ⟨ds[i]'(by omega), List.getElem?_eq_some_iff.mpr ⟨by omega, rfl⟩⟩
  obtain ⟨w, a, b⟩ := h.get hd
  rw [e] at a; cases a
  exact ⟨d, hd, b⟩
theorem IsL.append : ∀ {ds es : List D} {vs ws : List V}, IsL T ds vs H → IsL T es ws H → IsL T (ds ++ es) (vs ++ ws) H
  | [], es, vs, ws, h, k => by rw [isL_nil.mp h]; exact k
  | d :: ds, es, vs, ws, h, k => by
    obtain ⟨v, r, rfl, h1, h2⟩ := isL_cons.mp h
    exact .cons h1 (IsL.append h2 k)
theorem IsL.set : ∀ {ds : List D} {vs : List V} {d : D} {v : V} (i : Nat), IsL T ds vs H → Is T d v H → IsL T (ds.set i d) (vs.set i v) H
  | [], vs, d, v, i, h, k => by rw [isL_nil.mp h]; exact .nil
  | x :: ds, vs, d, v, 0, h, k => by
    obtain ⟨w, r, rfl, h1, h2⟩ := isL_cons.mp h
    exact .cons k h2
  | x :: ds, vs, d, v, i + 1, h, k => by
    obtain ⟨w, r, rfl, h1, h2⟩ := isL_cons.mp h
    exact .cons h1 (IsL.set i h2 k)
theorem IsL.take : ∀ {ds : List D} {vs : List V} (n : Nat), IsL T ds vs H → IsL T (ds.take n) (vs.take n) H
  | _, _, 0, _ => .nil
  | [], vs, n + 1, h => by rw [isL_nil.mp h]; exact .nil
  | d :: ds, vs, n + 1, h => by
    obtain ⟨w, r, rfl, h1, h2⟩ := isL_cons.mp h
    exact .cons h1 (IsL.take n h2)
theorem IsL.drop : ∀ {ds : List D} {vs : List V} (n : Nat), IsL T ds vs H → IsL T (ds.drop n) (vs.drop n) H
  | _, _, 0, h => h
  | [], vs, n + 1, h => by rw [isL_nil.mp h]; exact .nil
  | d :: ds, vs, n + 1, h => by
    obtain ⟨w, r, rfl, h1, h2⟩ := isL_cons.mp h
    exact IsL.drop n h2
theorem IsL.reverse : ∀ {ds : List D} {vs : List V}, IsL T ds vs H → IsL T ds.reverse vs.reverse H
  | [], vs, h => by rw [isL_nil.mp h]; exact .nil
  | d :: ds, vs, h => by
    obtain ⟨w, r, rfl, h1, h2⟩ := isL_cons.mp h
    rw [List.reverse_cons, List.reverse_cons]
    exact IsL.append (IsL.reverse h2) (.cons h1 .nil)
theorem isK_nil {vs : List (Key × V)} : IsK T [] vs H ↔ vs = [] := by unfold IsK; exact Iff.rfl
theorem isK_cons {d : Key × D} {ds : List (Key × D)} {vs : List (Key × V)} : IsK T (d :: ds) vs H ↔ ∃ v r, vs = (d.1, v) :: r ∧ Is T d.2 v H ∧ IsK T ds r H := by
  constructor
  · intro h; unfold IsK at h; exact h
  · intro h; unfold IsK; exact h
theorem is_int {i : Int} {v : V} : Is T (.int i) v H ↔ v = .int i := by unfold Is; exact Iff.rfl
theorem is_str {i : Str} {v : V} : Is T (.str i) v H ↔ v = .str i := by unfold Is; exact Iff.rfl
theorem is_bl {i : Bool} {v : V} : Is T (.bl i) v H ↔ v = .bl i := by unfold Is; exact Iff.rfl
theorem is_non {v : V} : Is T .non v H ↔ v = .non := by unfold Is; exact Iff.rfl
theorem is_cls {c : Nat} {v : V} : Is T (.cls c) v H ↔ v = .ref (T.adr c) := by unfold Is; exact Iff.rfl
theorem is_fn {c : Nat} {v : V} : Is T (.fn c) v H ↔ v = .ref (T.fna c) := by unfold Is; exact Iff.rfl
theorem is_xc {c : Nat} {ds : List D} {a dd : Addr} {v : V} : Is T (.xc c ds a dd) v H ↔ v = .ref a ∧ ∃ ws vs, H dd = some (.xd ws) ∧ ds.length = (T.fld c).length ∧ (∀ (i : Nat) (f : Str) (w : V), (T.fld c)[i]? = some f → vs[i]? = some w → ws.lookup f = some w) ∧ IsL T ds vs H := by
  constructor <;> (intro h; unfold Is at *; exact h)
theorem is_ty {n : String} {v : V} : Is T (.ty n) v H ↔ v = .ty n := by unfold Is; exact Iff.rfl
theorem is_tup {ds : List D} {v : V} : Is T (.tup ds) v H ↔ ∃ a xs, v = .ref a ∧ H a = some (.tup xs) ∧ IsL T ds xs H := by
  constructor <;> (intro h; unfold Is at *; exact h)
theorem is_rdl {ds : List D} {v : V} : Is T (.rdl ds) v H ↔ ∃ a xs, v = .ref a ∧ SqL T.K H a xs ∧ IsL T ds xs H := by
  constructor <;> (intro h; unfold Is at *; exact h)
theorem is_lst {ds : List D} {v : V} : Is T (.lst ds) v H ↔ ∃ a xs, v = .ref a ∧ H a = some (.lst xs) ∧ IsL T ds xs H := by
  constructor <;> (intro h; unfold Is at *; exact h)
theorem is_dct {ds : List (Key × D)} {v : V} : Is T (.dct ds) v H ↔ ∃ a xs, v = .ref a ∧ H a = some (.dK xs) ∧ IsK T ds xs H := by
  constructor <;> (intro h; unfold Is at *; exact h)
theorem is_ins {c : Nat} {ds : List D} {v : V} : Is T (.ins c ds) v H ↔ ∃ a dx fs, v = .ref a ∧ H a = some (.ins (T.adr c) dx fs) ∧ fs.map (·.1) = (T.fld c).take ds.length ∧ IsL T ds (fs.map (·.2)) H := by
  constructor <;> (intro h; unfold Is at *; exact h)
end
/-- what stands at a, its parts in B, itself in H: of a list, a dict, an instance -/
def Cell (T : Tab) (d : D) (a : Addr) (B H : Hp) : Prop := match d with
  | .lst ds => ∃ xs, H a = some (.lst xs) ∧ IsL T ds xs B
  | .dct kvs => ∃ ws, H a = some (.dK ws) ∧ IsK T kvs ws B
  | .ins c ds => ∃ dx fs, H a = some (.ins (T.adr c) dx fs) ∧ fs.map (·.1) = (T.fld c).take ds.length ∧ IsL T ds (fs.map (·.2)) B
  | _ => False
theorem Cell.mono {T : Tab} {d : D} {a : Addr} {B B' H H' : Hp} (e : Ex B B') (k : ∀ o, H a = some o → NT o → H' a = some o) (h : Cell T d a B H) : Cell T d a B' H' := by
  cases d with
  | lst ds => obtain ⟨xs, h1, h2⟩ := h; exact ⟨xs, k _ h1 (fun _ z => (by cases z)), h2.mono e⟩
  | dct ds => obtain ⟨xs, h1, h2⟩ := h; exact ⟨xs, k _ h1 (fun _ z => (by cases z)), h2.mono e⟩
  | ins c ds => obtain ⟨dx, fs, h1, h2, h3⟩ := h; exact ⟨dx, fs, k _ h1 (fun _ z => (by cases z)), h2, h3.mono e⟩
  | _ => exact h.elim
theorem Cell.at {T : Tab} {d : D} {a : Addr} {B H : Hp} (h : Cell T d a B H) : ∃ o, H a = some o := by
  cases d with
  | lst ds => obtain ⟨xs, h1, h2⟩ := h; exact ⟨_, h1⟩
  | dct ds => obtain ⟨xs, h1, h2⟩ := h; exact ⟨_, h1⟩
  | ins c ds => obtain ⟨dx, fs, h1, h2, h3⟩ := h; exact ⟨_, h1⟩
  | _ => exact h.elim
theorem Cell.atX {T : Tab} {d : D} {a : Addr} {B H : Hp} (h : Cell T d a B H) : ∃ o, H a = some o ∧ NX o := by
  cases d with
  | lst ds => obtain ⟨xs, h1, h2⟩ := h; exact ⟨_, h1, ⟨fun _ z => (by cases z), fun _ z => (by cases z)⟩⟩
  | dct ds => obtain ⟨xs, h1, h2⟩ := h; exact ⟨_, h1, ⟨fun _ z => (by cases z), fun _ z => (by cases z)⟩⟩
  | ins c ds => obtain ⟨dx, fs, h1, h2, h3⟩ := h; exact ⟨_, h1, ⟨fun _ z => (by cases z), fun _ z => (by cases z)⟩⟩
  | _ => exact h.elim
/-- frozen: the cell goes into the ground -/
theorem Cell.is {T : Tab} {d : D} {a : Addr} {B H B' : Hp} (h : Cell T d a B H) (e : Ex B B') (k : ∀ o, H a = some o → B' a = some o) : Is T d (.ref a) B' := by
  cases d with
  | lst ds => obtain ⟨xs, h1, h2⟩ := h; exact is_lst.mpr ⟨a, xs, rfl, k _ h1, h2.mono e⟩
  | dct ds => obtain ⟨xs, h1, h2⟩ := h; exact is_dct.mpr ⟨a, xs, rfl, k _ h1, h2.mono e⟩
  | ins c ds => obtain ⟨dx, fs, h1, h2, h3⟩ := h; exact is_ins.mpr ⟨a, dx, fs, rfl, k _ h1, h2, h3.mono e⟩
  | _ => exact h.elim
/-- the top to be read in H, the parts in B -/
def Top (T : Tab) (d : D) (v : V) (B H : Hp) : Prop := Is T d v B ∨ ∃ a, v = .ref a ∧ Cell T d a B H
/-! ### frames -/
inductive Sl where
  | no | im (d : D) | ow (d : D) | io (d : D)
  deriving Inhabited
abbrev Env := List Sl
/-- a frame's entry -/
structure Fr0 where
  B : Hp
  H : Hp
  io : Nat → Option Addr
def Own (sl : Sl) : Option D := match sl with
  | .ow d => some d
  | .io d => some d
  | _ => none
def SlOk (T : Tab) (F : Fr0) (sl : Sl) (i : Nat) (σ : L2.St) (B H : Hp) : Prop := match sl with
  | .no => True
  | .im d => ∃ v, σ[i]? = some (some v) ∧ Is T d v B
  | .ow d => ∃ a, σ[i]? = some (some (.ref a)) ∧ B a = none ∧ F.H a = none ∧ Cell T d a B H
  | .io d => ∃ a, σ[i]? = some (some (.ref a)) ∧ B a = none ∧ F.io i = some a ∧ Cell T d a B H
structure Rel (T : Tab) (F : Fr0) (env : Env) (σ : L2.St) (B H : Hp) : Prop where
  len : env.length = σ.length
  exB : Ex B H
  tb : LamX.Tabs T.tabs H
  bN : NTs B
  b0 : Ex F.B B
  keep : ∀ b o, NT o → F.H b = some o → (∀ i, F.io i ≠ some b) → H b = some o
  dom : ∀ b, F.H b ≠ none → H b ≠ none
  fresh : ∀ b, B b ≠ none → F.B b ≠ none ∨ F.H b = none
  slot : ∀ (i : Nat) (sl : Sl), env[i]? = some sl → SlOk T F sl i σ B H
  nd : ∀ (i j : Nat) (si sj : Sl) (a : Addr), env[i]? = some si → env[j]? = some sj → (Own si).isSome = true → (Own sj).isSome = true → σ[i]? = some (some (V.ref a)) → σ[j]? = some (some (V.ref a)) → i = j
/-- the ground, the heap and the tables -/
abbrev G0 (T : Tab) (B H : Hp) : Prop := Ex B H ∧ LamX.Tabs T.tabs H ∧ NTs B
theorem Rel.g0 {T : Tab} {F : Fr0} {env : Env} {σ : L2.St} {B H : Hp} (R : Rel T F env σ B H) : G0 T B H := ⟨R.exB, R.tb, R.bN⟩
/-- more stands, nothing else has changed but at as -/
structure Stp (T : Tab) (as : List Addr) (B H B' H' : Hp) : Prop where
  b : Ex B B'
  h : ∀ x o, H x = some o → x ∉ as → NT o → H' x = some o
  e : Ex B' H'
  n : ∀ x, B' x ≠ none → B x ≠ none ∨ H x = none
  d : ∀ x, H x ≠ none → H' x ≠ none
  t : LamX.Tabs T.tabs H → LamX.Tabs T.tabs H'
  bN : NTs B → NTs B'
section
variable {T : Tab}
theorem Stp.refl {B H : Hp} (e : Ex B H) : Stp T [] B H B H := ⟨Evl.Ex.refl _, fun _ _ h _ _ => h, e, fun _ h => .inl h, fun _ h => h, id, id⟩
theorem Stp.exH {B H B' H' : Hp} (s : Stp T [] B H B' H') : ∀ x o, H x = some o → NT o → H' x = some o := fun x o h n => s.h x o h (by simp) n
theorem Stp.trans {B H B1 H1 B2 H2 : Hp} (a : Stp T [] B H B1 H1) (b : Stp T [] B1 H1 B2 H2) : Stp T [] B H B2 H2 :=
  ⟨a.b.trans b.b, fun x o h _ n => b.exH x o (a.exH x o h n) n, b.e, fun x h => by
    rcases b.n x h with h1 | h1
    · exact a.n x h1
    · right
      cases q : H x with
      | none => rfl
      | some o => exact absurd h1 (a.d x (by rw [q]; exact fun z => by cases z)), fun x h => b.d x (a.d x h), fun h => b.t (a.t h), fun h => b.bN (a.bN h)⟩
theorem upd_dom {H : Hp} {p x : Addr} {o : HO} (h : H x ≠ none) : upd H p o x ≠ none := by
  by_cases hx : x = p
  · subst hx; rw [upd_same]; exact fun z => by cases z
  · rw [upd_ne hx]; exact h
theorem upd_ext {H : Hp} {p : Addr} {o : HO} (hp : H p = none) : ∀ x u, H x = some u → upd H p o x = some u := fun x u h => by rw [upd_ne (ne_of_none h hp)]; exact h
theorem nts_upd {B : Hp} {a : Addr} {o : HO} (h : NTs B) (n : NT o) : NTs (upd B a o) := fun x u q => by
  by_cases hx : x = a
  · subst hx; rw [upd_same] at q; cases q; exact n
  · rw [upd_ne hx] at q; exact h x u q
/-- a new thing, known at once -/
theorem Stp.new {B H : Hp} {p : Addr} {o : HO} (e : Ex B H) (hp : H p = none) (hn : NT o := by intro _ z; cases z) : Stp T [] B H (upd B p o) (upd H p o) := by
  have hb : B p = none := by
    cases q : B p with
    | none => rfl
    | some u => rw [e _ _ q] at hp; cases hp
  refine ⟨Evl.Ex.new hb, fun x u h _ _ => upd_ext hp x u h, fun x u h => ?_, fun x h => ?_, fun x h => upd_dom h, fun t => t.ext (upd_ext hp), fun n x u h => ?_⟩
  · by_cases hx : x = p
    · subst hx; rw [upd_same] at h ⊢; exact h
    · rw [upd_ne hx] at h ⊢; exact e _ _ h
  · by_cases hx : x = p
    · subst hx; exact .inr hp
    · rw [upd_ne hx] at h; exact .inl h
  · by_cases hx : x = p
    · subst hx; rw [upd_same] at h; cases h; exact hn
    · rw [upd_ne hx] at h; exact n x u h
/-- a new thing, not known -/
theorem Stp.junk {B H : Hp} {p : Addr} {o : HO} (e : Ex B H) (hp : H p = none) : Stp T [] B H B (upd H p o) :=
  ⟨Evl.Ex.refl _, fun x u h _ _ => upd_ext hp x u h, fun x u h => upd_ext hp x u (e _ _ h), fun _ h => .inl h, fun x h => upd_dom h, fun t => t.ext (upd_ext hp), id⟩
end
theorem ex_none {B H : Hp} {a : Addr} (e : Ex B H) (h : H a = none) : B a = none := by
  cases q : B a with
  | none => rfl
  | some u => rw [e _ _ q] at h; cases h
section
variable {T : Tab} {F : Fr0} {env : Env} {σ : L2.St} {B H B' H' : Hp}
theorem SlOk.step {sl : Sl} {i : Nat} (s : Stp T [] B H B' H') (h : SlOk T F sl i σ B H) : SlOk T F sl i σ B' H' := by
  have nb : ∀ {a d}, B a = none → Cell T d a B H → B' a = none := fun {a d} h1 h2 => by
    obtain ⟨o, ho⟩ := h2.at
    cases q : B' a with
    | none => rfl
    | some u =>
      rcases s.n a (by rw [q]; exact fun z => by cases z) with z | z
      · exact absurd h1 z
      · rw [ho] at z; cases z
  cases sl with
  | no => trivial
  | im d => obtain ⟨v, h1, h2⟩ := h; exact ⟨v, h1, h2.mono s.b⟩
  | ow d => obtain ⟨a, h1, h2, h3, h4⟩ := h; exact ⟨a, h1, nb h2 h4, h3, h4.mono s.b fun o q n => s.exH _ _ q n⟩
  | io d => obtain ⟨a, h1, h2, h3, h4⟩ := h; exact ⟨a, h1, nb h2 h4, h3, h4.mono s.b fun o q n => s.exH _ _ q n⟩
theorem Stp.dom (s : Stp T [] B H B' H') {b : Addr} (h : H b ≠ none) : H' b ≠ none := s.d b h
theorem Rel.step (R : Rel T F env σ B H) (s : Stp T [] B H B' H') : Rel T F env σ B' H' :=
  ⟨R.len, s.e, s.t R.tb, s.bN R.bN, R.b0.trans s.b, fun b o n h1 h2 => s.exH _ _ (R.keep b o n h1 h2) n, fun b h => s.dom (R.dom b h), fun b h => by
    rcases s.n b h with z | z
    · exact R.fresh b z
    · right
      cases q2 : F.H b with
      | none => rfl
      | some o => exact absurd z (R.dom b (by rw [q2]; exact fun z => by cases z)), fun i sl h => (R.slot i sl h).step s, R.nd⟩
/-- a slot's content by its number -/
def getD (env : Env) (i : Nat) : Option D := match env[i]? with
  | some (.im d) => some d
  | some (.ow d) => some d
  | some (.io d) => some d
  | _ => none
theorem Rel.get {i : Nat} {d : D} (R : Rel T F env σ B H) (h : getD env i = some d) : ∃ v, σ[i]? = some (some v) ∧ Top T d v B H := by
  unfold getD at h
  split at h
  · rename_i d' e; cases h
    obtain ⟨v, h1, h2⟩ := R.slot i _ e
    exact ⟨v, h1, .inl h2⟩
  · rename_i d' e; cases h
    obtain ⟨a, h1, h2, h3, h4⟩ := R.slot i _ e
    exact ⟨_, h1, .inr ⟨a, rfl, h4⟩⟩
  · rename_i d' e; cases h
    obtain ⟨a, h1, h2, h3, h4⟩ := R.slot i _ e
    exact ⟨_, h1, .inr ⟨a, rfl, h4⟩⟩
  · cases h
/-- a slot is given a value that is known -/
theorem Rel.set {i : Nat} {d : D} {v : V} (R : Rel T F env σ B H) (h : Is T d v B) (hi : ∀ z, env[i]? ≠ some (.io z)) (hl : i < env.length) : Rel T F (env.set i (.im d)) (σ.set i (some v)) B H := by
  have hl2 : i < σ.length := by rw [← R.len]; exact hl
  refine ⟨by simp [R.len], R.exB, R.tb, R.bN, R.b0, R.keep, R.dom, R.fresh, fun j sl e => ?_, fun j k sj sk a ej ek oj ok cj ck => ?_⟩
  · by_cases hj : i = j
    · subst hj
      rw [List.getElem?_set_self hl] at e; cases e
      exact ⟨v, List.getElem?_set_self hl2, h⟩
    · rw [List.getElem?_set_ne hj] at e
      have q := R.slot j sl e
      have es : (σ.set i (some v))[j]? = σ[j]? := List.getElem?_set_ne hj
      cases sl with
      | no => trivial
      | im d => obtain ⟨v, h1, h2⟩ := q; exact ⟨v, es.trans h1, h2⟩
      | ow d => obtain ⟨a, h1, h2, h3, h4⟩ := q; exact ⟨a, es.trans h1, h2, h3, h4⟩
      | io d => obtain ⟨a, h1, h2, h3, h4⟩ := q; exact ⟨a, es.trans h1, h2, h3, h4⟩
  · have n : ∀ (j : Nat) (sj : Sl), (env.set i (.im d))[j]? = some sj → (Own sj).isSome = true → i ≠ j := fun j sj e o z => by
      subst z
      rw [List.getElem?_set_self hl] at e; cases e; cases o
    have nj := n j sj ej oj
    have nk := n k sk ek ok
    rw [List.getElem?_set_ne nj] at ej cj
    rw [List.getElem?_set_ne nk] at ek ck
    exact R.nd j k sj sk a ej ek oj ok cj ck
/-- a slot is given a new thing of its own -/
theorem Rel.setOw {i : Nat} {d : D} {a : Addr} (R : Rel T F env σ B H) (hB : B a = none) (hF : F.H a = none) (h : Cell T d a B H) (hn : ∀ (j : Nat) (sj : Sl), env[j]? = some sj → (Own sj).isSome = true → σ[j]? ≠ some (some (V.ref a)))
    (hi : ∀ z, env[i]? ≠ some (.io z)) (hl : i < env.length) : Rel T F (env.set i (.ow d)) (σ.set i (some (.ref a))) B H := by
  have hl2 : i < σ.length := by rw [← R.len]; exact hl
  refine ⟨by simp [R.len], R.exB, R.tb, R.bN, R.b0, R.keep, R.dom, R.fresh, fun j sl e => ?_, fun j k sj sk b ej ek oj ok cj ck => ?_⟩
  · by_cases hj : i = j
    · subst hj
      rw [List.getElem?_set_self hl] at e; cases e
      exact ⟨a, List.getElem?_set_self hl2, hB, hF, h⟩
    · rw [List.getElem?_set_ne hj] at e
      have q := R.slot j sl e
      have es : (σ.set i (some (V.ref a)))[j]? = σ[j]? := List.getElem?_set_ne hj
      cases sl with
      | no => trivial
      | im d => obtain ⟨v, h1, h2⟩ := q; exact ⟨v, es.trans h1, h2⟩
      | ow d => obtain ⟨a, h1, h2, h3, h4⟩ := q; exact ⟨a, es.trans h1, h2, h3, h4⟩
      | io d => obtain ⟨a, h1, h2, h3, h4⟩ := q; exact ⟨a, es.trans h1, h2, h3, h4⟩
  · by_cases hj : i = j
    · by_cases hk : i = k
      · rw [← hj, ← hk]
      · exfalso
        rw [List.getElem?_set_ne hk] at ek ck
        subst hj
        rw [List.getElem?_set_self hl2] at cj
        cases cj
        exact hn k sk ek ok ck
    · rw [List.getElem?_set_ne hj] at ej cj
      by_cases hk : i = k
      · exfalso
        subst hk
        rw [List.getElem?_set_self hl2] at ck
        cases ck
        exact hn j sj ej oj cj
      · rw [List.getElem?_set_ne hk] at ek ck
        exact R.nd j k sj sk b ej ek oj ok cj ck
/-- a new thing is in no slot -/
theorem Rel.notIn {a : Addr} (R : Rel T F env σ B H) (h : H a = none) : ∀ (j : Nat) (sj : Sl), env[j]? = some sj → (Own sj).isSome = true → σ[j]? ≠ some (some (V.ref a)) := fun j sj e o z => by
  have q := R.slot j sj e
  cases sj with
  | no => cases o
  | im d => cases o
  | ow d =>
    obtain ⟨b, h1, h2, h3, h4⟩ := q
    rw [z] at h1; cases h1
    obtain ⟨u, hu⟩ := h4.at
    rw [h] at hu; cases hu
  | io d =>
    obtain ⟨b, h1, h2, h3, h4⟩ := q
    rw [z] at h1; cases h1
    obtain ⟨u, hu⟩ := h4.at
    rw [h] at hu; cases hu
theorem Rel.freeF {a : Addr} (R : Rel T F env σ B H) (h : H a = none) : F.H a = none := by
  cases q : F.H a with
  | none => rfl
  | some o => exact absurd h (R.dom a (by rw [q]; exact fun z => by cases z))
end
end Ml
set_option maxRecDepth 100000
set_option maxHeartbeats 2000000
namespace Ml
open PySem PySem.Spec PyProof.Rows L2
/-! ### outcomes -/
inductive Out (α : Type) where
  | ok (a : α) (e : Env)
  | ex (c : Nat) (fs : List D) (e : Env)
  | stuck
def Out.wp {α : Type} (x : Out α) (φ : α → Env → Prop) (ψ : Nat → List D → Env → Prop) : Prop := match x with
  | .ok a e => φ a e
  | .ex c fs e => ψ c fs e
  | .stuck => False
def Out.bind {α β : Type} (x : Out α) (f : α → Env → Out β) : Out β := match x with
  | .ok a e => f a e
  | .ex c fs e => .ex c fs e
  | .stuck => .stuck
theorem Out.wp_bind {α β : Type} {x : Out α} {f : α → Env → Out β} {φ : β → Env → Prop} {ψ : Nat → List D → Env → Prop} : (x.bind f).wp φ ψ ↔ x.wp (fun a e => (f a e).wp φ ψ) ψ := by
  cases x <;> exact Iff.rfl
theorem Out.wp_mono {α : Type} {x : Out α} {φ φ' : α → Env → Prop} {ψ ψ' : Nat → List D → Env → Prop} (h : x.wp φ ψ) (h1 : ∀ a e, φ a e → φ' a e) (h2 : ∀ c fs e, ψ c fs e → ψ' c fs e) : x.wp φ' ψ' := by
  cases x with
  | ok a e => exact h1 a e h
  | ex c fs e => exact h2 c fs e h
  | stuck => exact h
inductive OS where
  | nx (e : Env) | rt (d : D) (e : Env) | rn (d : D) (e : Env) | bk (e : Env) | ct (e : Env)
  | ex (c : Nat) (fs : List D) (e : Env)
  | stuck
/-- the ends that a statement's outcome is asked for -/
structure SEnds where
  nx : Env → Prop
  rt : D → Env → Prop
  rn : D → Env → Prop
  bk : Env → Prop
  ct : Env → Prop
  ex : Nat → List D → Env → Prop
def OS.wp (x : OS) (φ : SEnds) : Prop := match x with
  | .nx e => φ.nx e
  | .rt d e => φ.rt d e
  | .rn d e => φ.rn d e
  | .bk e => φ.bk e
  | .ct e => φ.ct e
  | .ex c fs e => φ.ex c fs e
  | .stuck => False
theorem OS.wp_mono {x : OS} {φ φ' : SEnds} (h : x.wp φ) (h1 : ∀ e, φ.nx e → φ'.nx e) (h2 : ∀ d e, φ.rt d e → φ'.rt d e) (h2n : ∀ d e, φ.rn d e → φ'.rn d e) (h3 : ∀ e, φ.bk e → φ'.bk e) (h4 : ∀ e, φ.ct e → φ'.ct e) (h5 : ∀ c fs e, φ.ex c fs e → φ'.ex c fs e) : x.wp φ' := by
  cases x with
  | nx e => exact h1 e h
  | rt d e => exact h2 d e h
  | rn d e => exact h2n d e h
  | bk e => exact h3 e h
  | ct e => exact h4 e h
  | ex c fs e => exact h5 c fs e h
  | stuck => exact h
/-- an expression's outcome, then a statement's -/
def Out.bindS {α : Type} (x : Out α) (f : α → Env → OS) : OS := match x with
  | .ok a e => f a e
  | .ex c fs e => .ex c fs e
  | .stuck => .stuck
theorem Out.wp_bindS {α : Type} {x : Out α} {f : α → Env → OS} {φ : SEnds} : (x.bindS f).wp φ ↔ x.wp (fun a e => (f a e).wp φ) φ.ex := by
  cases x <;> exact Iff.rfl
abbrev ME := Env → Out D
abbrev MT := Env → Out Bool
abbrev MA := Env → Out (List D)
abbrev MS := Env → OS
/-- a place or a value -/
inductive PV where
  | v (x : D) | sl (i : Nat)
abbrev MP := Env → Out PV
def PV.get (env : Env) : PV → Option D
  | .v x => some x
  | .sl i => getD env i
/-- an exception of the text: its class, its fields, its own dict -/
def IsX (T : Tab) (c : Nat) (fs : List D) (dd : Addr) (B : Hp) : Prop :=
  ∃ ws vs, B dd = some (.xd ws) ∧ fs.length = (T.fld c).length ∧ (∀ (i : Nat) (f : Str) (w : V), (T.fld c)[i]? = some f → vs[i]? = some w → ws.lookup f = some w) ∧ IsL T fs vs B
section
variable (T : Tab) (F : Fr0) (W : XK)
def exP (B : Hp) : Nat → List D → Env → Prop := fun c fs env' => ∀ dd σ' B' H', Rel T F env' σ' B' H' → Ex B B' → IsX T c fs dd B' → W (.ref (T.adr c)) (some dd) H'
/-- .. in an expression the slots stay -/
def exPs (B : Hp) (σ : L2.St) : Nat → List D → Env → Prop := fun c fs env' => ∀ dd B' H', Rel T F env' σ B' H' → Ex B B' → IsX T c fs dd B' → W (.ref (T.adr c)) (some dd) H'
def tOf (m : ME) : TE := fun σ H Q => ∃ env B, Rel T F env σ B H ∧ (m env).wp (fun d env' => ∀ v B' H', Rel T F env' σ B' H' → Ex B B' → Is T d v B' → Q v H') (exPs T F W B σ)
def tOfT (m : MT) : TT := fun σ H Q => ∃ env B, Rel T F env σ B H ∧ (m env).wp (fun b env' => ∀ B' H', Rel T F env' σ B' H' → Ex B B' → Q b H') (exPs T F W B σ)
def tOfA (m : MA) : TA := fun σ H Q => ∃ env B, Rel T F env σ B H ∧ (m env).wp (fun ds env' => ∀ vs B' H', Rel T F env' σ B' H' → Ex B B' → IsL T ds vs B' → Q vs H') (exPs T F W B σ)
/-- the value of a place is what its slot holds -/
def PvOk (pv : PV) (v : V) (σ : L2.St) (B : Hp) : Prop := match pv with
  | .v x => Is T x v B
  | .sl i => σ[i]? = some (some v)
def tOfP (m : MP) : TE := fun σ H Q => ∃ env B, Rel T F env σ B H ∧ (m env).wp (fun pv env' => ∀ v B' H', Rel T F env' σ B' H' → Ex B B' → PvOk T pv v σ B' → Q v H') (exPs T F W B σ)
def sEnds (D : Ends) (σ : L2.St) (B : Hp) : SEnds where
  nx := fun env' => ∀ σ' B' H', Rel T F env' σ' B' H' → Ex B B' → D.nx σ' H'
  rt := fun d env' => ∀ v σ' B' H', Rel T F env' σ' B' H' → Ex B B' → Is T d v B' → D.rt v H'
  rn := fun d env' => ∀ a σ' B' H', Rel T F env' σ' B' H' → Ex B B' → B' a = none → F.H a = none → Cell T d a B' H' → D.rt (.ref a) H'
  bk := fun env' => ∀ σ' B' H', Rel T F env' σ' B' H' → Ex B B' → D.bk σ' H'
  ct := fun env' => ∀ σ' B' H', Rel T F env' σ' B' H' → Ex B B' → D.ct σ' H'
  ex := exP T F W B
/-- a new thing of its own -/
def NotIn (env : Env) (σ : L2.St) (a : Addr) : Prop := ∀ (j : Nat) (sj : Sl), env[j]? = some sj → (Own sj).isSome = true → σ[j]? ≠ some (some (V.ref a))
def tOfN (m : ME) : TE := fun σ H Q => ∃ env B, Rel T F env σ B H ∧ (m env).wp (fun d env' => ∀ a B' H', Rel T F env' σ B' H' → Ex B B' → B' a = none → F.H a = none → NotIn env' σ a → Cell T d a B' H' → Q (.ref a) H') (exPs T F W B σ)
def tOfS (m : MS) : TS := fun D σ H => ∃ env B, Rel T F env σ B H ∧ (m env).wp (sEnds T F W D σ B)
end
/-- what is raised here, or below, is wished for by W -/
structure Lets (X : Cx) (W : XK) : Prop where
  ps : Passes (L2.CX X.prog X.w) X W
  tk : Takes X (fun c d _ H => W c d H)
  own : PassesOwn (model X.prog X.w) X.A X.env X.xe
/-! ### judgements: a piece of syntax and its mirror -/
def TrE (X : Cx) (T : Tab) (e : Expr) (m : ME) : Prop := ∀ (F : Fr0) (W : XK), Lets X W → PE X e (tOf T F W m)
def TrP (X : Cx) (T : Tab) (e : Expr) (m : MP) : Prop := ∀ (F : Fr0) (W : XK), Lets X W → PE X e (tOfP T F W m)
def TrT (X : Cx) (T : Tab) (e : Expr) (m : MT) : Prop := ∀ (F : Fr0) (W : XK), Lets X W → PT X e (tOfT T F W m)
def TrA (X : Cx) (T : Tab) (es : List Expr) (m : MA) : Prop := ∀ (F : Fr0) (W : XK), Lets X W → PA X es (tOfA T F W m)
def TrN (X : Cx) (T : Tab) (e : Expr) (m : ME) : Prop := ∀ (F : Fr0) (W : XK), Lets X W → PE X e (tOfN T F W m)
def TrS (X : Cx) (T : Tab) (st : Stmt) (m : MS) : Prop := ∀ (F : Fr0) (W : XK), Lets X W → PS X st (tOfS T F W m)
def TrB (X : Cx) (T : Tab) (st : List Stmt) (m : MS) : Prop := ∀ (F : Fr0) (W : XK), Lets X W → PSs X st (tOfS T F W m)
theorem pe_imp {X : Cx} {e : Expr} {t t' : TE} (h : PE X e t) (i : ∀ σ H Q, t' σ H Q → t σ H Q) : PE X e t' := ⟨fun pins s σ H Q I q => h.run pins s σ H Q I (i σ H Q q)⟩
theorem pt_imp {X : Cx} {e : Expr} {t t' : TT} (h : PT X e t) (i : ∀ σ H Q, t' σ H Q → t σ H Q) : PT X e t' := ⟨fun pins s σ H Q I q => h.run pins s σ H Q I (i σ H Q q)⟩
theorem pw_imp {X : Cx} {e : Expr} {t t' : TT} (h : PW X e t) (i : ∀ σ H Q, t' σ H Q → t σ H Q) : PW X e t' := ⟨fun wh pins s σ H Q I q => h.run wh pins s σ H Q I (i σ H Q q)⟩
theorem pa_imp {X : Cx} {e : List Expr} {t t' : TA} (h : PA X e t) (i : ∀ σ H Q, t' σ H Q → t σ H Q) : PA X e t' := ⟨fun pos pins s σ H Q I q => h.run pos pins s σ H Q I (i σ H Q q)⟩
theorem ps_imp {X : Cx} {e : Stmt} {t t' : TS} (h : PS X e t) (i : ∀ D σ H, t' D σ H → t D σ H) : PS X e t' := ⟨fun pins s σ H D I q => h.run pins s σ H D I (i D σ H q)⟩
theorem pss_imp {X : Cx} {e : List Stmt} {t t' : TS} (h : PSs X e t) (i : ∀ D σ H, t' D σ H → t D σ H) : PSs X e t' := ⟨fun pins s σ H D I q => h.run pins s σ H D I (i D σ H q)⟩
section
variable {T : Tab} {F : Fr0} {W : XK} {σ : L2.St} {B B' H H' : Hp}
theorem exPs.mono (e : Ex B B') {c : Nat} {fs : List D} {env : Env} (h : exPs T F W B σ c fs env) : exPs T F W B' σ c fs env := fun dd B2 H2 R x i => h dd B2 H2 R (e.trans x) i
theorem exP.to {c : Nat} {fs : List D} {env : Env} (h : exP T F W B c fs env) : exPs T F W B σ c fs env := fun dd B2 H2 R x i => h dd σ B2 H2 R x i
theorem exP.mono (e : Ex B B') {c : Nat} {fs : List D} {env : Env} (h : exP T F W B c fs env) : exP T F W B' c fs env := fun dd σ2 B2 H2 R x i => h dd σ2 B2 H2 R (e.trans x) i
/-- into a piece: from the mirror's outcome there -/
theorem tOf.intro {m : ME} {env : Env} {Q : VK} (R : Rel T F env σ B H) (B0 : Hp) (e0 : Ex B0 B) (h : (m env).wp (fun d env' => ∀ v B' H', Rel T F env' σ B' H' → Ex B B' → Is T d v B' → Q v H') (exPs T F W B0 σ)) : tOf T F W m σ H Q :=
  ⟨env, B, R, Out.wp_mono h (fun _ _ x => x) fun _ _ _ x => x.mono e0⟩
end
end Ml
set_option maxRecDepth 100000
set_option maxHeartbeats 2000000
namespace Ml
open PySem PySem.Spec PyProof.Rows L2
section
variable {T : Tab} {F : Fr0} {W : XK} {σ : L2.St} {B B' H H' : Hp} {env : Env}
theorem pv_top {p : PV} {v : V} {d : D} (R : Rel T F env σ B' H') (h : PvOk T p v σ B) (e : Ex B B') (g : p.get env = some d) : Top T d v B' H' := by
  cases p with
  | v x => cases g; exact .inl (Is.mono e h)
  | sl i =>
    obtain ⟨w, h1, h2⟩ := R.get g
    have h' : σ[i]? = some (some v) := h
    rw [h'] at h1; cases h1
    exact h2
/-- a slot's own thing goes into the ground -/
theorem Rel.freeze {i : Nat} {d : D} (R : Rel T F env σ B H) (h : env[i]? = some (.ow d)) : ∃ v B', Rel T F (env.set i (.im d)) σ B' H ∧ Ex B B' ∧ σ[i]? = some (some v) ∧ Is T d v B' := by
  obtain ⟨a, h1, h2, h3, h4⟩ := R.slot i _ h
  obtain ⟨o, ho, nx⟩ := h4.atX
  have hl : i < env.length := (List.getElem?_eq_some_iff.mp h).1
  have eB : Ex B (upd B a o) := Evl.Ex.new h2
  have is : Is T d (.ref a) (upd B a o) := h4.is eB fun u q => by rw [ho] at q; cases q; exact upd_same
  have eH : Ex (upd B a o) H := fun x u q => by
    by_cases hx : x = a
    · subst hx; rw [upd_same] at q; cases q; exact ho
    · rw [upd_ne hx] at q; exact R.exB _ _ q
  refine ⟨.ref a, upd B a o, ⟨by simp [R.len], eH, R.tb, nts_upd R.bN nx.1, R.b0.trans eB, R.keep, R.dom, fun b q => ?_, fun j sl e => ?_, fun j k sj sk b ej ek oj ok cj ck => ?_⟩, eB, h1, is⟩
  · by_cases hb : b = a
    · subst hb; exact .inr h3
    · rw [upd_ne hb] at q; exact R.fresh b q
  · by_cases hj : i = j
    · subst hj
      rw [List.getElem?_set_self hl] at e; cases e
      exact ⟨_, h1, is⟩
    · rw [List.getElem?_set_ne hj] at e
      have q := R.slot j sl e
      cases sl with
      | no => trivial
      | im d => obtain ⟨v, q1, q2⟩ := q; exact ⟨v, q1, q2.mono eB⟩
      | ow d' =>
        obtain ⟨b, q1, q2, q3, q4⟩ := q
        have nb : b ≠ a := fun z => by subst z; exact hj (R.nd i j _ _ b h e rfl rfl h1 q1)
        exact ⟨b, q1, by rw [upd_ne nb]; exact q2, q3, q4.mono eB fun _ z _ => z⟩
      | io d' =>
        obtain ⟨b, q1, q2, q3, q4⟩ := q
        have nb : b ≠ a := fun z => by subst z; exact hj (R.nd i j _ _ b h e rfl rfl h1 q1)
        exact ⟨b, q1, by rw [upd_ne nb]; exact q2, q3, q4.mono eB fun _ z _ => z⟩
  · have n : ∀ (j : Nat) (sj : Sl), (env.set i (.im d))[j]? = some sj → (Own sj).isSome = true → i ≠ j := fun j sj e o z => by
      subst z
      rw [List.getElem?_set_self hl] at e; cases e; cases o
    have nj := n j sj ej oj
    have nk := n k sk ek ok
    rw [List.getElem?_set_ne nj] at ej
    rw [List.getElem?_set_ne nk] at ek
    exact R.nd j k sj sk b ej ek oj ok cj ck
end
/-! ### constants, names -/
section
variable {X : Cx} {T : Tab} {e e1 e2 : Expr} {pos : Pos}
def mC (d : D) : ME := fun env => .ok d env
theorem trE_c {d : D} {v : V} (h : PE X e (tC v)) (i : ∀ H, Is T d v H) : TrE X T e (mC d) := fun F W tk => pe_imp h fun σ H Q ⟨env, B, R, q⟩ => q v B H R (Evl.Ex.refl _) (i B)
theorem trE_int {i : Int} {j : Nat} : TrE X T (.Constant (.int i) j pos) (mC (.int i)) := trE_c pe_int fun _ => is_int.mpr rfl
theorem trE_bl {b : Bool} {j : Nat} : TrE X T (.Constant (.bool b) j pos) (mC (.bl b)) := trE_c pe_bl fun _ => is_bl.mpr rfl
theorem trE_non {j : Nat} : TrE X T (.Constant .none j pos) (mC .non) := trE_c pe_non fun _ => is_non.mpr rfl
theorem trE_str {x : Str} {j : Nat} : TrE X T (.Constant (.str x) j pos) (mC (.str x)) := trE_c pe_str fun _ => is_str.mpr rfl
theorem trE_glob {x : Str} {d : D} {v : V} {u : Value} (hg : Gl X x) (hm : X.mg x = some u) (r : RelV v u) (i : ∀ H, Is T d v H) (hd : (x == ("__debug__" : Str)) = false := by decide) : TrE X T (.Name x pos) (mC d) := trE_c (pe_glob hg hm r hd) i
/-- a name's value, to be kept -/
def mV (i : Nat) : ME := fun env => match env[i]? with
  | some (.im d) => .ok d env
  | some (.ow d) => .ok d (env.set i (.im d))
  | _ => .stuck
theorem trE_v (i : Nat) {x : Str} (hN : X.N[i]? = some x := by rfl) (hv : Vis X.env.scope x := by first | exact Or.inl rfl | exact Or.inr (Or.inl rfl) | exact Or.inr (Or.inr rfl)) (hd : (x == ("__debug__" : Str)) = false := by decide)
    (hcd : (x == ("__classdict__" : Str)) = false := by decide) : TrE X T (.Name x pos) (mV i) := fun F W tk => pe_imp (pe_var hN hv hd hcd) fun σ H Q ⟨env, B, R, q⟩ => by
  unfold mV at q
  split at q
  · rename_i d h
    obtain ⟨v, h1, h2⟩ := R.slot i _ h
    exact ⟨v, h1, q v B H R (Evl.Ex.refl _) h2⟩
  · rename_i d h
    obtain ⟨v, B', R', e', h1, h2⟩ := R.freeze h
    exact ⟨v, h1, q v B' H R' e' h2⟩
  · exact q.elim
/-- a name as a place -/
def mPl (i : Nat) : MP := fun env => match getD env i with
  | some _ => .ok (.sl i) env
  | none => .stuck
theorem trP_v (i : Nat) {x : Str} (hN : X.N[i]? = some x := by rfl) (hv : Vis X.env.scope x := by first | exact Or.inl rfl | exact Or.inr (Or.inl rfl) | exact Or.inr (Or.inr rfl)) (hd : (x == ("__debug__" : Str)) = false := by decide)
    (hcd : (x == ("__classdict__" : Str)) = false := by decide) : TrP X T (.Name x pos) (mPl i) := fun F W tk => pe_imp (pe_var hN hv hd hcd) fun σ H Q ⟨env, B, R, q⟩ => by
  unfold mPl at q
  split at q
  · rename_i d h
    obtain ⟨v, h1, h2⟩ := R.get h
    exact ⟨v, h1, q v B H R (Evl.Ex.refl _) h1⟩
  · exact q.elim
def mP (m : ME) : MP := fun env => (m env).bind fun d env' => .ok (.v d) env'
theorem trP_e {m : ME} (h : TrE X T e m) : TrP X T e (mP m) := fun F W tk => pe_imp (h F W tk) fun σ H Q ⟨env, B, R, q⟩ => ⟨env, B, R, by
  have q2 := Out.wp_bind.mp q
  exact Out.wp_mono q2 (fun d env' z => z) fun _ _ _ z => z⟩
/-! ### operations -/
def ofO (o : Option D) (env : Env) : Out D := match o with
  | some d => .ok d env
  | none => .stuck
theorem ofO_wp {o : Option D} {env : Env} {φ : D → Env → Prop} {ψ : Nat → List D → Env → Prop} (h : (ofO o env).wp φ ψ) : ∃ d, o = some d ∧ φ d env := by
  unfold ofO at h
  split at h
  · exact ⟨_, rfl, h⟩
  · exact h.elim
def op1 (f : D → Option D) (m : MP) : ME := fun env => (m env).bind fun p env1 => ofO ((p.get env1).bind f) env1
def op2 (f : D → D → Option D) (m1 m2 : MP) : ME := fun env => (m1 env).bind fun p env1 => (m2 env1).bind fun q env2 => ofO ((p.get env2).bind fun a => (q.get env2).bind fun b => f a b) env2
/-- a rule on values does what f says -/
def Ok1 (T : Tab) (f : D → Option D) (r : V → Hp → VK → Prop) : Prop := ∀ (a d : D) (x : V) (B H : Hp) (Q : VK), Ex B H → Top T a x B H → f a = some d → (∀ v B' H', Stp T [] B H B' H' → Is T d v B' → Q v H') → r x H Q
def Ok2 (T : Tab) (f : D → D → Option D) (r : R2) : Prop := ∀ (a b d : D) (x y : V) (B H : Hp) (Q : VK), Ex B H → Top T a x B H → Top T b y B H → f a b = some d → (∀ v B' H', Stp T [] B H B' H' → Is T d v B' → Q v H') → r x y H Q
theorem tOf_op2 {F : Fr0} {W : XK} {f : D → D → Option D} {m1 m2 : MP} {r : R2} (hr : Ok2 T f r) {σ : L2.St} {H : Hp} {Q : VK} (h : tOf T F W (op2 f m1 m2) σ H Q) : tOp r (tOfP T F W m1) (tOfP T F W m2) σ H Q := by
  obtain ⟨env, B, R, q⟩ := h
  refine ⟨env, B, R, Out.wp_mono (Out.wp_bind.mp q) (fun p env1 q1 => ?_) fun _ _ _ z => z⟩
  intro v1 B1 H1 R1 e1 p1
  refine ⟨env1, B1, R1, Out.wp_mono (Out.wp_bind.mp q1) (fun p2 env2 q2 => ?_) fun _ _ _ z => z.mono e1⟩
  intro v2 B2 H2 R2 e2 p2'
  obtain ⟨d, hd, q3⟩ := ofO_wp q2
  obtain ⟨a, ha, hd⟩ := Option.bind_eq_some_iff.mp hd
  obtain ⟨b, hb, hd⟩ := Option.bind_eq_some_iff.mp hd
  exact hr a b d v1 v2 B2 H2 Q R2.exB (pv_top R2 p1 e2 ha) (pv_top R2 p2' (Evl.Ex.refl _) hb) hd fun v B' H' s is => q3 v B' H' (R2.step s) ((e1.trans e2).trans s.b) is
theorem tOf_op1 {F : Fr0} {W : XK} {f : D → Option D} {m1 : MP} {r : V → Hp → VK → Prop} (hr : Ok1 T f r) {σ : L2.St} {H : Hp} {Q : VK} (h : tOf T F W (op1 f m1) σ H Q) : tUn r (tOfP T F W m1) σ H Q := by
  obtain ⟨env, B, R, q⟩ := h
  refine ⟨env, B, R, Out.wp_mono (Out.wp_bind.mp q) (fun p env1 q1 => ?_) fun _ _ _ z => z⟩
  intro v1 B1 H1 R1 e1 p1
  obtain ⟨d, hd, q3⟩ := ofO_wp q1
  obtain ⟨a, ha, hd⟩ := Option.bind_eq_some_iff.mp hd
  exact hr a d v1 B1 H1 Q R1.exB (pv_top R1 p1 (Evl.Ex.refl _) ha) hd fun v B' H' s is => q3 v B' H' (R1.step s) (e1.trans s.b) is
theorem trE_bin {op : Operator} {r : R2} {f : D → D → Option D} {m1 m2 : MP} (ho : OpR X (binaryOp op) r) (hr : Ok2 T f r) (h1 : TrP X T e1 m1) (h2 : TrP X T e2 m2) : TrE X T (.BinOp e1 op e2 pos) (op2 f m1 m2) :=
  fun F W tk => pe_imp (pe_op ho (h1 F W tk) (h2 F W tk)) fun _ _ _ => tOf_op2 hr
theorem trE_cmp {op : CmpOp} {r : R2} {f : D → D → Option D} {m1 m2 : MP} (ho : OpR X (compareOp op) r) (hr : Ok2 T f r) (hm : behindInMarks op e2 = false) (h1 : TrP X T e1 m1) (h2 : TrP X T e2 m2) : TrE X T (.Compare e1 [op] [e2] pos) (op2 f m1 m2) :=
  fun F W tk => pe_imp (pe_cmpR ho (h1 F W tk) (h2 F W tk) hm) fun _ _ _ => tOf_op2 hr
theorem trE_un {op : UnaryOp} {r : V → Hp → VK → Prop} {f : D → Option D} {m1 : MP} (ho : UnR X (unaryOp op) r) (hr : Ok1 T f r) (h1 : TrP X T e1 m1) : TrE X T (.UnaryOp op e1 pos) (op1 f m1) :=
  fun F W tk => pe_imp (pe_un ho (h1 F W tk)) fun _ _ _ => tOf_op1 hr
/-! sums of rules -/
def oOr (f g : D → D → Option D) : D → D → Option D := fun a b => match f a b with
  | some d => some d
  | none => g a b
theorem Ok2.or {f g : D → D → Option D} {r s : R2} (h : Ok2 T f r) (k : Ok2 T g s) : Ok2 T (oOr f g) (fun x y H Q => r x y H Q ∨ s x y H Q) := fun a b d x y B H Q e ta tb hf q => by
  unfold oOr at hf
  split at hf
  · rename_i d' hd; cases hf; exact .inl (h a b _ x y B H Q e ta tb hd q)
  · exact .inr (k a b d x y B H Q e ta tb hf q)
theorem top_int {i : Int} {v : V} {B H : Hp} (h : Top T (.int i) v B H) : v = .int i := by
  rcases h with h | ⟨a, _, h⟩
  · exact is_int.mp h
  · exact h.elim
theorem top_str {i : Str} {v : V} {B H : Hp} (h : Top T (.str i) v B H) : v = .str i := by
  rcases h with h | ⟨a, _, h⟩
  · exact is_str.mp h
  · exact h.elim
theorem top_bl {i : Bool} {v : V} {B H : Hp} (h : Top T (.bl i) v B H) : v = .bl i := by
  rcases h with h | ⟨a, _, h⟩
  · exact is_bl.mp h
  · exact h.elim
theorem top_non {v : V} {B H : Hp} (h : Top T .non v B H) : v = .non := by
  rcases h with h | ⟨a, _, h⟩
  · exact is_non.mp h
  · exact h.elim
/-- two ints -/
def fI (C : Int → Int → Bool) (g : Int → Int → D) : D → D → Option D
  | .int i, .int j => if C i j then some (g i j) else none
  | _, _ => none
theorem ok2_I {C : Int → Int → Prop} {Cb : Int → Int → Bool} {g : Int → Int → V} {gD : Int → Int → D} (hC : ∀ i j, Cb i j = true → C i j) (hg : ∀ i j H, Is T (gD i j) (g i j) H) : Ok2 T (fI Cb gD) (rI C g) := fun a b d x y B H Q e ta tb hf q => by
  unfold fI at hf
  split at hf
  · split at hf
    · rename_i i j c
      cases hf
      exact ⟨i, j, top_int ta, top_int tb, hC i j c, q _ B H (Stp.refl e) (hg i j B)⟩
    · cases hf
  · cases hf
theorem ok2_I0 {g : Int → Int → V} {gD : Int → Int → D} (hg : ∀ i j H, Is T (gD i j) (g i j) H) : Ok2 T (fI (fun _ _ => true) gD) (rI0 g) := fun a b d x y B H Q e ta tb hf q => by
  unfold fI at hf
  split at hf
  · split at hf
    · rename_i i j c
      cases hf
      exact ⟨i, j, top_int ta, top_int tb, q _ B H (Stp.refl e) (hg i j B)⟩
    · cases hf
  · cases hf
abbrev fAddI := fI (fun _ _ => true) fun i j => .int (i + j)
abbrev fSubI := fI (fun _ _ => true) fun i j => .int (i - j)
abbrev fMulI := fI (fun i j => decide (i.natAbs.log2 + j.natAbs.log2 < 1000000)) fun i j => .int (i * j)
abbrev fDivI := fI (fun _ j => decide (0 < j) && decide (j.natAbs.log2 < 9000)) fun i j => .int (i / j)
abbrev fModI := fI (fun _ j => decide (j ≠ 0)) fun i j => .int (i.fmod j)
abbrev fPowI := fI (fun i j => decide (0 ≤ j) && decide (j ≤ 1000000) && decide (i.natAbs < 2 ^ 64)) fun i j => .int (i ^ j.toNat)
abbrev fLtI := fI (fun _ _ => true) fun i j => .bl (decide (i < j))
abbrev fLeI := fI (fun _ _ => true) fun i j => .bl (decide (i ≤ j))
abbrev fGtI := fI (fun _ _ => true) fun i j => .bl (decide (j < i))
abbrev fGeI := fI (fun _ _ => true) fun i j => .bl (decide (j ≤ i))
theorem ok_addI : Ok2 T fAddI (rI0 fun i j => .int (i + j)) := ok2_I0 fun _ _ _ => is_int.mpr rfl
theorem ok_subI : Ok2 T fSubI (rI0 fun i j => .int (i - j)) := ok2_I0 fun _ _ _ => is_int.mpr rfl
theorem ok_mulI : Ok2 T fMulI (rI CMulW fun i j => .int (i * j)) := ok2_I (fun i j h => show CMulW i j from (of_decide_eq_true h : i.natAbs.log2 + j.natAbs.log2 < 1000000)) fun _ _ _ => is_int.mpr rfl
theorem ok_divI : Ok2 T fDivI (rI CDivW fun i j => .int (i / j)) := ok2_I (fun _ _ h => by simp at h; exact h) fun _ _ _ => is_int.mpr rfl
theorem ok_modI : Ok2 T fModI (rI (fun _ j => j ≠ 0) fun i j => .int (i.fmod j)) := ok2_I (fun _ _ h => of_decide_eq_true h) fun _ _ _ => is_int.mpr rfl
theorem ok_powI : Ok2 T fPowI (rI CPow fun i j => .int (i ^ j.toNat)) := ok2_I (fun _ _ h => by simp at h; exact ⟨h.1.1, h.1.2, h.2⟩) fun _ _ _ => is_int.mpr rfl
theorem ok_ltI : Ok2 T fLtI (rI0 fun i j => .bl (decide (i < j))) := ok2_I0 fun _ _ _ => is_bl.mpr rfl
theorem ok_leI : Ok2 T fLeI (rI0 fun i j => .bl (decide (i ≤ j))) := ok2_I0 fun _ _ _ => is_bl.mpr rfl
theorem ok_gtI : Ok2 T fGtI (rI0 fun i j => .bl (decide (j < i))) := ok2_I0 fun _ _ _ => is_bl.mpr rfl
theorem ok_geI : Ok2 T fGeI (rI0 fun i j => .bl (decide (j ≤ i))) := ok2_I0 fun _ _ _ => is_bl.mpr rfl
/-- is None -/
def isNon : D → Bool
  | .non => true
  | _ => false
def fIsN : D → D → Option D
  | d, .non => some (.bl (isNon d))
  | _, _ => none
theorem top_ref {d : D} {v : V} {B H : Hp} (h : Top T d v B H) : (v = .non ↔ d = .non) := by
  rcases h with h | ⟨a, rfl, h⟩
  · cases d <;> unfold Is at h
    case non => exact ⟨fun _ => rfl, fun _ => h⟩
    case tup => obtain ⟨a, xs, rfl, _⟩ := h; exact ⟨(fun z => by cases z), (fun z => by cases z)⟩
    case lst => obtain ⟨a, xs, rfl, _⟩ := h; exact ⟨(fun z => by cases z), (fun z => by cases z)⟩
    case dct => obtain ⟨a, xs, rfl, _⟩ := h; exact ⟨(fun z => by cases z), (fun z => by cases z)⟩
    case ins => obtain ⟨a, dx, fs, rfl, _⟩ := h; exact ⟨(fun z => by cases z), (fun z => by cases z)⟩
    case rdl => obtain ⟨a, xs, rfl, _⟩ := h; exact ⟨(fun z => by cases z), (fun z => by cases z)⟩
    case xc => obtain ⟨rfl, _⟩ := h; exact ⟨(fun z => by cases z), (fun z => by cases z)⟩
    all_goals (subst h; exact ⟨(fun z => by cases z), (fun z => by cases z)⟩)
  · cases d <;> first | exact h.elim | exact ⟨(fun z => by cases z), (fun z => by cases z)⟩
theorem isN_eq {d : D} {v : V} {B H : Hp} (h : Top T d v B H) : decide (v = .non) = isNon d := by
  have q := top_ref h
  by_cases c : v = .non
  · rw [decide_eq_true c, q.mp c]; rfl
  · rw [decide_eq_false c]
    cases d <;> first | rfl | exact absurd (q.mpr rfl) c
theorem ok_isN : Ok2 T fIsN (fun x y H Q => y = .non ∧ Q (.bl (decide (x = .non))) H) := fun a b d x y B H Q e ta tb hf q => by
  unfold fIsN at hf
  split at hf
  · cases hf
    exact ⟨top_non tb, q _ B H (Stp.refl e) (is_bl.mpr (by rw [isN_eq ta]))⟩
  · cases hf
def fNotN : D → D → Option D
  | d, .non => some (.bl (!isNon d))
  | _, _ => none
theorem ok_notN : Ok2 T fNotN (fun x y H Q => y = .non ∧ Q (.bl (!decide (x = .non))) H) := fun a b d x y B H Q e ta tb hf q => by
  unfold fNotN at hf
  split at hf
  · cases hf
    exact ⟨top_non tb, q _ B H (Stp.refl e) (is_bl.mpr (by rw [isN_eq ta]))⟩
  · cases hf
end
end Ml
set_option maxRecDepth 100000
set_option maxHeartbeats 2000000
namespace Ml
open PySem PySem.Spec PyProof.Rows L2
section
variable {T : Tab} {F : Fr0} {W : XK} {σ : L2.St} {B B' H H' : Hp} {env : Env}
/-- a new thing goes into the ground -/
theorem Rel.ground {a : Addr} {o : HO} (R : Rel T F env σ B H) (h2 : B a = none) (h3 : F.H a = none) (n : NotIn env σ a) (ho : H a = some o) (nx : NT o) : Rel T F env σ (upd B a o) H ∧ Ex B (upd B a o) := by
  have eB : Ex B (upd B a o) := Evl.Ex.new h2
  have eH : Ex (upd B a o) H := fun x u q => by
    by_cases hx : x = a
    · subst hx; rw [upd_same] at q; cases q; exact ho
    · rw [upd_ne hx] at q; exact R.exB _ _ q
  refine ⟨⟨R.len, eH, R.tb, nts_upd R.bN nx, R.b0.trans eB, R.keep, R.dom, fun b q => ?_, fun j sl e => ?_, R.nd⟩, eB⟩
  · by_cases hb : b = a
    · subst hb; exact .inr h3
    · rw [upd_ne hb] at q; exact R.fresh b q
  · have q := R.slot j sl e
    cases sl with
    | no => trivial
    | im d => obtain ⟨v, q1, q2⟩ := q; exact ⟨v, q1, q2.mono eB⟩
    | ow d' =>
      obtain ⟨b, q1, q2, q3, q4⟩ := q
      have nb : b ≠ a := fun z => by subst z; exact n j _ e rfl q1
      exact ⟨b, q1, by rw [upd_ne nb]; exact q2, q3, q4.mono eB fun _ z _ => z⟩
    | io d' =>
      obtain ⟨b, q1, q2, q3, q4⟩ := q
      have nb : b ≠ a := fun z => by subst z; exact n j _ e rfl q1
      exact ⟨b, q1, by rw [upd_ne nb]; exact q2, q3, q4.mono eB fun _ z _ => z⟩
theorem Cell.ground {d : D} {a : Addr} (R : Rel T F env σ B H) (h2 : B a = none) (h3 : F.H a = none) (n : NotIn env σ a) (c : Cell T d a B H) : ∃ B', Rel T F env σ B' H ∧ Ex B B' ∧ Is T d (.ref a) B' := by
  obtain ⟨o, ho, nx⟩ := c.atX
  obtain ⟨R', e'⟩ := R.ground h2 h3 n ho nx.1
  exact ⟨_, R', e', c.is e' fun u q => by rw [ho] at q; cases q; exact upd_same⟩
end
section
variable {X : Cx} {T : Tab} {e e1 e2 : Expr} {es : List Expr} {pos : Pos}
theorem trE_n {m : ME} (h : TrN X T e m) : TrE X T e m := fun F W tk => pe_imp (h F W tk) fun σ H Q ⟨env, B, R, q⟩ => ⟨env, B, R, Out.wp_mono q (fun d env' z => by
  intro a B' H' R' e' h2 h3 n c
  obtain ⟨B2, R2, e2, i2⟩ := c.ground R' h2 h3 n
  exact z _ B2 H' R2 (e'.trans e2) i2) fun _ _ _ z => z⟩
theorem trP_n {m : ME} (h : TrN X T e m) : TrP X T e (mP m) := trP_e (trE_n h)
/-! ### tests -/
def truD : D → Option Bool
  | .non => some false
  | .bl b => some b
  | .int i => some (i != 0)
  | .str s => if decide (s.length ≤ sizeLine) then some ((s.length : Int) != 0) else none
  | .lst xs => some (!xs.isEmpty)
  | .tup xs => some (!xs.isEmpty)
  | .dct xs => some (!xs.isEmpty)
  | _ => none
theorem IsL.empty {ds : List D} {vs : List V} {H : Hp} (h : IsL T ds vs H) : vs.isEmpty = ds.isEmpty := by
  have := h.length
  cases ds <;> cases vs <;> simp_all
theorem IsK.empty {ds : List (Key × D)} {vs : List (Key × V)} {H : Hp} (h : IsK T ds vs H) : vs.isEmpty = ds.isEmpty := by
  cases ds with
  | nil => rw [isK_nil.mp h]; rfl
  | cons d ds => obtain ⟨v, r, rfl, _⟩ := isK_cons.mp h; rfl
theorem tru_of {d : D} {b : Bool} {v : V} {B H : Hp} (e : Ex B H) (t : Top T d v B H) (h : truD d = some b) : TruV T.K v H b := by
  cases d with
  | non => rw [top_non t]; cases h; rfl
  | bl c => rw [top_bl t]; cases h; rfl
  | int i => rw [top_int t]; cases h; rfl
  | str s =>
    rw [top_str t]
    have h' : (if decide (s.length ≤ sizeLine) then some ((s.length : Int) != 0) else none) = some b := h
    split at h'
    · rename_i c; cases h'; exact ⟨of_decide_eq_true c, rfl⟩
    · cases h'
  | lst xs =>
    cases h
    rcases t with t | ⟨a, rfl, t⟩
    · obtain ⟨a, ys, rfl, h1, h2⟩ := is_lst.mp t
      exact .inl ⟨ys, .inl (rdX e h1), by rw [h2.empty]⟩
    · obtain ⟨ys, h1, h2⟩ := t
      exact .inl ⟨ys, .inl (.inl h1), by rw [h2.empty]⟩
  | tup xs =>
    cases h
    rcases t with t | ⟨a, rfl, t⟩
    · obtain ⟨a, ys, rfl, h1, h2⟩ := is_tup.mp t
      exact .inr (.inl ⟨ys, SqT.of (e _ _ h1), by rw [h2.empty]⟩)
    · exact t.elim
  | dct xs =>
    cases h
    rcases t with t | ⟨a, rfl, t⟩
    · obtain ⟨a, ys, rfl, h1, h2⟩ := is_dct.mp t
      exact .inr (.inr ⟨ys, e _ _ h1, by rw [h2.empty]⟩)
    · obtain ⟨ys, h1, h2⟩ := t
      exact .inr (.inr ⟨ys, h1, by rw [h2.empty]⟩)
  | _ => cases h
def ofB (o : Option Bool) (env : Env) : Out Bool := match o with
  | some d => .ok d env
  | none => .stuck
theorem ofB_wp {o : Option Bool} {env : Env} {φ : Bool → Env → Prop} {ψ : Nat → List D → Env → Prop} (h : (ofB o env).wp φ ψ) : ∃ d, o = some d ∧ φ d env := by
  unfold ofB at h
  split at h
  · exact ⟨_, rfl, h⟩
  · exact h.elim
/-- a value's truth -/
def tT (m : MP) : MT := fun env => (m env).bind fun p env1 => ofB ((p.get env1).bind truD) env1
theorem trT_p {m : MP} (hK : X.K = T.K) (h : TrP X T e m) (he : ∀ whole, isTrue e X.env whole = (do let v ← whole; standAt e.pos; holding [v] (truthy v)) := by intro _; rfl) : TrT X T e (tT m) :=
  fun F W tk => pt_imp (pt_truth (h F W tk) he) fun σ H Q ⟨env, B, R, q⟩ => ⟨env, B, R, Out.wp_mono (Out.wp_bind.mp q) (fun p env1 z => by
    intro v B1 H1 R1 e1 pv
    obtain ⟨b, hb, z⟩ := ofB_wp z
    obtain ⟨d, hd, hb⟩ := Option.bind_eq_some_iff.mp hb
    exact ⟨b, by rw [hK]; exact tru_of R1.exB (pv_top R1 pv (Evl.Ex.refl _) hd) hb, z B1 H1 R1 e1⟩) fun _ _ _ z => z⟩
/-- what is a bool -/
def tB1 (m : ME) : MT := fun env => (m env).bind fun d env1 => match d with
  | .bl b => .ok b env1
  | _ => .stuck
theorem trT_cmp {op : CmpOp} {r : R2} {f : D → D → Option D} {m1 m2 : MP} (ho : OpR X (compareOp op) r) (hr : Ok2 T f r) (hm : behindInMarks op e2 = false) (h1 : TrP X T e1 m1) (h2 : TrP X T e2 m2) : TrT X T (.Compare e1 [op] [e2] pos) (tB1 (op2 f m1 m2)) :=
  fun F W tk => pt_imp (pt_cmpR ho (h1 F W tk) (h2 F W tk) hm) fun σ H Q ⟨env, B, R, q⟩ => tOf_op2 (Q := fun x H' => ∃ k, x = .bl k ∧ Q k H') hr ⟨env, B, R, Out.wp_mono (Out.wp_bind.mp q) (fun d env1 z => by
    intro v B1 H1 R1 e1 i
    cases d with
    | bl b => exact ⟨b, is_bl.mp i, z B1 H1 R1 e1⟩
    | _ => exact z.elim) fun _ _ _ z => z⟩
def tNt (m : MT) : MT := fun env => (m env).bind fun b env1 => .ok (!b) env1
theorem trT_not {m : MT} (h : TrT X T e m) : TrT X T (.UnaryOp .Not e pos) (tNt m) := fun F W tk => pt_imp (pt_not (h F W tk)) fun σ H Q ⟨env, B, R, q⟩ => ⟨env, B, R, Out.wp_mono (Out.wp_bind.mp q) (fun b env1 z => z) fun _ _ _ z => z⟩
/-! and, or as tests -/
def TrW (X : Cx) (T : Tab) (e : Expr) (m : MT) : Prop := ∀ (F : Fr0) (W : XK), Lets X W → PW X e (tOfT T F W m)
def tAn (m n : MT) : MT := fun env => (m env).bind fun b env1 => if b = true then n env1 else .ok false env1
def tOr2 (m n : MT) : MT := fun env => (m env).bind fun b env1 => if b = true then .ok true env1 else n env1
theorem trT_w {m : MT} (h : TrW X T e m) : TrT X T e m := fun F W tk => (h F W tk).pt
theorem trW_and1 {m : MT} (h : TrT X T e m) : TrW X T (.BoolOp .And [e] pos) m := fun F W tk => pw_and1 (h F W tk)
theorem trW_or1 {m : MT} (h : TrT X T e m) : TrW X T (.BoolOp .Or [e] pos) m := fun F W tk => pw_or1 (h F W tk)
theorem trW_and {m n : MT} (h : TrT X T e m) (k : TrW X T (.BoolOp .And (e1 :: es) pos) n) : TrW X T (.BoolOp .And (e :: e1 :: es) pos) (tAn m n) :=
  fun F W tk => pw_imp (pw_and (h F W tk) (k F W tk)) fun σ H Q ⟨env, B, R, q⟩ => ⟨env, B, R, Out.wp_mono (Out.wp_bind.mp q) (fun b env1 z => by
    intro B1 H1 R1 e1
    cases b with
    | true => exact ⟨env1, B1, R1, Out.wp_mono z (fun b2 env2 z2 B2 H2 R2 e2 => z2 B2 H2 R2 (e1.trans e2)) fun _ _ _ x => x.mono e1⟩
    | false => exact z B1 H1 R1 e1) fun _ _ _ z => z⟩
theorem trW_or {m n : MT} (h : TrT X T e m) (k : TrW X T (.BoolOp .Or (e1 :: es) pos) n) : TrW X T (.BoolOp .Or (e :: e1 :: es) pos) (tOr2 m n) :=
  fun F W tk => pw_imp (pw_or (h F W tk) (k F W tk)) fun σ H Q ⟨env, B, R, q⟩ => ⟨env, B, R, Out.wp_mono (Out.wp_bind.mp q) (fun b env1 z => by
    intro B1 H1 R1 e1
    cases b with
    | false => exact ⟨env1, B1, R1, Out.wp_mono z (fun b2 env2 z2 B2 H2 R2 e2 => z2 B2 H2 R2 (e1.trans e2)) fun _ _ _ x => x.mono e1⟩
    | true => exact z B1 H1 R1 e1) fun _ _ _ z => z⟩
/-! and, or, not as values (by truth) -/
def mAnd (m n : ME) : ME := fun env => (m env).bind fun d env1 => (ofB (truD d) env1).bind fun b env2 => if b = true then n env2 else .ok d env2
def mOr (m n : ME) : ME := fun env => (m env).bind fun d env1 => (ofB (truD d) env1).bind fun b env2 => if b = true then .ok d env2 else n env2
def mNot (m : ME) : ME := fun env => (m env).bind fun d env1 => (ofB (truD d) env1).bind fun b env2 => .ok (.bl (!b)) env2
theorem trE_one {op : BoolOp} {m : ME} (h : TrE X T e m) : TrE X T (.BoolOp op [e] pos) m := fun F W tk => pe_one (h F W tk)
theorem trE_and {m n : ME} (hK : X.K = T.K) (h : TrE X T e m) (k : TrE X T (.BoolOp .And (e1 :: es) pos) n) : TrE X T (.BoolOp .And (e :: e1 :: es) pos) (mAnd m n) :=
  fun F W tk => pe_imp (pe_andT (h F W tk) (k F W tk)) fun σ H Q ⟨env, B, R, q⟩ => ⟨env, B, R, Out.wp_mono (Out.wp_bind.mp q) (fun d env1 z => by
    intro v B1 H1 R1 e1 i
    obtain ⟨b, hb, z⟩ := ofB_wp (Out.wp_bind.mp z)
    refine ⟨b, by rw [hK]; exact tru_of R1.exB (.inl i) hb, ?_⟩
    cases b with
    | true => exact ⟨env1, B1, R1, Out.wp_mono z (fun b2 env2 z2 v2 B2 H2 R2 e2 => z2 v2 B2 H2 R2 (e1.trans e2)) fun _ _ _ x => x.mono e1⟩
    | false => exact z v B1 H1 R1 e1 i) fun _ _ _ z => z⟩
theorem trE_or {m n : ME} (hK : X.K = T.K) (h : TrE X T e m) (k : TrE X T (.BoolOp .Or (e1 :: es) pos) n) : TrE X T (.BoolOp .Or (e :: e1 :: es) pos) (mOr m n) :=
  fun F W tk => pe_imp (pe_orT (h F W tk) (k F W tk)) fun σ H Q ⟨env, B, R, q⟩ => ⟨env, B, R, Out.wp_mono (Out.wp_bind.mp q) (fun d env1 z => by
    intro v B1 H1 R1 e1 i
    obtain ⟨b, hb, z⟩ := ofB_wp (Out.wp_bind.mp z)
    refine ⟨b, by rw [hK]; exact tru_of R1.exB (.inl i) hb, ?_⟩
    cases b with
    | false => exact ⟨env1, B1, R1, Out.wp_mono z (fun b2 env2 z2 v2 B2 H2 R2 e2 => z2 v2 B2 H2 R2 (e1.trans e2)) fun _ _ _ x => x.mono e1⟩
    | true => exact z v B1 H1 R1 e1 i) fun _ _ _ z => z⟩
theorem trE_not {m : ME} (hK : X.K = T.K) (h : TrE X T e m) : TrE X T (.UnaryOp .Not e pos) (mNot m) :=
  fun F W tk => pe_imp (pe_notT (h F W tk)) fun σ H Q ⟨env, B, R, q⟩ => ⟨env, B, R, Out.wp_mono (Out.wp_bind.mp q) (fun d env1 z => by
    intro v B1 H1 R1 e1 i
    obtain ⟨b, hb, z⟩ := ofB_wp (Out.wp_bind.mp z)
    exact ⟨b, by rw [hK]; exact tru_of R1.exB (.inl i) hb, z _ B1 H1 R1 e1 (is_bl.mpr rfl)⟩) fun _ _ _ z => z⟩
def mIf (c : MT) (m n : ME) : ME := fun env => (c env).bind fun b env1 => if b = true then m env1 else n env1
theorem trE_if {c : Expr} {mc : MT} {m n : ME} (hc : TrT X T c mc) (h : TrE X T e1 m) (k : TrE X T e2 n) : TrE X T (.IfExp c e1 e2 pos) (mIf mc m n) :=
  fun F W tk => pe_imp (pe_ifExp (hc F W tk) (h F W tk) (k F W tk)) fun σ H Q ⟨env, B, R, q⟩ => ⟨env, B, R, Out.wp_mono (Out.wp_bind.mp q) (fun b env1 z => by
    intro B1 H1 R1 e1
    cases b with
    | true => exact ⟨env1, B1, R1, Out.wp_mono z (fun b2 env2 z2 v2 B2 H2 R2 e2 => z2 v2 B2 H2 R2 (e1.trans e2)) fun _ _ _ x => x.mono e1⟩
    | false => exact ⟨env1, B1, R1, Out.wp_mono z (fun b2 env2 z2 v2 B2 H2 R2 e2 => z2 v2 B2 H2 R2 (e1.trans e2)) fun _ _ _ x => x.mono e1⟩) fun _ _ _ z => z⟩
/-! ### argument lists, displays -/
def aNil : MA := fun env => .ok [] env
def aCons (m : ME) (n : MA) : MA := fun env => (m env).bind fun d env1 => (n env1).bind fun ds env2 => .ok (d :: ds) env2
theorem trA_nil : TrA X T [] aNil := fun F W tk => pa_imp pa_nil fun σ H Q ⟨env, B, R, q⟩ => q [] B H R (Evl.Ex.refl _) .nil
theorem trA_cons {m : ME} {n : MA} (h : TrE X T e m) (k : TrA X T es n) (hs : starEach (e :: es) X.env = (false, eval e X.env) :: starEach es X.env := by rfl) : TrA X T (e :: es) (aCons m n) :=
  fun F W tk => pa_imp (pa_cons (h F W tk) (k F W tk) hs) fun σ H Q ⟨env, B, R, q⟩ => ⟨env, B, R, Out.wp_mono (Out.wp_bind.mp q) (fun d env1 z => by
    intro v B1 H1 R1 e1 i
    exact ⟨env1, B1, R1, Out.wp_mono (Out.wp_bind.mp z) (fun ds env2 z2 vs B2 H2 R2 e2 is => z2 (v :: vs) B2 H2 R2 (e1.trans e2) (.cons (i.mono e2) is)) fun _ _ _ x => x.mono e1⟩) fun _ _ _ z => z⟩
def mTup (m : MA) : ME := fun env => (m env).bind fun ds env1 => if decide (ds.length ≤ sizeLine) then .ok (.tup ds) env1 else .stuck
def mLst (m : MA) : ME := fun env => (m env).bind fun ds env1 => if decide (ds.length ≤ sizeLine) then .ok (.lst ds) env1 else .stuck
theorem trE_tup {m : MA} {x1} (h : TrA X T es m) : TrE X T (.Tuple es x1 pos) (mTup m) := fun F W tk => pe_imp (pe_tup (h F W tk)) fun σ H Q ⟨env, B, R, q⟩ => ⟨env, B, R, Out.wp_mono (Out.wp_bind.mp q) (fun ds env1 z => by
  intro vs B1 H1 R1 e1 i
  split at z
  · rename_i c
    refine ⟨by rw [i.length]; exact of_decide_eq_true c, fun p hp => ?_⟩
    have s := Stp.new (T := T) (o := HO.tup vs) R1.exB hp
    exact z (.ref p) _ _ (R1.step s) (e1.trans s.b) (is_tup.mpr ⟨p, vs, rfl, upd_same, i.mono s.b⟩)
  · exact z.elim) fun _ _ _ z => z⟩
theorem trN_lst {m : MA} (h : TrA X T es m) : TrN X T (.List es pos) (mLst m) := fun F W tk => pe_imp (pe_lst (h F W tk)) fun σ H Q ⟨env, B, R, q⟩ => ⟨env, B, R, Out.wp_mono (Out.wp_bind.mp q) (fun ds env1 z => by
  intro vs B1 H1 R1 e1 i
  split at z
  · rename_i c
    refine ⟨by rw [i.length]; exact of_decide_eq_true c, fun p hp => ?_⟩
    have s := Stp.junk (T := T) (o := HO.lst vs) R1.exB hp
    have hF := R1.freeF hp
    exact z p _ _ (R1.step s) e1 (ex_none R1.exB hp) hF (R1.notIn hp) ⟨vs, upd_same, i⟩
  · exact z.elim) fun _ _ _ z => z⟩
/-! ### statements -/
variable {st : Stmt} {sts : List Stmt}
def sNil : MS := fun env => .nx env
def sSeq (m n : MS) : MS := fun env => match m env with
  | .nx e => n e
  | o => o
theorem trB_nil : TrB X T [] sNil := fun F W tk => pss_imp pss_nil fun D σ H ⟨env, B, R, q⟩ => q σ B H R (Evl.Ex.refl _)
theorem sEnds_mono {F : Fr0} {W : XK} {D : Ends} {σ : L2.St} {B B' : Hp} {x : OS} (e : Ex B B') (h : x.wp (sEnds T F W D σ B)) : x.wp (sEnds T F W D σ B') :=
  OS.wp_mono h (fun _ z σ' B2 H2 R2 e2 => z σ' B2 H2 R2 (e.trans e2)) (fun _ _ z v σ' B2 H2 R2 e2 i => z v σ' B2 H2 R2 (e.trans e2) i) (fun _ _ z a σ' B2 H2 R2 e2 => z a σ' B2 H2 R2 (e.trans e2))
    (fun _ z σ' B2 H2 R2 e2 => z σ' B2 H2 R2 (e.trans e2)) (fun _ z σ' B2 H2 R2 e2 => z σ' B2 H2 R2 (e.trans e2)) fun _ _ _ z => z.mono e
/-- sEnds does not hang on σ -/
theorem sEnds_at {F : Fr0} {W : XK} {D : Ends} {σ σ2 : L2.St} {B : Hp} {x : OS} (h : x.wp (sEnds T F W D σ B)) : x.wp (sEnds T F W D σ2 B) := by
  cases x <;> exact h
theorem trB_cons {m n : MS} (h : TrS X T st m) (k : TrB X T sts n) : TrB X T (st :: sts) (sSeq m n) := fun F W tk => pss_imp (pss_cons (h F W tk) (k F W tk)) fun D σ H ⟨env, B, R, q⟩ => ⟨env, B, R, by
  unfold sSeq at q
  cases c : m env with
  | nx e =>
    rw [c] at q
    intro σ' B' H' R' e'
    exact ⟨e, B', R', sEnds_at (sEnds_mono e' q)⟩
  | rt d e => rw [c] at q; exact q
  | rn d e => rw [c] at q; exact q
  | bk e => rw [c] at q; exact q
  | ct e => rw [c] at q; exact q
  | ex c' fs e => rw [c] at q; exact q
  | stuck => rw [c] at q; exact q⟩
theorem trB_one {m : MS} (h : TrS X T st m) : TrB X T [st] m := fun F W tk => pss_one (h F W tk)
def sPass : MS := fun env => .nx env
theorem trS_pass : TrS X T (.Pass pos) sPass := fun F W tk => ps_imp ps_pass fun D σ H ⟨env, B, R, q⟩ => q σ B H R (Evl.Ex.refl _)
theorem trS_break : TrS X T (.Break pos) (fun env => .bk env) := fun F W tk => ps_imp ps_break fun D σ H ⟨env, B, R, q⟩ => q σ B H R (Evl.Ex.refl _)
theorem trS_continue : TrS X T (.Continue pos) (fun env => .ct env) := fun F W tk => ps_imp ps_continue fun D σ H ⟨env, B, R, q⟩ => q σ B H R (Evl.Ex.refl _)
def sExpr (m : ME) : MS := fun env => (m env).bindS fun _ env1 => .nx env1
theorem trS_expr {m : ME} (h : TrE X T e m) (hs : swapsWith e none pos.line X.env = pure false := by rfl) : TrS X T (.Expr e pos) (sExpr m) := fun F W tk => ps_imp (ps_expr (h F W tk) hs) fun D σ H ⟨env, B, R, q⟩ =>
  ⟨env, B, R, Out.wp_mono (Out.wp_bindS.mp q) (fun d env1 z v B1 H1 R1 e1 i => z σ B1 H1 R1 e1) fun _ _ _ z => exP.to z⟩
def sRet (m : ME) : MS := fun env => (m env).bindS fun d env1 => .rt d env1
theorem trS_ret {m : ME} (h : TrE X T e m) : TrS X T (.Return (some e) pos) (sRet m) := fun F W tk => ps_imp (ps_ret (h F W tk)) fun D σ H ⟨env, B, R, q⟩ =>
  ⟨env, B, R, Out.wp_mono (Out.wp_bindS.mp q) (fun d env1 z v B1 H1 R1 e1 i => z v σ B1 H1 R1 e1 i) fun _ _ _ z => exP.to z⟩
def sRetN (m : ME) : MS := fun env => (m env).bindS fun d env1 => .rn d env1
theorem trS_retN {m : ME} (h : TrN X T e m) : TrS X T (.Return (some e) pos) (sRetN m) := fun F W tk => ps_imp (ps_ret (h F W tk)) fun D σ H ⟨env, B, R, q⟩ =>
  ⟨env, B, R, Out.wp_mono (Out.wp_bindS.mp q) (fun d env1 z a B1 H1 R1 e1 h2 h3 n c => z a σ B1 H1 R1 e1 h2 h3 c) fun _ _ _ z => exP.to z⟩
def sRet0 : MS := fun env => .rt .non env
theorem trS_ret0 : TrS X T (.Return none pos) sRet0 := fun F W tk => ps_imp ps_retN fun D σ H ⟨env, B, R, q⟩ => q .non σ B H R (Evl.Ex.refl _) (is_non.mpr rfl)
def sIf (c : MT) (m n : MS) : MS := fun env => (c env).bindS fun b env1 => if b = true then m env1 else n env1
theorem trS_if {c : Expr} {a b : List Stmt} {mc : MT} {m n : MS} (hc : TrT X T c mc) (ha : TrB X T a m) (hb : TrB X T b n) : TrS X T (.If c a b pos) (sIf mc m n) :=
  fun F W tk => ps_imp (ps_if (hc F W tk) (ha F W tk) (hb F W tk)) fun D σ H ⟨env, B, R, q⟩ => ⟨env, B, R, Out.wp_mono (Out.wp_bindS.mp q) (fun b env1 z => by
    intro B1 H1 R1 e1
    cases b with
    | true => exact ⟨env1, B1, R1, sEnds_mono e1 z⟩
    | false => exact ⟨env1, B1, R1, sEnds_mono e1 z⟩) fun _ _ _ z => exP.to z⟩
/-- a store to a slot -/
def putIm (i : Nat) (d : D) (env : Env) : Option Env := match env[i]? with
  | some (.io _) => none
  | some _ => some (env.set i (.im d))
  | none => none
def putOw (i : Nat) (d : D) (env : Env) : Option Env := match env[i]? with
  | some (.io _) => none
  | some _ => some (env.set i (.ow d))
  | none => none
def ofE (o : Option Env) : OS := match o with
  | some e => .nx e
  | none => .stuck
theorem putIm_ok {i : Nat} {d : D} {env env' : Env} (h : putIm i d env = some env') : (∀ z, env[i]? ≠ some (.io z)) ∧ i < env.length ∧ env' = env.set i (.im d) := by
  unfold putIm at h
  split at h
  · cases h
  · rename_i sl n q
    cases h
    exact ⟨fun z e => by rw [e] at q; cases q; exact n z rfl, (List.getElem?_eq_some_iff.mp q).1, rfl⟩
  · cases h
theorem putOw_ok {i : Nat} {d : D} {env env' : Env} (h : putOw i d env = some env') : (∀ z, env[i]? ≠ some (.io z)) ∧ i < env.length ∧ env' = env.set i (.ow d) := by
  unfold putOw at h
  split at h
  · cases h
  · rename_i sl n q
    cases h
    exact ⟨fun z e => by rw [e] at q; cases q; exact n z rfl, (List.getElem?_eq_some_iff.mp q).1, rfl⟩
  · cases h
theorem ofE_wp {o : Option Env} {φ : SEnds} (h : (ofE o).wp φ) : ∃ e, o = some e ∧ φ.nx e := by
  unfold ofE at h
  split at h
  · exact ⟨_, rfl, h⟩
  · exact h.elim
def sSet (i : Nat) (m : ME) : MS := fun env => (m env).bindS fun d env1 => ofE (putIm i d env1)
def sSetN (i : Nat) (m : ME) : MS := fun env => (m env).bindS fun d env1 => ofE (putOw i d env1)
theorem trS_set {i : Nat} {x : Str} {m : ME} {pos' : Pos} (hN : X.N.Nodup) (h : TrE X T e m) (hi : X.N[i]? = some x := by rfl) (hx : Loc X.env.scope x := by first | exact Or.inl rfl | exact Or.inr rfl)
    (hs : swapsWith e (some (.Name x pos')) pos.line X.env = pure false := by rfl) (hf : X.fn x = true ∨ X.env.scope.names.lookup x = some .local := by first | exact .inl rfl | exact .inr rfl) : TrS X T (.Assign [.Name x pos'] e pos) (sSet i m) :=
  fun F W tk => ps_imp (ps_set hN hi hx (h F W tk) hs hf) fun D σ H ⟨env, B, R, q⟩ => ⟨env, B, R, Out.wp_mono (Out.wp_bindS.mp q) (fun d env1 z v B1 H1 R1 e1 is => by
    obtain ⟨env2, h2, z⟩ := ofE_wp z
    obtain ⟨n1, n2, rfl⟩ := putIm_ok h2
    exact z _ B1 H1 (R1.set is n1 n2) e1) fun _ _ _ z => exP.to z⟩
theorem trS_setN {i : Nat} {x : Str} {m : ME} {pos' : Pos} (hN : X.N.Nodup) (h : TrN X T e m) (hi : X.N[i]? = some x := by rfl) (hx : Loc X.env.scope x := by first | exact Or.inl rfl | exact Or.inr rfl)
    (hs : swapsWith e (some (.Name x pos')) pos.line X.env = pure false := by rfl) (hf : X.fn x = true ∨ X.env.scope.names.lookup x = some .local := by first | exact .inl rfl | exact .inr rfl) : TrS X T (.Assign [.Name x pos'] e pos) (sSetN i m) :=
  fun F W tk => ps_imp (ps_set hN hi hx (h F W tk) hs hf) fun D σ H ⟨env, B, R, q⟩ => ⟨env, B, R, Out.wp_mono (Out.wp_bindS.mp q) (fun d env1 z a B1 H1 R1 e1 h2 h3 n c => by
    obtain ⟨env2, hp, z⟩ := ofE_wp z
    obtain ⟨n1, n2, rfl⟩ := putOw_ok hp
    exact z _ B1 H1 (R1.setOw h2 h3 c n n1 n2) e1) fun _ _ _ z => exP.to z⟩
end
end Ml
set_option maxRecDepth 100000
set_option maxHeartbeats 2000000
namespace Ml
open PySem PySem.Spec PyProof.Rows L2
/-! ### defs: mirrors of whole defs, promises -/
inductive OF where
  | ok (d : D) (o : Option D)
  | ex (c : Nat) (fs : List D) (o : Option D)
  | stuck
def OF.wp (x : OF) (φ : D → Option D → Prop) (ψ : Nat → List D → Option D → Prop) : Prop := match x with
  | .ok d o => φ d o
  | .ex c fs o => ψ c fs o
  | .stuck => False
def startGo (io : Option Nat) : Nat → List D → Env
  | _, [] => []
  | k, d :: ds => (if io = some k then .io d else .im d) :: startGo io (k + 1) ds
def startE (io : Option Nat) (n : Nat) (ds : List D) : Env := startGo io 0 ds ++ List.replicate (n - ds.length) .no
/-- what the place that is handed in and out holds at the end -/
def outIo (io : Option Nat) (env : Env) (k : Option D → OF) : OF := match io with
  | none => k none
  | some i => match env[i]? with
    | some (.io d) => k (some d)
    | _ => .stuck
def runDef (io : Option Nat) (nw : Bool) (n : Nat) (body : MS) (ds : List D) : OF := match body (startE io n ds) with
  | .nx e => if nw then .stuck else outIo io e (.ok .non)
  | .rt d e => if nw then .stuck else outIo io e (.ok d)
  | .rn d e => if nw then outIo io e (.ok d) else .stuck
  | .ex c fs e => outIo io e (.ex c fs)
  | _ => .stuck
def IsAs (T : Tab) (io : Option Nat) : Nat → List D → List V → Hp → Hp → Prop
  | _, [], vs, _, _ => vs = []
  | k, d :: ds, vs, B, H => ∃ v r, vs = v :: r ∧ (if io = some k then ∃ a, v = .ref a ∧ B a = none ∧ Cell T d a B H else Is T d v B) ∧ IsAs T io (k + 1) ds r B H
def ioA (io : Option Nat) (vs : List V) : List Addr := match io with
  | none => []
  | some k => match vs[k]? with
    | some (.ref a) => [a]
    | _ => []
def IoE (T : Tab) (o : Option D) (as : List Addr) (B H : Hp) : Prop := match o, as with
  | none, [] => True
  | some d, [a] => B a = none ∧ Cell T d a B H
  | _, _ => False
section
variable (T : Tab) (io : Option Nat) (nw : Bool)
def okF (vs : List V) (B H : Hp) (Q : VK) : D → Option D → Prop := fun d o => ∀ v B' H', Stp T (ioA io vs) B H B' H' → IoE T o (ioA io vs) B' H' → (if nw then ∃ a, v = .ref a ∧ B' a = none ∧ H a = none ∧ Cell T d a B' H' else Is T d v B') → Q v H'
def exF (vs : List V) (B H : Hp) (E : XK) : Nat → List D → Option D → Prop := fun c fs o => ∀ dd B' H', Stp T (ioA io vs) B H B' H' → IoE T o (ioA io vs) B' H' → IsX T c fs dd B' → E (.ref (T.adr c)) (some dd) H'
/-- a def's promise: what its mirror says -/
def spF (m : List D → OF) : Sp := fun vs H Q E => ∃ B ds, G0 T B H ∧ IsAs T io 0 ds vs B H ∧ (m ds).wp (okF T io nw vs B H Q) (exF T io vs B H E)
end
section
variable {T : Tab} {io : Option Nat} {B H : Hp}
theorem isAs_len : ∀ {k : Nat} {ds : List D} {vs : List V}, IsAs T io k ds vs B H → vs.length = ds.length
  | k, [], vs, h => by unfold IsAs at h; rw [h]; rfl
  | k, d :: ds, vs, h => by
    unfold IsAs at h
    obtain ⟨v, r, rfl, _, h2⟩ := h
    simp [isAs_len h2]
theorem isAs_get : ∀ {k : Nat} {ds : List D} {vs : List V} {i : Nat} {d : D}, IsAs T io k ds vs B H → ds[i]? = some d → ∃ v, vs[i]? = some v ∧ (if io = some (k + i) then ∃ a, v = .ref a ∧ B a = none ∧ Cell T d a B H else Is T d v B)
  | k, [], vs, i, d, h, e => by simp at e
  | k, x :: ds, vs, 0, d, h, e => by
    unfold IsAs at h
    obtain ⟨v, r, rfl, h1, h2⟩ := h
    simp at e; subst e
    exact ⟨v, rfl, h1⟩
  | k, x :: ds, vs, i + 1, d, h, e => by
    unfold IsAs at h
    obtain ⟨v, r, rfl, h1, h2⟩ := h
    obtain ⟨w, a, b⟩ := isAs_get (i := i) h2 (by simpa using e)
    have q : k + 1 + i = k + (i + 1) := by omega
    rw [q] at b
    exact ⟨w, by simpa using a, b⟩
theorem startGo_len : ∀ (k : Nat) (ds : List D), (startGo io k ds).length = ds.length
  | _, [] => rfl
  | k, d :: ds => by unfold startGo; simp [startGo_len (k + 1) ds]
theorem startGo_get : ∀ {k : Nat} {ds : List D} {i : Nat} {sl : Sl}, (startGo io k ds)[i]? = some sl → ∃ d, ds[i]? = some d ∧ sl = if io = some (k + i) then .io d else .im d
  | k, [], i, sl, e => by simp [startGo] at e
  | k, d :: ds, 0, sl, e => by
    unfold startGo at e
    simp at e
    exact ⟨d, rfl, by simpa using e.symm⟩
  | k, d :: ds, i + 1, sl, e => by
    unfold startGo at e
    obtain ⟨d', h1, h2⟩ := startGo_get (k := k + 1) (i := i) (by simpa using e)
    have q : k + 1 + i = k + (i + 1) := by omega
    rw [q] at h2
    exact ⟨d', by simpa using h1, h2⟩
/-- a frame's entry -/
def fr0 (io : Option Nat) (vs : List V) (B H : Hp) : Fr0 := ⟨B, H, fun i => if io = some i then (match vs[i]? with | some (.ref a) => some a | _ => none) else none⟩
theorem rel_start {N : List Str} {ds : List D} {vs : List V} (e : G0 T B H) (h : IsAs T io 0 ds vs B H) (hn : ds.length ≤ N.length) : Rel T (fr0 io vs B H) (startE io N.length ds) (L2.start N vs) B H := by
  have hl := isAs_len h
  have hs : (startE io N.length ds).length = N.length := by
    unfold startE
    rw [List.length_append, startGo_len, List.length_replicate]; omega
  have hσ : (L2.start N vs).length = N.length := by
    unfold L2.start
    rw [List.length_append, List.length_map, List.length_replicate]; omega
  have at_ : ∀ (i : Nat) (sl : Sl), (startE io N.length ds)[i]? = some sl → (sl = .no) ∨ ∃ d, ds[i]? = some d ∧ (startE io N.length ds)[i]? = some (if io = some i then .io d else .im d) ∧ sl = (if io = some i then .io d else .im d) := fun i sl q => by
    unfold startE at q ⊢
    by_cases hi : i < ds.length
    · rw [List.getElem?_append_left (by rw [startGo_len]; exact hi)] at q ⊢
      obtain ⟨d, h1, h2⟩ := startGo_get q
      rw [Nat.zero_add] at h2
      exact .inr ⟨d, h1, by rw [q, h2], h2⟩
    · rw [List.getElem?_append_right (by rw [startGo_len]; omega)] at q
      have := List.mem_of_getElem? q
      exact .inl (List.eq_of_mem_replicate this)
  have σat : ∀ (i : Nat) (v : V), vs[i]? = some v → (L2.start N vs)[i]? = some (some v) := fun i v q => by
    unfold L2.start
    have hi : i < vs.length := (List.getElem?_eq_some_iff.mp q).1
    rw [List.getElem?_append_left (by rw [List.length_map]; exact hi), List.getElem?_map, q]; rfl
  refine ⟨hs.trans hσ.symm, e.1, e.2.1, e.2.2, Evl.Ex.refl _, fun _ _ _ q _ => q, fun _ q => q, fun _ q => .inl q, fun i sl q => ?_, fun i j si sj a ei ej oi oj ci cj => ?_⟩
  · rcases at_ i sl q with rfl | ⟨d, h1, _, h2⟩
    · trivial
    · obtain ⟨v, v1, v2⟩ := isAs_get h h1
      rw [Nat.zero_add] at v2
      by_cases c : io = some i
      · rw [if_pos c] at h2 v2
        subst h2
        obtain ⟨a, rfl, w1, w2⟩ := v2
        refine ⟨a, σat i _ v1, w1, ?_, w2⟩
        show (if io = some i then _ else _) = _
        rw [if_pos c, v1]
      · rw [if_neg c] at h2 v2
        subst h2
        exact ⟨v, σat i v v1, v2⟩
  · have k : ∀ (i : Nat) (sl : Sl), (startE io N.length ds)[i]? = some sl → (Own sl).isSome = true → io = some i := fun i sl q o => by
      rcases at_ i sl q with rfl | ⟨d, h1, _, h2⟩
      · cases o
      · by_cases c : io = some i
        · exact c
        · rw [if_neg c] at h2; subst h2; cases o
    have k1 := k i si ei oi
    have k2 := k j sj ej oj
    rw [k1] at k2
    exact Option.some.inj k2
end
/-- the end of a frame, told as a step -/
theorem Rel.stp {T : Tab} {io : Option Nat} {vs : List V} {B H B' H' : Hp} {env : Env} {σ : L2.St} (R : Rel T (fr0 io vs B H) env σ B' H') : Stp T (ioA io vs) B H B' H' := by
  refine ⟨R.b0, fun x o h n k => R.keep x o k h fun i q => n ?_, R.exB, fun x h => R.fresh x h, fun x h => R.dom x h, fun _ => R.tb, fun _ => R.bN⟩
  have q' : (if io = some i then (match vs[i]? with | some (V.ref a) => some a | _ => none) else none) = some x := q
  split at q'
  · rename_i c
    unfold ioA
    rw [c]
    split at q'
    · rename_i a e; cases q'; simp only [e]; exact List.mem_cons_self
    · cases q'
  · cases q'
theorem outIo_wp {T : Tab} {io : Option Nat} {vs : List V} {B H B' H' : Hp} {env : Env} {σ : L2.St} {k : Option D → OF} {φ : D → Option D → Prop} {ψ : Nat → List D → Option D → Prop} (R : Rel T (fr0 io vs B H) env σ B' H')
    (h : (outIo io env k).wp φ ψ) : ∃ o, (k o).wp φ ψ ∧ IoE T o (ioA io vs) B' H' := by
  unfold outIo at h
  cases io with
  | none => exact ⟨none, h, trivial⟩
  | some i =>
    simp only at h
    split at h
    · rename_i d e
      obtain ⟨a, h1, h2, h3, h4⟩ := R.slot i _ e
      refine ⟨some d, h, ?_⟩
      have h3' : (if some i = some i then (match vs[i]? with | some (V.ref a) => some a | _ => none) else none) = some a := h3
      rw [if_pos rfl] at h3'
      split at h3'
      · rename_i b e2
        cases h3'
        unfold ioA
        simp only [e2]
        exact ⟨h2, h4⟩
      · cases h3'
    · exact h.elim
theorem Lets.of {X : Cx} {W : XK} (tk : Takes X (fun c d _ H => W c d H)) (ow : PassesOwn (model X.prog X.w) X.A X.env X.xe) : Lets X W := ⟨passes_call tk fun _ _ _ _ h => h, tk, ow⟩
section
variable {P : Program} {w : World} {K : PySem.W.Frag} {mg : Str → Option Value} {base : Heap} {x qual : Str} {params : Arguments} {body : List Stmt} {scope : Scope} {dvs : List V} {kws : List (Str × V)} {f : Addr} {fd : FuncData}
/-- THE RULE for a def -/
theorem fnF {T : Tab} {io : Option Nat} {nw : Bool} {N ps : List Str} {k : Nat} {m : MS} (F : FunD K x qual params body scope dvs kws f fd) (S : FnScope N ps scope)
    (hbody : ∀ (cdv : Value) (A : Around) (outer : List PySem.Env) (s : Shared) (H : Hp) (E : XK), Room k (A.deeper (envOfC qual scope s.heap.objs.size f cdv)) →
      TrB (cxOf (L2.CX P w) P w K mg base N qual scope f cdv A outer s H E) T body m) :
    FnOk P w K mg base (L2.CX P w) (k + 1) f fd ps (fun vs H Q E => vs.length = ps.length ∧ spF T io nw (runDef io nw N.length m) vs H Q E) := by
  refine F.ok S (fun vs H Q E h => h.1) fun cdv A outer s H vs Q E hr h => ?_
  obtain ⟨hl, B, ds, e, as, q⟩ := h
  have L : Lets (cxOf (L2.CX P w) P w K mg base N qual scope f cdv A outer s H E) E := .of (takes_of rfl rfl rfl rfl) (passes_of rfl)
  refine ⟨_, hbody cdv A outer s H E hr (fr0 io vs B H) E L, ?_⟩
  have hN : ps.length ≤ N.length := by
    have q : (N.take ps.length).length = ps.length := congrArg List.length S.pre
    rw [List.length_take] at q; omega
  have hd : ds.length = ps.length := by rw [← isAs_len as]; exact hl
  refine ⟨_, B, rel_start e as (by omega), ?_⟩
  unfold runDef at q
  split at q
  · rename_i e1 h1
    rw [h1]
    split at q
    · exact q.elim
    · rename_i c
      intro σ' B' H' R' e'
      obtain ⟨o, q, io'⟩ := outIo_wp R' q
      exact q .non B' H' R'.stp io' (by rw [if_neg c]; exact is_non.mpr rfl)
  · rename_i d e1 h1
    rw [h1]
    split at q
    · exact q.elim
    · rename_i c
      intro v σ' B' H' R' e' i
      obtain ⟨o, q, io'⟩ := outIo_wp R' q
      exact q v B' H' R'.stp io' (by rw [if_neg c]; exact i)
  · rename_i d e1 h1
    rw [h1]
    split at q
    · rename_i c
      intro a σ' B' H' R' e' h2 h3 cc
      obtain ⟨o, q, io'⟩ := outIo_wp R' q
      exact q (.ref a) B' H' R'.stp io' (by rw [if_pos c]; exact ⟨a, rfl, h2, h3, cc⟩)
    · exact q.elim
  · rename_i c fs e1 h1
    rw [h1]
    intro dd σ' B' H' R' e' i
    obtain ⟨o, q, io'⟩ := outIo_wp R' q
    exact q dd B' H' R'.stp io' i
  · exact q.elim
end
/-! ### calls of such defs -/
/-- an argument: a value, or the slot that is handed in and out -/
def pureAs (T : Tab) {ds : List D} {vs : List V} {B H : Hp} (h : IsL T ds vs B) : ∀ k, IsAs T none k ds vs B H := by
  induction ds generalizing vs with
  | nil => intro k; unfold IsAs; exact isL_nil.mp h
  | cons d ds ih =>
    intro k
    obtain ⟨v, r, rfl, h1, h2⟩ := isL_cons.mp h
    unfold IsAs
    exact ⟨v, r, rfl, by rw [if_neg (by simp)]; exact h1, ih h2 (k + 1)⟩
def OF.out (x : OF) (env : Env) : Out D := match x with
  | .ok d _ => .ok d env
  | .ex c fs _ => .ex c fs env
  | .stuck => .stuck
section
variable {X : Cx} {T : Tab} {e : Expr} {es : List Expr} {pos p : Pos} {x : Str} {f : Addr} {fd : FuncData} {ps : List Str} {k : Nat}
def mCall (n : Nat) (m : List D → OF) (ma : MA) : ME := fun env => (ma env).bind fun ds env1 => if ds.length = n then (m ds).out env1 else .stuck
abbrev FnM (X : Cx) (T : Tab) (k : Nat) (f : Addr) (fd : FuncData) (ps : List Str) (io : Option Nat) (nw : Bool) (m : List D → OF) : Prop :=
  FnOk X.prog X.w X.K X.mg X.base (L2.CX X.prog X.w) k f fd ps (fun vs H Q E => vs.length = ps.length ∧ spF T io nw m vs H Q E)
/-- the promise of a def of values, at a place -/
theorem sp_pure {F : Fr0} {W : XK} {m : List D → OF} {ds : List D} {vs : List V} {env : Env} {σ : L2.St} {B0 B H : Hp} {Q : VK} (R : Rel T F env σ B H) (e0 : Ex B0 B) (i : IsL T ds vs B) (q : ((m ds).out env).wp (fun d env' => ∀ v B' H', Rel T F env' σ B' H' → Ex B0 B' → Is T d v B' → Q v H') (exPs T F W B0 σ)) :
    spF T none false m vs H Q W := by
  refine ⟨B, ds, R.g0, pureAs T i 0, ?_⟩
  cases h : m ds with
  | ok d o =>
    rw [h] at q
    intro v B' H' s io' is
    rw [if_neg (by simp)] at is
    exact q v B' H' (R.step s) (e0.trans s.b) is
  | ex c fs o =>
    rw [h] at q
    intro dd B' H' s io' is
    exact q dd B' H' (R.step s) (e0.trans s.b) is
  | stuck => rw [h] at q; exact q.elim
theorem trE_call {m : List D → OF} {ma : MA} {n : Nat} (G : FnM X T k f fd ps none false m) (hr : Room k X.A) (hg : Gl X x) (hm : X.mg x = some (.ref f)) (hk : PySem.W.keepIn X.K (.ref f) = true) (hb : Binds X.K fd ps []) (ha : TrA X T (e :: es) ma) (hn : n = ps.length := by rfl)
    (hdb : (x == ("__debug__" : Str)) = false := by decide)
    (he : starEach (e :: es) X.env = (false, eval e X.env) :: starEach es X.env := by rfl) (hpl : (backTo pos (starEach es X.env)).any (·.1) = false := by rfl) : TrE X T (.Call (.Name x p) (e :: es) [] pos) (mCall n m ma) :=
  fun F W tk => pe_imp (pe_call G hr hg hm hk hb .nil tk.ps (ha F W tk) hdb he hpl) fun σ H Q ⟨env, B, R, q⟩ => ⟨env, B, R, Out.wp_mono (Out.wp_bind.mp q) (fun ds env1 z => by
    intro vs B1 H1 R1 e1 is
    split at z
    · rename_i l
      rw [List.append_nil]
      exact ⟨by rw [is.length, l, hn], sp_pure R1 e1 is z⟩
    · exact z.elim) fun _ _ _ z => z⟩
theorem trE_call0 {m : List D → OF} (G : FnM X T k f fd [] none false m) (hr : Room k X.A) (hg : Gl X x) (hm : X.mg x = some (.ref f)) (hk : PySem.W.keepIn X.K (.ref f) = true) (hb : Binds X.K fd [] [])
    (hdb : (x == ("__debug__" : Str)) = false := by decide) : TrE X T (.Call (.Name x p) [] [] pos) (mCall 0 m aNil) :=
  fun F W tk => pe_imp (pe_call0 G hr hg hm hk hb .nil tk.ps hdb) fun σ H Q ⟨env, B, R, q⟩ => by
    refine ⟨rfl, sp_pure R (Evl.Ex.refl _) (ds := []) (vs := []) .nil ?_⟩
    exact Out.wp_mono q (fun _ _ z => z) fun _ _ _ z => z
end
end Ml
set_option maxRecDepth 100000
set_option maxHeartbeats 2000000
namespace Ml
open PySem PySem.Spec PyProof.Rows L2
/-! ### built-ins called: arguments as places -/
abbrev MQ := Env → Out (List PV)
def PvsOk (T : Tab) : List PV → List V → L2.St → Hp → Prop
  | [], vs, _, _ => vs = []
  | p :: ps, vs, σ, B => ∃ v r, vs = v :: r ∧ PvOk T p v σ B ∧ PvsOk T ps r σ B
def tOfQ (T : Tab) (F : Fr0) (W : XK) (m : MQ) : TA := fun σ H Q => ∃ env B, Rel T F env σ B H ∧ (m env).wp (fun ps env' => ∀ vs B' H', Rel T F env' σ B' H' → Ex B B' → PvsOk T ps vs σ B' → Q vs H') (exPs T F W B σ)
def TrQ (X : Cx) (T : Tab) (es : List Expr) (m : MQ) : Prop := ∀ (F : Fr0) (W : XK), Lets X W → PA X es (tOfQ T F W m)
def qNil : MQ := fun env => .ok [] env
def qCons (m : MP) (n : MQ) : MQ := fun env => (m env).bind fun p env1 => (n env1).bind fun ps env2 => .ok (p :: ps) env2
theorem PvOk.mono {T : Tab} {p : PV} {v : V} {σ : L2.St} {B B' : Hp} (e : Ex B B') (h : PvOk T p v σ B) : PvOk T p v σ B' := by
  cases p with
  | v x => exact Is.mono e h
  | sl i => exact h
section
variable {X : Cx} {T : Tab} {e e1 e2 : Expr} {es : List Expr} {pos p : Pos} {x : Str}
theorem trQ_nil : TrQ X T [] qNil := fun F W tk => pa_imp pa_nil fun σ H Q ⟨env, B, R, q⟩ => q [] B H R (Evl.Ex.refl _) rfl
theorem trQ_cons {m : MP} {n : MQ} (h : TrP X T e m) (k : TrQ X T es n) (hs : starEach (e :: es) X.env = (false, eval e X.env) :: starEach es X.env := by rfl) : TrQ X T (e :: es) (qCons m n) :=
  fun F W tk => pa_imp (pa_cons (h F W tk) (k F W tk) hs) fun σ H Q ⟨env, B, R, q⟩ => ⟨env, B, R, Out.wp_mono (Out.wp_bind.mp q) (fun d env1 z => by
    intro v B1 H1 R1 e1 i
    exact ⟨env1, B1, R1, Out.wp_mono (Out.wp_bind.mp z) (fun ds env2 z2 vs B2 H2 R2 e2 is => z2 (v :: vs) B2 H2 R2 (e1.trans e2) ⟨v, vs, rfl, i.mono e2, is⟩) fun _ _ _ x => x.mono e1⟩) fun _ _ _ z => z⟩
def getAll (env : Env) : List PV → Option (List D)
  | [] => some []
  | p :: ps => (p.get env).bind fun d => (getAll env ps).map (d :: ·)
def TopL (T : Tab) : List D → List V → Hp → Hp → Prop
  | [], vs, _, _ => vs = []
  | d :: ds, vs, B, H => ∃ v r, vs = v :: r ∧ Top T d v B H ∧ TopL T ds r B H
theorem pvs_top {F : Fr0} {σ : L2.St} {B H : Hp} {env : Env} : ∀ {ps : List PV} {vs : List V} {ds : List D}, Rel T F env σ B H → PvsOk T ps vs σ B → getAll env ps = some ds → TopL T ds vs B H
  | [], vs, ds, R, h, g => by cases g; exact h
  | p :: ps, vs, ds, R, h, g => by
    obtain ⟨v, r, rfl, h1, h2⟩ := h
    unfold getAll at g
    obtain ⟨d, hd, g⟩ := Option.bind_eq_some_iff.mp g
    obtain ⟨ds', hds, rfl⟩ := Option.map_eq_some_iff.mp g
    exact ⟨v, r, rfl, pv_top R h1 (Evl.Ex.refl _) hd, pvs_top R h2 hds⟩
def mFn (f : List D → Option D) (m : MQ) : ME := fun env => (m env).bind fun ps env1 => ofO ((getAll env1 ps).bind f) env1
def OkC (T : Tab) (f : List D → Option D) (r : List V → Hp → VK → Prop) : Prop := ∀ (as : List D) (d : D) (xs : List V) (B H : Hp) (Q : VK), Ex B H → TopL T as xs B H → f as = some d → (∀ v B' H', Stp T [] B H B' H' → Is T d v B' → Q v H') → r xs H Q
/-- what gives a new list, dict of its own -/
def OkN (T : Tab) (f : List D → Option D) (r : List V → Hp → VK → Prop) : Prop := ∀ (as : List D) (d : D) (xs : List V) (B H : Hp) (Q : VK), Ex B H → TopL T as xs B H → f as = some d → (∀ a H', H a = none → Stp T [] B H B H' → Cell T d a B H' → Q (.ref a) H') → r xs H Q
theorem tOf_fn {F : Fr0} {W : XK} {f : List D → Option D} {m : MQ} {r : List V → Hp → VK → Prop} (hr : OkC T f r) {σ : L2.St} {H : Hp} {Q : VK} (h : tOf T F W (mFn f m) σ H Q) : tCB r (tOfQ T F W m) σ H Q := by
  obtain ⟨env, B, R, q⟩ := h
  refine ⟨env, B, R, Out.wp_mono (Out.wp_bind.mp q) (fun p env1 q1 => ?_) fun _ _ _ z => z⟩
  intro vs B1 H1 R1 e1 pv
  obtain ⟨d, hd, q3⟩ := ofO_wp q1
  obtain ⟨as, ha, hd⟩ := Option.bind_eq_some_iff.mp hd
  exact hr as d vs B1 H1 Q R1.exB (pvs_top R1 pv ha) hd fun v B' H' s is => q3 v B' H' (R1.step s) (e1.trans s.b) is
theorem tOfN_fn {F : Fr0} {W : XK} {f : List D → Option D} {m : MQ} {r : List V → Hp → VK → Prop} (hr : OkN T f r) {σ : L2.St} {H : Hp} {Q : VK} (h : tOfN T F W (mFn f m) σ H Q) : tCB r (tOfQ T F W m) σ H Q := by
  obtain ⟨env, B, R, q⟩ := h
  refine ⟨env, B, R, Out.wp_mono (Out.wp_bind.mp q) (fun p env1 q1 => ?_) fun _ _ _ z => z⟩
  intro vs B1 H1 R1 e1 pv
  obtain ⟨d, hd, q3⟩ := ofO_wp q1
  obtain ⟨as, ha, hd⟩ := Option.bind_eq_some_iff.mp hd
  exact hr as d vs B1 H1 Q R1.exB (pvs_top R1 pv ha) hd fun a H' n s c => q3 a B1 H' (R1.step s) e1 (ex_none R1.exB n) (R1.freeF n) (R1.notIn n) c
theorem trE_fnB {id : String} {f : List D → Option D} {m : MQ} {r : List V → Hp → VK → Prop} (hc : CallR X (.builtin id) r) (hr : OkC T f r) (hg : Gl X x) (hm : X.mg x = none) (hv : bootBuiltins x = some (.builtin id)) (ha : TrQ X T (e :: es) m)
    (hn : x ≠ "__name__" := by decide) (hdb : (x == ("__debug__" : Str)) = false := by decide) (he : starEach (e :: es) X.env = (false, eval e X.env) :: starEach es X.env := by rfl) (hpl : (backTo pos (starEach es X.env)).any (·.1) = false := by rfl) :
    TrE X T (.Call (.Name x p) (e :: es) [] pos) (mFn f m) := fun F W tk => pe_imp (pe_callB hc hg hm hv (ha F W tk) hn hdb he hpl) fun _ _ _ => tOf_fn hr
theorem trE_fnT {id : String} {f : List D → Option D} {m : MQ} {r : List V → Hp → VK → Prop} (hc : CallR X (.type id) r) (hr : OkC T f r) (hg : Gl X x) (hm : X.mg x = none) (hv : bootBuiltins x = some (.type id)) (ha : TrQ X T (e :: es) m)
    (hn : x ≠ "__name__" := by decide) (hdb : (x == ("__debug__" : Str)) = false := by decide) (he : starEach (e :: es) X.env = (false, eval e X.env) :: starEach es X.env := by rfl) (hpl : (backTo pos (starEach es X.env)).any (·.1) = false := by rfl) :
    TrE X T (.Call (.Name x p) (e :: es) [] pos) (mFn f m) := fun F W tk => pe_imp (pe_callTy hc hg hm hv (ha F W tk) hn hdb he hpl) fun _ _ _ => tOf_fn hr
theorem trN_fnB {id : String} {f : List D → Option D} {m : MQ} {r : List V → Hp → VK → Prop} (hc : CallR X (.builtin id) r) (hr : OkN T f r) (hg : Gl X x) (hm : X.mg x = none) (hv : bootBuiltins x = some (.builtin id)) (ha : TrQ X T (e :: es) m)
    (hn : x ≠ "__name__" := by decide) (hdb : (x == ("__debug__" : Str)) = false := by decide) (he : starEach (e :: es) X.env = (false, eval e X.env) :: starEach es X.env := by rfl) (hpl : (backTo pos (starEach es X.env)).any (·.1) = false := by rfl) :
    TrN X T (.Call (.Name x p) (e :: es) [] pos) (mFn f m) := fun F W tk => pe_imp (pe_callB hc hg hm hv (ha F W tk) hn hdb he hpl) fun _ _ _ => tOfN_fn hr
theorem trN_fnT {id : String} {f : List D → Option D} {m : MQ} {r : List V → Hp → VK → Prop} (hc : CallR X (.type id) r) (hr : OkN T f r) (hg : Gl X x) (hm : X.mg x = none) (hv : bootBuiltins x = some (.type id)) (ha : TrQ X T (e :: es) m)
    (hn : x ≠ "__name__" := by decide) (hdb : (x == ("__debug__" : Str)) = false := by decide) (he : starEach (e :: es) X.env = (false, eval e X.env) :: starEach es X.env := by rfl) (hpl : (backTo pos (starEach es X.env)).any (·.1) = false := by rfl) :
    TrN X T (.Call (.Name x p) (e :: es) [] pos) (mFn f m) := fun F W tk => pe_imp (pe_callTy hc hg hm hv (ha F W tk) hn hdb he hpl) fun _ _ _ => tOfN_fn hr
theorem callR_or {f : Value} {r s : List V → Hp → VK → Prop} (h : CallR X f r) (k : CallR X f s) : CallR X f (fun xs H Q => r xs H Q ∨ s xs H Q) := fun pins st σ H xs us Q I rv q => by
  rcases q with q | q
  · exact h pins st σ H xs us Q I rv q
  · exact k pins st σ H xs us Q I rv q
def cOr (f g : List D → Option D) : List D → Option D := fun a => match f a with
  | some d => some d
  | none => g a
theorem OkC.or {f g : List D → Option D} {r s : List V → Hp → VK → Prop} (h : OkC T f r) (k : OkC T g s) : OkC T (cOr f g) (fun xs H Q => r xs H Q ∨ s xs H Q) := fun as d xs B H Q e t hf q => by
  unfold cOr at hf
  split at hf
  · rename_i d' hd; cases hf; exact .inl (h as _ xs B H Q e t hd q)
  · exact .inr (k as d xs B H Q e t hf q)
theorem topL1 {d : D} {vs : List V} {B H : Hp} (h : TopL T [d] vs B H) : ∃ v, vs = [v] ∧ Top T d v B H := by
  obtain ⟨v, r, rfl, h1, h2⟩ := h
  cases (show r = [] from h2)
  exact ⟨v, rfl, h1⟩
theorem topL2 {d1 d2 : D} {vs : List V} {B H : Hp} (h : TopL T [d1, d2] vs B H) : ∃ v w, vs = [v, w] ∧ Top T d1 v B H ∧ Top T d2 w B H := by
  obtain ⟨v, r, rfl, h1, h2⟩ := h
  obtain ⟨w, rfl, h3⟩ := topL1 h2
  exact ⟨v, w, rfl, h1, h3⟩
theorem top_lst {ds : List D} {v : V} {B H : Hp} (e : Ex B H) (h : Top T (.lst ds) v B H) : ∃ a xs, v = .ref a ∧ Rd H a (.lst xs) ∧ IsL T ds xs B := by
  rcases h with h | ⟨a, rfl, xs, h1, h2⟩
  · obtain ⟨a, xs, h0, h1, h2⟩ := is_lst.mp h; exact ⟨a, xs, h0, rdX e h1, h2⟩
  · exact ⟨a, xs, rfl, .inl h1, h2⟩
theorem top_lstX {ds : List D} {v : V} {B H : Hp} (e : Ex B H) (h : Top T (.lst ds) v B H) : ∃ a xs, v = .ref a ∧ H a = some (.lst xs) ∧ IsL T ds xs B := by
  rcases h with h | ⟨a, rfl, xs, h1, h2⟩
  · obtain ⟨a, xs, h0, h1, h2⟩ := is_lst.mp h; exact ⟨a, xs, h0, e _ _ h1, h2⟩
  · exact ⟨a, xs, rfl, h1, h2⟩
theorem top_rdl {ds : List D} {v : V} {B H : Hp} (e : Ex B H) (h : Top T (.rdl ds) v B H) : ∃ a xs, v = .ref a ∧ SqL T.K H a xs ∧ IsL T ds xs B := by
  rcases h with h | ⟨a, rfl, h⟩
  · obtain ⟨a, xs, h0, h1, h2⟩ := is_rdl.mp h; exact ⟨a, xs, h0, Evl.ex_l e h1, h2⟩
  · exact h.elim
theorem top_tup {ds : List D} {v : V} {B H : Hp} (e : Ex B H) (h : Top T (.tup ds) v B H) : ∃ a xs, v = .ref a ∧ H a = some (.tup xs) ∧ IsL T ds xs B := by
  rcases h with h | ⟨a, rfl, h⟩
  · obtain ⟨a, xs, h0, h1, h2⟩ := is_tup.mp h; exact ⟨a, xs, h0, e _ _ h1, h2⟩
  · exact h.elim
theorem top_dct {ds : List (Key × D)} {v : V} {B H : Hp} (e : Ex B H) (h : Top T (.dct ds) v B H) : ∃ a xs, v = .ref a ∧ H a = some (.dK xs) ∧ IsK T ds xs B := by
  rcases h with h | ⟨a, rfl, xs, h1, h2⟩
  · obtain ⟨a, xs, h0, h1, h2⟩ := is_dct.mp h; exact ⟨a, xs, h0, e _ _ h1, h2⟩
  · exact ⟨a, xs, rfl, h1, h2⟩
theorem top_ins {c : Nat} {ds : List D} {v : V} {B H : Hp} (e : Ex B H) (h : Top T (.ins c ds) v B H) : ∃ a dx fs, v = .ref a ∧ H a = some (.ins (T.adr c) dx fs) ∧ fs.map (·.1) = (T.fld c).take ds.length ∧ IsL T ds (fs.map (·.2)) B := by
  rcases h with h | ⟨a, rfl, dx, fs, h1, h2, h3⟩
  · obtain ⟨a, dx, fs, h0, h1, h2, h3⟩ := is_ins.mp h; exact ⟨a, dx, fs, h0, e _ _ h1, h2, h3⟩
  · exact ⟨a, dx, fs, rfl, h1, h2, h3⟩
theorem top_ty {n : String} {v : V} {B H : Hp} (h : Top T (.ty n) v B H) : v = .ty n := by
  rcases h with h | ⟨a, _, h⟩
  · exact is_ty.mp h
  · exact h.elim
theorem top_cls {n : Nat} {v : V} {B H : Hp} (h : Top T (.cls n) v B H) : v = .ref (T.adr n) := by
  rcases h with h | ⟨a, _, h⟩
  · exact is_cls.mp h
  · exact h.elim
/-! ### isinstance -/
/-- what the text's classes are -/
structure ClsF (T : Tab) (c : Nat) : Prop where
  cl : Cls T.K (T.adr c)
  ha : PySem.W.findIn T.K (.ref (T.adr c)) "__class__" = some (some (.builtin "object.__class__"))
  hn : PySem.W.specialIn T.K (.builtin "object.__class__") "__get__" = some (some (.builtin "getset_descriptor.__get__"))
  htk : PySem.W.takesIn T.K (.builtin "object.__class__") = some true
  hm : PySem.W.mroIn T.K (T.adr c) (.type "object") = some true
  fl : ∀ f ∈ T.fld c, NoAttr T.K (T.adr c) f
  nd : (T.fld c).Nodup
  few : (T.fld c).length ≤ 900
def knownT (n : String) : Bool := ["int", "bool", "str", "list", "tuple", "dict"].contains n
structure TabOk (T : Tab) : Prop where
  cls : ∀ c, c < T.n → ClsF T c
  own : ∀ c d, c < T.n → d < T.n → PySem.W.kitOne T.K (.ref (T.adr c)) (.ref (T.adr d)) = some (T.kin c d)
  ob : ∀ c n, c < T.n → knownT n = true → PySem.W.kitOne T.K (.ref (T.adr c)) (.type n) = some false
  bo : ∀ n d, d < T.n → (knownT n || n == "NoneType") = true → PySem.W.kitOne T.K (.type n) (.ref (T.adr d)) = some false
inductive Ty where
  | b (n : String) | c (k : Nat)
def tyD : D → Option Ty
  | .non => some (.b "NoneType")
  | .bl _ => some (.b "bool")
  | .int _ => some (.b "int")
  | .str _ => some (.b "str")
  | .tup _ => some (.b "tuple")
  | .lst _ => some (.b "list")
  | .dct _ => some (.b "dict")
  | .ins c _ => some (.c c)
  | _ => none
def isiB (a b : String) : Bool := a == b || (a == "bool" && b == "int")
def isiT (T : Tab) : Option Ty → D → Option Bool
  | some (.b a), .ty b => if knownT b && (knownT a || a == "NoneType") then some (isiB a b) else none
  | some (.b a), .cls k => if decide (k < T.n) && (knownT a || a == "NoneType") then some false else none
  | some (.c j), .ty b => if decide (j < T.n) && knownT b then some false else none
  | some (.c j), .cls k => if decide (j < T.n) && decide (k < T.n) then some (T.kin j k) else none
  | _, _ => none
def isiAny (T : Tab) (t : Option Ty) : List D → Option Bool
  | [] => some false
  | c :: r => match isiT T t c with
    | some true => some true
    | some false => isiAny T t r
    | none => none
def isCls : D → Bool
  | .ty _ => true
  | .cls _ => true
  | _ => false
def fIsi (T : Tab) : List D → Option D
  | [a, .tup cs] => if cs.all isCls && !cs.isEmpty then (isiAny T (tyD a) cs).map .bl else none
  | [a, c] => (isiT T (tyD a) c).map .bl
  | _ => none
def tyV (T : Tab) : Ty → Value
  | .b n => .type n
  | .c k => .ref (T.adr k)
theorem known_mem {n : String} (h : knownT n = true) : n = "int" ∨ n = "bool" ∨ n = "str" ∨ n = "list" ∨ n = "tuple" ∨ n = "dict" := by
  unfold knownT at h
  simpa using h
theorem kit_bb {a b : String} (ha : (knownT a || a == "NoneType") = true) (hb : knownT b = true) (K : PySem.W.Frag) : PySem.W.kitOne K (.type a) (.type b) = some (isiB a b) := by
  refine kit_ty ?_
  have ha' : a = "NoneType" ∨ knownT a = true := by
    rcases Bool.or_eq_true_iff.mp ha with h | h
    · exact .inr h
    · exact .inl (by simpa using h)
  have ha2 : a = "NoneType" ∨ a = "int" ∨ a = "bool" ∨ a = "str" ∨ a = "list" ∨ a = "tuple" ∨ a = "dict" := ha'.imp id known_mem
  rcases known_mem hb with rfl | rfl | rfl | rfl | rfl | rfl <;> rcases ha2 with rfl | rfl | rfl | rfl | rfl | rfl | rfl <;> decide +kernel
theorem isiT_ok (K : TabOk T) {t : Ty} {c : D} {b : Bool} (h : isiT T (some t) c = some b) : ∃ u v, (∀ H, Is T c v H) ∧ ClsV v u ∧ PySem.W.kitOne T.K (tyV T t) u = some b := by
  cases t with
  | b a =>
    cases c with
    | ty n =>
      have h' : (if knownT n && (knownT a || a == "NoneType") then some (isiB a n) else none) = some b := h
      split at h'
      · rename_i c; cases h'
        obtain ⟨c1, c2⟩ := Bool.and_eq_true_iff.mp c
        exact ⟨_, .ty n, fun _ => is_ty.mpr rfl, .ty n, kit_bb c2 c1 _⟩
      · cases h'
    | cls k =>
      have h' : (if decide (k < T.n) && (knownT a || a == "NoneType") then some false else none) = some b := h
      split at h'
      · rename_i c; cases h'
        obtain ⟨c1, c2⟩ := Bool.and_eq_true_iff.mp c
        exact ⟨_, .ref (T.adr k), fun _ => is_cls.mpr rfl, .own _, K.bo a k (of_decide_eq_true c1) c2⟩
      · cases h'
    | _ => cases h
  | c j =>
    cases c with
    | ty n =>
      have h' : (if decide (j < T.n) && knownT n then some false else none) = some b := h
      split at h'
      · rename_i c; cases h'
        obtain ⟨c1, c2⟩ := Bool.and_eq_true_iff.mp c
        exact ⟨_, .ty n, fun _ => is_ty.mpr rfl, .ty n, K.ob j n (of_decide_eq_true c1) c2⟩
      · cases h'
    | cls k =>
      have h' : (if decide (j < T.n) && decide (k < T.n) then some (T.kin j k) else none) = some b := h
      split at h'
      · rename_i c; cases h'
        obtain ⟨c1, c2⟩ := Bool.and_eq_true_iff.mp c
        exact ⟨_, .ref (T.adr k), fun _ => is_cls.mpr rfl, .own _, K.own j k (of_decide_eq_true c1) (of_decide_eq_true c2)⟩
      · cases h'
    | _ => cases h
theorem ty_ok (K : TabOk T) {a : D} {t : Ty} {v : V} {B H : Hp} (e : Ex B H) (h : Top T a v B H) (ht : tyD a = some t) (hc : ∀ c, t = .c c → c < T.n) : TyX T.K H v (tyV T t) := by
  cases a with
  | non => cases ht; rw [top_non h]; exact .base .non
  | bl => cases ht; rw [top_bl h]; exact .base (.bl _)
  | int => cases ht; rw [top_int h]; exact .base (.int _)
  | str => cases ht; rw [top_str h]; exact .base (.str _)
  | tup ds =>
    cases ht
    obtain ⟨a, xs, rfl, h1, _⟩ := top_tup e h
    exact .base (.tup h1)
  | lst ds =>
    cases ht
    obtain ⟨a, xs, rfl, h1, _⟩ := top_lst e h
    rcases h1 with h1 | ⟨o, h1⟩
    · exact .base (.lst h1)
    · exact .base (.frz h1)
  | dct ds =>
    cases ht
    obtain ⟨a, xs, rfl, h1, _⟩ := top_dct e h
    exact .base (.dK h1)
  | ins c ds =>
    cases ht
    obtain ⟨a, dx, fs, rfl, h1, _⟩ := top_ins e h
    have f := K.cls c (hc c rfl)
    exact .base (.ins h1 f.cl f.ha f.hn f.htk f.hm)
  | _ => cases ht
theorem isiT_lt {t : Ty} {c : D} {b : Bool} (h : isiT T (some t) c = some b) : ∀ k, t = .c k → k < T.n := fun k e => by
  subst e
  cases c with
  | ty n =>
    have h' : (if decide (k < T.n) && knownT n then some false else none) = some b := h
    split at h'
    · rename_i c; exact of_decide_eq_true (Bool.and_eq_true_iff.mp c).1
    · cases h'
  | cls j =>
    have h' : (if decide (k < T.n) && decide (j < T.n) then some (T.kin k j) else none) = some b := h
    split at h'
    · rename_i c; exact of_decide_eq_true (Bool.and_eq_true_iff.mp c).1
    · cases h'
  | _ => cases h
theorem isi_some {t : Option Ty} {c : D} {b : Bool} (h : isiT T t c = some b) : ∃ t', t = some t' := by
  cases t with
  | none => cases c <;> cases h
  | some t => exact ⟨t, rfl⟩
def clsW (T : Tab) : D → Value
  | .ty n => .type n
  | .cls k => .ref (T.adr k)
  | _ => .none
theorem cls_pair : ∀ {cs : List D} {vs : List V} {B : Hp}, cs.all isCls = true → IsL T cs vs B → Paired ClsV vs (cs.map (clsW T))
  | [], vs, B, _, i => by rw [isL_nil.mp i]; exact .nil
  | c :: cs, vs, B, h, i => by
    obtain ⟨v, r, rfl, h1, h2⟩ := isL_cons.mp i
    rw [List.all_cons] at h
    obtain ⟨c1, c2⟩ := Bool.and_eq_true_iff.mp h
    refine .cons ?_ (cls_pair c2 h2)
    cases c with
    | ty n => rw [is_ty.mp h1]; exact .ty n
    | cls k => rw [is_cls.mp h1]; exact .own _
    | _ => cases c1
theorem isiT_at (K : TabOk T) {t : Ty} {c : D} {b : Bool} (h : isiT T (some t) c = some b) : PySem.W.kitOne T.K (tyV T t) (clsW T c) = some b := by
  obtain ⟨u, v, h1, h2, h3⟩ := isiT_ok K h
  cases c with
  | ty n => have q := is_ty.mp (h1 (fun _ => none)); subst q; cases h2; exact h3
  | cls k => have q := is_cls.mp (h1 (fun _ => none)); subst q; cases h2; exact h3
  | _ => cases t <;> cases h
theorem isiAny_at (K : TabOk T) {t : Ty} : ∀ {cs : List D} {b : Bool}, isiAny T (some t) cs = some b → PySem.W.kitAny T.K (tyV T t) (cs.map (clsW T)) = some b
  | [], b, h => by cases h; rfl
  | c :: cs, b, h => by
    unfold isiAny at h
    rw [List.map_cons]
    unfold PySem.W.kitAny
    split at h
    · rename_i q; cases h; rw [isiT_at K q]
    · rename_i q; rw [isiT_at K q]; exact isiAny_at K h
    · cases h
theorem isiAny_lt {t : Ty} : ∀ {cs : List D} {b : Bool}, cs ≠ [] → isiAny T (some t) cs = some b → ∀ k, t = .c k → k < T.n
  | [], b, n, h => absurd rfl n
  | c :: cs, b, _, h => by
    unfold isiAny at h
    split at h
    · rename_i q; exact isiT_lt q
    · rename_i q; exact isiT_lt q
    · cases h
theorem isiAny_some {t : Option Ty} : ∀ {cs : List D} {b : Bool}, cs ≠ [] → isiAny T t cs = some b → ∃ t', t = some t'
  | [], b, n, h => absurd rfl n
  | c :: cs, b, _, h => by
    unfold isiAny at h
    split at h
    · rename_i q; exact isi_some q
    · rename_i q; exact isi_some q
    · cases h
theorem ok_isi (K : TabOk T) : OkC T (fIsi T) (fun xs H Q => rIsi T.K xs H Q ∨ rIsiT T.K xs H Q) := fun as d xs B H Q e t hf q => by
  unfold fIsi at hf
  split at hf
  · rename_i a cs
    split at hf
    · rename_i hc
      obtain ⟨b, hb, rfl⟩ := Option.map_eq_some_iff.mp hf
      obtain ⟨v, w, rfl, t1, t2⟩ := topL2 t
      obtain ⟨hc, n'⟩ := Bool.and_eq_true_iff.mp hc
      have n : cs ≠ [] := fun z => by subst z; cases n'
      obtain ⟨ty, hty⟩ := isiAny_some n hb
      rw [hty] at hb
      obtain ⟨p, ys, rfl, h1, h2⟩ := top_tup e t2
      exact .inr ⟨v, p, ys, _, _, b, rfl, h1, cls_pair hc h2, ty_ok K e t1 hty (isiAny_lt n hb), isiAny_at K hb, q _ B H (Stp.refl e) (is_bl.mpr rfl)⟩
    · cases hf
  · rename_i a c n
    obtain ⟨b, hb, rfl⟩ := Option.map_eq_some_iff.mp hf
    obtain ⟨v, w, rfl, t1, t2⟩ := topL2 t
    obtain ⟨ty, hty⟩ := isi_some hb
    rw [hty] at hb
    obtain ⟨u, z, h1, h2, h3⟩ := isiT_ok K hb
    have hw : w = z := by
      cases c with
      | ty m => rw [top_ty t2]; exact (is_ty.mp (h1 B)).symm
      | cls m => rw [top_cls t2]; exact (is_cls.mp (h1 B)).symm
      | _ => cases ty <;> cases hb
    subst hw
    exact .inl ⟨v, w, _, u, b, rfl, h2, ty_ok K e t1 hty (isiT_lt hb), h3, q _ B H (Stp.refl e) (is_bl.mpr rfl)⟩
  · cases hf
end
end Ml
set_option maxRecDepth 100000
set_option maxHeartbeats 2000000
namespace Ml
open PySem PySem.Spec PyProof.Rows L2
/-! ### targets -/
abbrev MG := D → Env → Option Env
/-- the slots but those of sl are as they were -/
def Off (sl : List Nat) (σ σ' : L2.St) : Prop := σ'.length = σ.length ∧ ∀ j : Nat, j ∉ sl → σ'[j]? = σ[j]?
theorem Off.refl {sl : List Nat} {σ : L2.St} : Off sl σ σ := ⟨rfl, fun _ _ => rfl⟩
theorem Off.trans {a b : List Nat} {σ σ1 σ2 : L2.St} (h : Off a σ σ1) (k : Off b σ1 σ2) : Off (a ++ b) σ σ2 := ⟨k.1.trans h.1, fun j n => by
  rw [List.mem_append, not_or] at n
  exact (k.2 j n.2).trans (h.2 j n.1)⟩
def tOfG (T : Tab) (F : Fr0) (mg : MG) (sl : List Nat) : TG := fun v σ H Q => ∃ env B d env', Rel T F env σ B H ∧ Is T d v B ∧ mg d env = some env' ∧ ∀ σ', Rel T F env' σ' B H → Off sl σ σ' → Q σ' H
def TrG (X : Cx) (T : Tab) (tg : Expr) (mg : MG) (sl : List Nat) : Prop := ∀ F, PG X tg (tOfG T F mg sl)
abbrev MGs := List D → Env → Option Env
def tOfGs (T : Tab) (F : Fr0) (mg : MGs) (sl : List Nat) : TGs := fun vs σ H Q => ∃ env B ds env', Rel T F env σ B H ∧ IsL T ds vs B ∧ mg ds env = some env' ∧ ∀ σ', Rel T F env' σ' B H → Off sl σ σ' → Q σ' H
def TrGs (X : Cx) (T : Tab) (tgs : List Expr) (mg : MGs) (sl : List Nat) : Prop := ∀ F, PGs X tgs (tOfGs T F mg sl)
def gNm (i : Nat) : MG := fun d env => putIm i d env
def gsNil : MGs := fun ds env => match ds with
  | [] => some env
  | _ => none
def gsCons (g : MG) (gs : MGs) : MGs := fun ds env => match ds with
  | d :: r => (g d env).bind (gs r)
  | [] => none
def gTp (n : Nat) (gs : MGs) : MG := fun d env => match d with
  | .tup ds => if ds.length = n then gs ds env else none
  | .lst ds => if ds.length = n then gs ds env else none
  | _ => none
theorem pg_imp {X : Cx} {tg : Expr} {t t' : TG} (h : PG X tg t) (i : ∀ v σ H Q, t' v σ H Q → t v σ H Q) : PG X tg t' := ⟨fun pins s σ H v u Q I r q => h.run pins s σ H v u Q I r (i v σ H Q q)⟩
theorem pgs_imp {X : Cx} {tg : List Expr} {t t' : TGs} (h : PGs X tg t) (i : ∀ v σ H Q, t' v σ H Q → t v σ H Q) : PGs X tg t' := ⟨fun pins s σ H v u Q I r q => h.run pins s σ H v u Q I r (i v σ H Q q)⟩
theorem pg_or {X : Cx} {tg : Expr} {t t' : TG} (h : PG X tg t) (k : PG X tg t') : PG X tg (fun v σ H Q => t v σ H Q ∨ t' v σ H Q) := ⟨fun pins s σ H v u Q I r q => by
  rcases q with q | q
  · exact h.run pins s σ H v u Q I r q
  · exact k.run pins s σ H v u Q I r q⟩
section
variable {X : Cx} {T : Tab} {e e1 e2 tg : Expr} {es tgs : List Expr} {pos p : Pos} {x : Str} {sts : List Stmt}
theorem trG_name {i : Nat} (hN : X.N.Nodup) (hi : X.N[i]? = some x := by rfl) (hx : Loc X.env.scope x := by first | exact Or.inl rfl | exact Or.inr rfl) (hf : X.fn x = true ∨ X.env.scope.names.lookup x = some .local := by first | exact .inl rfl | exact .inr rfl) : TrG X T (.Name x pos) (gNm i) [i] :=
  fun F => pg_imp (pg_name hN hi hx hf) fun v σ H Q ⟨env, B, d, env', R, is, h, q⟩ => by
    obtain ⟨n1, n2, rfl⟩ := putIm_ok h
    refine q _ (R.set is n1 n2) ⟨by simp, fun j n => ?_⟩
    exact List.getElem?_set_ne (fun z => n (by rw [z]; exact List.mem_cons_self))
theorem trGs_nil : TrGs X T [] gsNil [] := fun F => pgs_imp pgs_nil fun vs σ H Q ⟨env, B, ds, env', R, is, h, q⟩ => by
  cases ds with
  | nil =>
    have h' : some env = some env' := h
    cases h'
    exact ⟨isL_nil.mp is, q σ R .refl⟩
  | cons d ds => cases h
theorem trGs_cons {g : MG} {gs : MGs} {a b : List Nat} (h : TrG X T tg g a) (k : TrGs X T tgs gs b)
    (hs : (assignEach (tg :: tgs) X.env).map (·.2) = assign tg X.env :: (assignEach tgs X.env).map (·.2) := by rfl) : TrGs X T (tg :: tgs) (gsCons g gs) (a ++ b) := fun F => pgs_imp (pgs_cons (h F) (k F) hs) fun vs σ H Q ⟨env, B, ds, env', R, is, h, q⟩ => by
  cases ds with
  | nil => cases h
  | cons d ds =>
    obtain ⟨v, r, rfl, i1, i2⟩ := isL_cons.mp is
    have h' : (g d env).bind (gs ds) = some env' := h
    obtain ⟨env1, h1, h2⟩ := Option.bind_eq_some_iff.mp h'
    exact ⟨v, r, rfl, env, B, d, env1, R, i1, h1, fun σ1 R1 o1 => ⟨env1, B, ds, env', R1, i2, h2, fun σ2 R2 o2 => q σ2 R2 (o1.trans o2)⟩⟩
theorem trG_tup {k n : Nat} {gs : MGs} {a : List Nat} (hc : X.calm = true) (h : TrGs X T tgs gs a) (hn : (assignEach tgs X.env).length = n := by rfl) (hst : (assignEach tgs X.env).findIdx? (·.1) = none := by rfl) : TrG X T (.Tuple tgs k pos) (gTp n gs) a :=
  fun F => pg_imp (pg_or (pg_tup hc (h F) hn hst) (pg_lst hc (h F) hn hst)) fun v σ H Q ⟨env, B, d, env', R, is, hg, q⟩ => by
    unfold gTp at hg
    split at hg
    · rename_i ds
      split at hg
      · rename_i hl
        obtain ⟨a, xs, rfl, h1, h2⟩ := is_tup.mp is
        exact .inl ⟨a, xs, rfl, SqT.of (R.exB _ _ h1), by rw [h2.length, hl], env, B, ds, env', R, h2, hg, q⟩
      · cases hg
    · rename_i ds
      split at hg
      · rename_i hl
        obtain ⟨a, xs, rfl, h1, h2⟩ := is_lst.mp is
        exact .inr ⟨a, xs, rfl, .inl (rdX R.exB h1), by rw [h2.length, hl], env, B, ds, env', R, h2, hg, q⟩
      · cases hg
    · cases hg
/-- targets of an assignment -/
def sAsg (m : ME) (g : MG) : MS := fun env => (m env).bindS fun d env1 => ofE (g d env1)
theorem trS_asg {m : ME} {g : MG} {a : List Nat} (he : TrE X T e m) (hg : TrG X T tg g a) (hs : swapsWithSole [tg] e pos.line X.env = pure false := by rfl) (hw : swappedStores [tg] e X.env = pure none := by rfl) (h1 : (assignEach [tg] X.env).map (·.2) = [assign tg X.env] := by rfl) : TrS X T (.Assign [tg] e pos) (sAsg m g) :=
  fun F W tk => ps_imp (ps_asg (he F W tk) (hg F) hs hw h1) fun D σ H ⟨env, B, R, q⟩ => ⟨env, B, R, Out.wp_mono (Out.wp_bindS.mp q) (fun d env1 z v B1 H1 R1 e1 is => by
    obtain ⟨env2, h2, z⟩ := ofE_wp z
    exact ⟨env1, B1, d, env2, R1, is, h2, fun σ' R' _ => z σ' B1 H1 R' e1⟩) fun _ _ _ z => exP.to z⟩
/-! ### what is walked -/
def YD (T : Tab) (ds : List D) (B0 : Hp) : Nat → Hp → V → Hp → Prop := fun i H x H' => ∀ B, Ex B0 B → Ex B H → ∃ B' d, ds[i]? = some d ∧ Stp T [] B H B' H' ∧ Is T d x B'
def tOfI (T : Tab) (F : Fr0) (W : XK) (m : MA) : TI := fun σ H R => ∃ env B, Rel T F env σ B H ∧ (m env).wp (fun ds env' => ∀ J B' H', Rel T F env' σ B' H' → Ex B B' → Walk J ds.length (fun H => Ex B' H) (YD T ds B') → R J H') (exPs T F W B σ)
def TrI (X : Cx) (T : Tab) (tg it : Expr) (m : MA) : Prop := ∀ (F : Fr0) (W : XK), Lets X W → PI X tg it (tOfI T F W m)
theorem pi_imp {tg it : Expr} {w w' : TI} (h : PI X tg it w) (i : ∀ σ H R, w' σ H R → w σ H R) : PI X tg it w' := ⟨fun pins s σ H R I q => h.run pins s σ H R I (i σ H R q)⟩
theorem pi_or {tg it : Expr} {w w' : TI} (h : PI X tg it w) (k : PI X tg it w') : PI X tg it (fun σ H R => w σ H R ∨ w' σ H R) := ⟨fun pins s σ H R I q => by
  rcases q with q | q
  · exact h.run pins s σ H R I q
  · exact k.run pins s σ H R I q⟩
theorem yd_same {ds : List D} {xs : List V} {B0 : Hp} (h : IsL T ds xs B0) {i : Nat} {H H' : Hp} {x : V} (y : YAt xs i H x H') : YD T ds B0 i H x H' := fun B e1 e2 => by
  obtain ⟨rfl, y⟩ := y
  obtain ⟨d, hd, is⟩ := h.getV y
  exact ⟨B, d, hd, Stp.refl e2, is.mono e1⟩
theorem walk_lstD {ds : List D} {xs : List V} {a : Addr} {B0 : Hp} (h : IsL T ds xs B0) (r : SqL T.K B0 a xs) : Walk (Itl T.K a) ds.length (fun H => Ex B0 H) (YD T ds B0) := by
  rw [← h.length]
  exact (walk_list (K := T.K) (a := a) (xs := xs)).mono (fun H e => Evl.ex_l e r) fun i H x H' _ _ y => yd_same h y
theorem walk_tupD {ds : List D} {xs : List V} {a : Addr} {B0 : Hp} (h : IsL T ds xs B0) (r : B0 a = some (.tup xs)) : Walk (Itt T.K a) ds.length (fun H => Ex B0 H) (YD T ds B0) := by
  rw [← h.length]
  exact (walk_tup (K := T.K) (a := a) (xs := xs)).mono (fun H e => SqT.of (e _ _ r)) fun i H x H' _ _ y => yd_same h y
/-- a list, a tuple, a text that is walked -/
def iSeq (m : ME) : MA := fun env => (m env).bind fun d env1 => match d with
  | .lst ds => .ok ds env1
  | .rdl ds => .ok ds env1
  | .tup ds => .ok ds env1
  | _ => .stuck
theorem trI_seq {m : ME} (hK : X.K = T.K) (h : TrE X T e m) : TrI X T tg e (iSeq m) := fun F W tk => pi_imp (pi_or (pi_list (h F W tk)) (pi_tup (h F W tk))) fun σ H R ⟨env, B, R0, q⟩ => by
  have q2 := Out.wp_bind.mp q
  cases hm : m env with
  | ok d env1 =>
    rw [hm] at q2
    cases d with
    | lst ds =>
      refine .inl ⟨env, B, R0, ?_⟩
      rw [hm]
      intro v B1 H1 R1 e1 is
      obtain ⟨a, xs, rfl, h1, h2⟩ := is_lst.mp is
      rw [hK]
      exact ⟨a, rfl, ⟨xs, .inl (rdX R1.exB h1)⟩, q2 _ B1 H1 R1 e1 (walk_lstD h2 (.inl (.inl h1)))⟩
    | rdl ds =>
      refine .inl ⟨env, B, R0, ?_⟩
      rw [hm]
      intro v B1 H1 R1 e1 is
      obtain ⟨a, xs, rfl, h1, h2⟩ := is_rdl.mp is
      rw [hK]
      exact ⟨a, rfl, ⟨xs, Evl.ex_l R1.exB h1⟩, q2 _ B1 H1 R1 e1 (walk_lstD h2 h1)⟩
    | tup ds =>
      refine .inr ⟨env, B, R0, ?_⟩
      rw [hm]
      intro v B1 H1 R1 e1 is
      obtain ⟨a, xs, rfl, h1, h2⟩ := is_tup.mp is
      rw [hK]
      exact ⟨a, rfl, ⟨xs, SqT.of (R1.exB _ _ h1)⟩, q2 _ B1 H1 R1 e1 (walk_tupD h2 h1)⟩
    | _ => exact q2.elim
  | ex c fs env1 =>
    rw [hm] at q2
    refine .inl ⟨env, B, R0, ?_⟩
    rw [hm]
    exact q2
  | stuck => rw [hm] at q2; exact q2.elim
def signs (s : Str) : List D := s.cps.toList.map fun c => .str ⟨#[c]⟩
def iStr (m : ME) : MA := fun env => (m env).bind fun d env1 => match d with
  | .str s => .ok (signs s) env1
  | _ => .stuck
theorem trI_str {m : ME} (h : TrE X T e m) : TrI X T tg e (iStr m) := fun F W tk => pi_imp (pi_str (h F W tk)) fun σ H R ⟨env, B, R0, q⟩ => ⟨env, B, R0, Out.wp_mono (Out.wp_bind.mp q) (fun d env1 z v B1 H1 R1 e1 is => by
  cases d with
  | str s =>
    refine ⟨s, is_str.mp is, z _ B1 H1 R1 e1 ?_⟩
    have hl : (signs s).length = s.cps.size := by unfold signs; simp
    rw [hl]
    refine (walk_str (z := s)).mono (fun _ _ => trivial) fun i H x H' _ _ y => fun B e1 e2 => ?_
    obtain ⟨rfl, c, hc, rfl⟩ := y
    refine ⟨B, .str ⟨#[c]⟩, ?_, Stp.refl e2, is_str.mpr rfl⟩
    unfold signs
    rw [List.getElem?_map, Array.getElem?_toList, hc]; rfl
  | _ => exact z.elim) fun _ _ _ z => z⟩
def rangeD (lo : Int) (n : Nat) : List D := (List.range n).map fun i => .int (lo + (i : Nat))
theorem rangeD_len (lo : Int) (n : Nat) : (rangeD lo n).length = n := by unfold rangeD; simp
theorem walk_rangeD {lo : Int} {n : Nat} {B0 : Hp} : Walk (Itr lo n) (rangeD lo n).length (fun H => Ex B0 H) (YD T (rangeD lo n) B0) := by
  rw [rangeD_len]
  refine (walk_range (lo := lo) (n := n)).mono (fun _ _ => trivial) fun i H x H' hi _ y => fun B e1 e2 => ?_
  obtain ⟨rfl, rfl⟩ := y
  refine ⟨B, .int (lo + (i : Nat)), ?_, Stp.refl e2, is_int.mpr rfl⟩
  unfold rangeD
  rw [List.getElem?_map, List.getElem?_range hi]; rfl
def small62 (i : Int) : Bool := decide (-(2 ^ 62) ≤ i) && decide (i < 2 ^ 62)
theorem small62_ok {i : Int} (h : small62 i = true) : -(2 ^ 62) ≤ i ∧ i < 2 ^ 62 := by
  unfold small62 at h
  obtain ⟨a, b⟩ := Bool.and_eq_true_iff.mp h
  exact ⟨of_decide_eq_true a, of_decide_eq_true b⟩
def iRg1 (m : MA) : MA := fun env => (m env).bind fun ds env1 => match ds with
  | [.int j] => if small62 j then .ok (rangeD 0 j.toNat) env1 else .stuck
  | _ => .stuck
def iRg2 (m : MA) : MA := fun env => (m env).bind fun ds env1 => match ds with
  | [.int i, .int j] => if small62 i && small62 j then .ok (rangeD i (j - i).toNat) env1 else .stuck
  | _ => .stuck
theorem trI_range1 {a : Expr} {m : MA} (hg : Gl X "range") (hm : X.mg "range" = none) (ha : TrA X T [a] m) (hs : starEach [a] X.env = [(false, eval a X.env)] := by rfl) : TrI X T tg (.Call (.Name "range" p) [a] [] pos) (iRg1 m) :=
  fun F W tk => pi_imp (pi_range1 hg hm (ha F W tk) hs) fun σ H R ⟨env, B, R0, q⟩ => ⟨env, B, R0, Out.wp_mono (Out.wp_bind.mp q) (fun ds env1 z vs B1 H1 R1 e1 is => by
    split at z
    · rename_i j
      split at z
      · rename_i c
        obtain ⟨v, r, rfl, i1, i2⟩ := isL_cons.mp is
        cases is_int.mp i1
        cases isL_nil.mp i2
        obtain ⟨c1, c2⟩ := small62_ok c
        exact ⟨j, rfl, c1, c2, z _ B1 H1 R1 e1 walk_rangeD⟩
      · exact z.elim
    · exact z.elim) fun _ _ _ z => z⟩
theorem trI_range2 {a b : Expr} {m : MA} (hg : Gl X "range") (hm : X.mg "range" = none) (ha : TrA X T [a, b] m) (hs : starEach [a, b] X.env = [(false, eval a X.env), (false, eval b X.env)] := by rfl) (hs2 : starEach [b] X.env = [(false, eval b X.env)] := by rfl) :
    TrI X T tg (.Call (.Name "range" p) [a, b] [] pos) (iRg2 m) :=
  fun F W tk => pi_imp (pi_range2 hg hm (ha F W tk) hs hs2) fun σ H R ⟨env, B, R0, q⟩ => ⟨env, B, R0, Out.wp_mono (Out.wp_bind.mp q) (fun ds env1 z vs B1 H1 R1 e1 is => by
    split at z
    · rename_i i j
      split at z
      · rename_i c
        obtain ⟨v, r, rfl, i1, i2⟩ := isL_cons.mp is
        obtain ⟨v2, r2, rfl, i3, i4⟩ := isL_cons.mp i2
        cases is_int.mp i1
        cases is_int.mp i3
        cases isL_nil.mp i4
        obtain ⟨c1, c2⟩ := Bool.and_eq_true_iff.mp c
        obtain ⟨c1, c3⟩ := small62_ok c1
        obtain ⟨c2, c4⟩ := small62_ok c2
        exact ⟨i, j, rfl, ⟨c1, c3, c2, c4⟩, z _ B1 H1 R1 e1 walk_rangeD⟩
      · exact z.elim
    · exact z.elim) fun _ _ _ z => z⟩
/-! ### for -/
def forGo (g : MG) (body : MS) : List D → Env → OS
  | [], env => .nx env
  | d :: ds, env => match g d env with
    | none => .stuck
    | some env1 => match body env1 with
      | .nx e => forGo g body ds e
      | .ct e => forGo g body ds e
      | .bk e => .nx e
      | o => o
def sFor (mi : MA) (g : MG) (body : MS) : MS := fun env => (mi env).bindS fun ds env1 => forGo g body ds env1
theorem trS_for {it : Expr} {mi : MA} {g : MG} {a : List Nat} {body : MS} (hc : X.calm = true) (hi : TrI X T tg it mi) (hg : TrG X T tg g a) (hb : TrB X T sts body) (hs : ∀ x, foldedSetIterable it X.env x = pure x := by intro _; rfl) : TrS X T (.For tg it sts [] pos) (sFor mi g body) :=
  fun F W tk => ps_imp (ps_for tk.own hc (hi F W tk) (hg F) (hb F W tk) hs) fun D σ H ⟨env, B, R, q⟩ => ⟨env, B, R, Out.wp_mono (Out.wp_bindS.mp q) (fun ds env1 z J B1 H1 R1 e1 w => by
    refine for_it w (fun i σ H => ∃ env B2, Rel T F env σ B2 H ∧ Ex B1 B2 ∧ (forGo g body (ds.drop i) env).wp (sEnds T F W D σ B)) ⟨env1, B1, R1, Evl.Ex.refl _, sEnds_at z⟩ (fun i σ H _ ⟨env, B2, R2, e2, _⟩ => e2.trans R2.exB) ?_ ?_
    · rintro i x σ2 H2 H3 hi ⟨env2, B2, R2, e2, z2⟩ y
      obtain ⟨B3, d, hd, s, is⟩ := y B2 e2 R2.exB
      have R3 := R2.step s
      have e3 := e2.trans s.b
      rw [show ds.drop i = d :: ds.drop (i + 1) from List.drop_eq_getElem?_toList_append.trans (by rw [hd]; rfl)] at z2
      unfold forGo at z2
      split at z2
      · exact z2.elim
      · rename_i env3 h3
        refine ⟨env2, B3, d, env3, R3, is, h3, fun σ4 R4 _ => ⟨env3, B3, R4, ?_⟩⟩
        split at z2
        · rename_i e hb; rw [hb]; intro σ5 B5 H5 R5 e5; exact ⟨e, B5, R5, e3.trans e5, sEnds_at z2⟩
        · rename_i e hb; rw [hb]; intro σ5 B5 H5 R5 e5; exact ⟨e, B5, R5, e3.trans e5, sEnds_at z2⟩
        · rename_i e hb; rw [hb]; intro σ5 B5 H5 R5 e5; exact z2 σ5 B5 H5 R5 ((e1.trans e3).trans e5)
        · rename_i o n1 n2 n3
          have z3 := sEnds_mono (T := T) (F := F) (W := W) (D := D) (σ := σ2) (e1.trans e3) z2
          cases ho : body env3 with
          | nx e => exact absurd ho (n1 e)
          | ct e => exact absurd ho (n2 e)
          | bk e => exact absurd ho (n3 e)
          | rt d e => rw [ho] at z3; exact z3
          | rn d e => rw [ho] at z3; exact z3
          | ex c fs e => rw [ho] at z3; exact z3
          | stuck => rw [ho] at z3; exact z3
    · rintro σ2 H2 ⟨env2, B2, R2, e2, z2⟩
      rw [List.drop_length] at z2
      exact z2 σ2 B2 H2 R2 (e1.trans e2)) fun _ _ _ z => exP.to z⟩
end
end Ml
set_option maxRecDepth 100000
set_option maxHeartbeats 2000000
namespace Ml
open PySem PySem.Spec PyProof.Rows L2
/-! ### own slots written -/
def reOwn (sl : Sl) (d : D) : Option Sl := match sl with
  | .ow _ => some (.ow d)
  | .io _ => some (.io d)
  | _ => none
def putSl (i : Nat) (d : D) (env : Env) : Option Env := match env[i]? with
  | some (.ow _) => some (env.set i (.ow d))
  | some (.io _) => some (env.set i (.io d))
  | _ => none
def getOw (env : Env) (i : Nat) : Option D := match env[i]? with
  | some (.ow d) => some d
  | some (.io d) => some d
  | _ => none
section
variable {T : Tab} {F : Fr0} {env env' : Env} {σ : L2.St} {B H B' H' : Hp}
theorem Rel.own {i : Nat} {d : D} (R : Rel T F env σ B H) (h : getOw env i = some d) : ∃ a, σ[i]? = some (some (.ref a)) ∧ B a = none ∧ Cell T d a B H := by
  unfold getOw at h
  split at h
  · rename_i d' e; cases h
    obtain ⟨a, h1, h2, h3, h4⟩ := R.slot i _ e
    exact ⟨a, h1, h2, h4⟩
  · rename_i d' e; cases h
    obtain ⟨a, h1, h2, h3, h4⟩ := R.slot i _ e
    exact ⟨a, h1, h2, h4⟩
  · cases h
/-- a step that writes at one own slot -/
theorem Rel.stepAt {i : Nat} {a : Addr} {d d0 : D} (R : Rel T F env σ B H) (s : Stp T [a] B H B' H') (hs : σ[i]? = some (some (.ref a))) (h0 : getOw env i = some d0) (hb : B' a = none) (hc : Cell T d a B' H') (hp : putSl i d env = some env') : Rel T F env' σ B' H' := by
  have hi : i < env.length := by
    unfold getOw at h0
    cases q : env[i]? with
    | none => rw [q] at h0; cases h0
    | some z => exact (List.getElem?_eq_some_iff.mp q).1
  obtain ⟨a', ha', hBa, hcell⟩ := R.own h0
  rw [hs] at ha'; cases ha'
  obtain ⟨sl, hsl, hO⟩ : ∃ sl, env[i]? = some sl ∧ (Own sl).isSome = true := by
    unfold getOw at h0
    split at h0
    · exact ⟨_, ‹_›, rfl⟩
    · exact ⟨_, ‹_›, rfl⟩
    · cases h0
  have hF : ∀ b o, F.H b = some o → (∀ i, F.io i ≠ some b) → b ≠ a := fun b o h1 h2 z => by
    subst z
    have q := R.slot i _ hsl
    cases sl with
    | no => cases hO
    | im d => cases hO
    | ow d =>
      obtain ⟨a2, q1, q2, q3, q4⟩ := q
      rw [hs] at q1; cases q1
      rw [h1] at q3; cases q3
    | io d =>
      obtain ⟨a2, q1, q2, q3, q4⟩ := q
      rw [hs] at q1; cases q1
      exact h2 i q3
  obtain ⟨sl', hsl', hE⟩ : ∃ sl', reOwn sl d = some sl' ∧ env' = env.set i sl' := by
    unfold putSl at hp
    rw [hsl] at hp
    cases sl with
    | no => cases hp
    | im d => cases hp
    | ow d => cases hp; exact ⟨_, rfl, rfl⟩
    | io d => cases hp; exact ⟨_, rfl, rfl⟩
  subst hE
  have hO' : (Own sl').isSome = true := by
    cases sl with
    | no => cases hO
    | im d => cases hO
    | ow d => cases hsl'; rfl
    | io d => cases hsl'; rfl
  have keepC : ∀ {j : Nat} {sj : Sl} {b : Addr} {dj : D}, i ≠ j → env[j]? = some sj → (Own sj).isSome = true → σ[j]? = some (some (V.ref b)) → Cell T dj b B H → B b = none → b ≠ a ∧ Cell T dj b B' H' ∧ B' b = none := fun {j sj b dj} hj ej oj cj cc bb => by
    have nb : b ≠ a := fun z => by subst z; exact hj (R.nd i j _ _ b hsl ej hO oj hs cj)
    obtain ⟨o, ho⟩ := cc.at
    refine ⟨nb, cc.mono s.b fun o q k => s.h _ _ q (by simpa using nb) k, ?_⟩
    cases q : B' b with
    | none => rfl
    | some u =>
      rcases s.n b (by rw [q]; exact fun z => by cases z) with z | z
      · exact absurd bb z
      · rw [ho] at z; cases z
  refine ⟨by simp [R.len], s.e, s.t R.tb, s.bN R.bN, R.b0.trans s.b, fun b o k h1 h2 => s.h _ _ (R.keep b o k h1 h2) (by simpa using hF b o h1 h2) k, fun b h => s.d b (R.dom b h), fun b h => ?_, fun j sj e => ?_, fun j k sj sk b ej ek oj ok cj ck => ?_⟩
  · rcases s.n b h with z | z
    · exact R.fresh b z
    · right
      cases q2 : F.H b with
      | none => rfl
      | some o => exact absurd z (R.dom b (by rw [q2]; exact fun z => by cases z))
  · by_cases hj : i = j
    · subst hj
      rw [List.getElem?_set_self hi] at e; cases e
      have q := R.slot i _ hsl
      cases sl with
      | no => cases hO
      | im d => cases hO
      | ow d =>
        cases hsl'
        obtain ⟨a2, q1, q2, q3, q4⟩ := q
        rw [hs] at q1; cases q1
        exact ⟨a, hs, hb, q3, hc⟩
      | io d =>
        cases hsl'
        obtain ⟨a2, q1, q2, q3, q4⟩ := q
        rw [hs] at q1; cases q1
        exact ⟨a, hs, hb, q3, hc⟩
    · rw [List.getElem?_set_ne hj] at e
      have q := R.slot j sj e
      cases sj with
      | no => trivial
      | im d => obtain ⟨v, h1, h2⟩ := q; exact ⟨v, h1, h2.mono s.b⟩
      | ow d =>
        obtain ⟨b, h1, h2, h3, h4⟩ := q
        obtain ⟨k1, k2, k3⟩ := keepC hj e rfl h1 h4 h2
        exact ⟨b, h1, k3, h3, k2⟩
      | io d =>
        obtain ⟨b, h1, h2, h3, h4⟩ := q
        obtain ⟨k1, k2, k3⟩ := keepC hj e rfl h1 h4 h2
        exact ⟨b, h1, k3, h3, k2⟩
  · have g : ∀ (j : Nat) (sj : Sl), (env.set i sl')[j]? = some sj → (Own sj).isSome = true → ∃ sj', env[j]? = some sj' ∧ (Own sj').isSome = true := fun j sj e o => by
      by_cases hj : i = j
      · subst hj; exact ⟨sl, hsl, hO⟩
      · rw [List.getElem?_set_ne hj] at e; exact ⟨sj, e, o⟩
    obtain ⟨sj', ej', oj'⟩ := g j sj ej oj
    obtain ⟨sk', ek', ok'⟩ := g k sk ek ok
    exact R.nd j k sj' sk' b ej' ek' oj' ok' cj ck
theorem Stp.at {a : Addr} {o o0 : HO} (e : Ex B H) (hb : B a = none) (h0 : H a = some o0) (n0 : NX o0) : Stp T [a] B H B (upd H a o) :=
  ⟨Evl.Ex.refl _, fun x u h n _ => by rw [upd_ne (by simpa using n)]; exact h, fun x u h => by rw [upd_ne (ne_of_none h hb)]; exact e _ _ h, fun _ h => .inl h, fun _ h => upd_dom h, fun t => tabs_upd t h0 n0, id⟩
theorem Rel.upd {i : Nat} {a : Addr} {d d0 : D} {o : HO} (R : Rel T F env σ B H) (hs : σ[i]? = some (some (.ref a))) (h0 : getOw env i = some d0) (hb : B a = none) (hc : Cell T d a B (upd H a o)) (hp : putSl i d env = some env') : Rel T F env' σ B (L2.upd H a o) := by
  obtain ⟨a', ha', _, hcell⟩ := R.own h0
  rw [hs] at ha'; cases ha'
  obtain ⟨o0, h1, h2⟩ := hcell.atX
  exact R.stepAt (Stp.at R.exB hb h1 h2) hs h0 hb hc hp
end
/-! ### subscripts -/
section
variable {X : Cx} {T : Tab} {e e1 e2 : Expr} {es : List Expr} {pos p : Pos} {x : Str} {sts : List Stmt}
theorem IsL.atI {H : Hp} {ds : List D} {vs : List V} {i : Int} {d : D} (h : IsL T ds vs H) (e : L2.atI ds i = some d) : ∃ v, L2.atI vs i = some v ∧ Is T d v H := by
  unfold L2.atI at e ⊢
  obtain ⟨j, h1, h2⟩ := Option.bind_eq_some_iff.mp e
  obtain ⟨v, h3, h4⟩ := h.get h2
  rw [h.length, h1]
  exact ⟨v, h3, h4⟩
def chr1 (c : Nat) : D := .str ⟨#[c]⟩
def fIx : D → D → Option D
  | .lst ds, .int i => atI ds i
  | .tup ds, .int i => atI ds i
  | .str z, .int i => if z.length ≤ sizeLine then (atI z.cps.toList i).map chr1 else none
  | _, _ => none
theorem ok_ix : Ok2 T fIx (rIx T.K) := fun a b d x y B H Q e ta tb hf q => by
  unfold fIx at hf
  split at hf
  · rename_i ds i
    obtain ⟨a, xs, rfl, h1, h2⟩ := top_lst e ta
    obtain ⟨v, h3, h4⟩ := h2.atI hf
    exact .inl ⟨a, xs, i, v, rfl, top_int tb, .inl h1, h3, q v B H (Stp.refl e) h4⟩
  · rename_i ds i
    obtain ⟨a, xs, rfl, h1, h2⟩ := top_tup e ta
    obtain ⟨v, h3, h4⟩ := h2.atI hf
    exact .inr (.inl ⟨a, xs, i, v, rfl, top_int tb, SqT.of h1, h3, q v B H (Stp.refl e) h4⟩)
  · rename_i z i
    split at hf
    · rename_i c
      obtain ⟨u, h1, h2⟩ := Option.map_eq_some_iff.mp hf
      subst h2
      exact .inr (.inr ⟨z, i, u, top_str ta, top_int tb, c, h1, q _ B H (Stp.refl e) (is_str.mpr rfl)⟩)
    · cases hf
  · cases hf
theorem trE_ix {r : R2} {f : D → D → Option D} {m1 m2 : MP} (hx : IxR X r) (hr : Ok2 T f r) (h1 : TrP X T e1 m1) (h2 : TrP X T e2 m2) (hp : PlainIx e2 := by intro _ _; rfl) : TrE X T (.Subscript e1 e2 pos) (op2 f m1 m2) :=
  fun F W tk => pe_imp (pe_ix hx (h1 F W tk) (h2 F W tk) hp) fun _ _ _ => tOf_op2 hr
/-! ### slices -/
abbrev MO := Env → Out (Option Int)
def tOfO (T : Tab) (F : Fr0) (W : XK) (m : MO) : TO := fun σ H Q => ∃ env B, Rel T F env σ B H ∧ (m env).wp (fun o env' => ∀ B' H', Rel T F env' σ B' H' → Ex B B' → Q o H') (exPs T F W B σ)
def TrO (X : Cx) (T : Tab) (e : Option Expr) (m : MO) : Prop := ∀ (F : Fr0) (W : XK), Lets X W → PO X e (tOfO T F W m)
theorem po_imp {e : Option Expr} {t t' : TO} (h : PO X e t) (i : ∀ σ H Q, t' σ H Q → t σ H Q) : PO X e t' := ⟨fun pins s σ H Q I q => h.run pins s σ H Q I (i σ H Q q)⟩
def oNo : MO := fun env => .ok none env
def oSo (m : ME) : MO := fun env => (m env).bind fun d env1 => match d with
  | .int i => .ok (some i) env1
  | _ => .stuck
theorem trO_no : TrO X T none oNo := fun F W tk => po_imp po_none fun σ H Q ⟨env, B, R, q⟩ => q B H R (Evl.Ex.refl _)
theorem trO_so {m : ME} (h : TrE X T e m) : TrO X T (some e) (oSo m) := fun F W tk => po_imp (po_some (h F W tk)) fun σ H Q ⟨env, B, R, q⟩ => ⟨env, B, R, Out.wp_mono (Out.wp_bind.mp q) (fun d env1 z v B1 H1 R1 e1 is => by
  cases d with
  | int i => exact ⟨i, is_int.mp is, z B1 H1 R1 e1⟩
  | _ => exact z.elim) fun _ _ _ z => z⟩
def cutD (xs : List D) (lo hi : Option Int) : List D := (xs.drop (HT.sIx xs.length 0 lo)).take (HT.sIx xs.length xs.length hi - HT.sIx xs.length 0 lo)
theorem IsL.cut {H : Hp} {ds : List D} {vs : List V} (h : IsL T ds vs H) (lo hi : Option Int) : IsL T (cutD ds lo hi) (cutV vs lo hi) H := by
  unfold cutD cutV
  rw [h.length]
  exact (h.drop _).take _
/-- a slice of a text, of a tuple -/
def fSl (d : D) (lo hi : Option Int) : Option D := match d with
  | .str z => if z.length ≤ sizeLine then some (.str ⟨((z.cps.toList.drop (HT.sIx z.length 0 lo)).take (HT.sIx z.length z.length hi - HT.sIx z.length 0 lo)).toArray⟩) else none
  | .tup ds => some (.tup (cutD ds lo hi))
  | _ => none
def fSlN (d : D) (lo hi : Option Int) : Option D := match d with
  | .lst ds => some (.lst (cutD ds lo hi))
  | .rdl ds => some (.lst (cutD ds lo hi))
  | _ => none
end
end Ml
set_option maxRecDepth 100000
set_option maxHeartbeats 2000000
namespace Ml
open PySem PySem.Spec PyProof.Rows L2
section
variable {X : Cx} {T : Tab} {e e1 e2 : Expr} {es : List Expr} {pos p p2 : Pos} {x : Str} {sts : List Stmt} {lo hi : Option Expr}
def ofO2 (o : Option (D × D)) : Option (D × D) := o
def mSl (f : D → Option Int → Option Int → Option D) (m : MP) (l h : MO) : ME := fun env => (m env).bind fun p env1 => (l env1).bind fun a env2 => (h env2).bind fun b env3 => ofO ((p.get env3).bind fun d => f d a b) env3
def rSlV (K : PySem.W.Frag) : V → Option Int → Option Int → Hp → VK → Prop := fun x lo hi H Q => rSlS x lo hi H Q ∨ rSlA K x lo hi H Q
theorem cutD_all {ds : List D} {lo hi : Option Int} (h : HT.sIx ds.length 0 lo = 0 ∧ HT.sIx ds.length ds.length hi = ds.length) : cutD ds lo hi = ds := by
  unfold cutD
  rw [h.1, h.2]
  simp
theorem trE_sl {m : MP} {l h : MO} (hK : X.K = T.K) (hm : TrP X T e m) (hl : TrO X T lo l) (hh : TrO X T hi h) : TrE X T (.Subscript e (.Slice lo hi none p2) pos) (mSl fSl m l h) :=
  fun F W tk => pe_imp (pe_slice (sl_str.or sl_tupA) (hm F W tk) (hl F W tk) (hh F W tk)) fun σ H Q ⟨env, B, R, q⟩ => ⟨env, B, R, Out.wp_mono (Out.wp_bind.mp q) (fun pv env1 z => by
    intro v B1 H1 R1 e1 i
    refine ⟨env1, B1, R1, Out.wp_mono (Out.wp_bind.mp z) (fun a env2 z B2 H2 R2 e2 => ⟨env2, B2, R2, Out.wp_mono (Out.wp_bind.mp z) (fun b env3 z B3 H3 R3 e3 => ?_) fun _ _ _ x => x.mono (e1.trans e2)⟩) fun _ _ _ x => x.mono e1⟩
    obtain ⟨d, hd, z⟩ := ofO_wp z
    obtain ⟨d0, h0, hd⟩ := Option.bind_eq_some_iff.mp hd
    have tp := pv_top R3 i (e2.trans e3) h0
    unfold fSl at hd
    split at hd
    · rename_i s
      split at hd
      · rename_i c
        cases hd
        exact .inl ⟨s, top_str tp, c, z _ B3 H3 R3 ((e1.trans e2).trans e3) (is_str.mpr rfl)⟩
      · cases hd
    · rename_i ds
      cases hd
      obtain ⟨ad, xs, rfl, h1, h2⟩ := top_tup R3.exB tp
      rw [hK]
      refine .inr ⟨ad, xs, rfl, SqT.of h1, fun w => ?_, fun w p hp => ?_⟩
      · rw [h2.length] at w
        rcases tp with tp | ⟨_, _, tp⟩
        · exact z _ B3 H3 R3 ((e1.trans e2).trans e3) (by rw [cutD_all w]; exact tp)
        · exact tp.elim
      · have s := Stp.new (T := T) (o := HO.tup (cutV xs a b)) R3.exB hp
        exact z (.ref p) _ _ (R3.step s) (((e1.trans e2).trans e3).trans s.b) (is_tup.mpr ⟨p, _, rfl, upd_same, (h2.cut a b).mono s.b⟩)
    · cases hd) fun _ _ _ z => z⟩
theorem trN_sl {m : MP} {l h : MO} (hK : X.K = T.K) (hm : TrP X T e m) (hl : TrO X T lo l) (hh : TrO X T hi h) : TrN X T (.Subscript e (.Slice lo hi none p2) pos) (mSl fSlN m l h) :=
  fun F W tk => pe_imp (pe_slice sl_list (hm F W tk) (hl F W tk) (hh F W tk)) fun σ H Q ⟨env, B, R, q⟩ => ⟨env, B, R, Out.wp_mono (Out.wp_bind.mp q) (fun pv env1 z => by
    intro v B1 H1 R1 e1 i
    refine ⟨env1, B1, R1, Out.wp_mono (Out.wp_bind.mp z) (fun a env2 z B2 H2 R2 e2 => ⟨env2, B2, R2, Out.wp_mono (Out.wp_bind.mp z) (fun b env3 z B3 H3 R3 e3 => ?_) fun _ _ _ x => x.mono (e1.trans e2)⟩) fun _ _ _ x => x.mono e1⟩
    obtain ⟨d, hd, z⟩ := ofO_wp z
    obtain ⟨d0, h0, hd⟩ := Option.bind_eq_some_iff.mp hd
    have tp := pv_top R3 i (e2.trans e3) h0
    unfold fSlN at hd
    split at hd
    · rename_i ds
      cases hd
      obtain ⟨ad, xs, rfl, h1, h2⟩ := top_lst R3.exB tp
      refine ⟨ad, xs, rfl, .inl h1, fun p hp => ?_⟩
      have s := Stp.junk (T := T) (o := HO.lst (cutV xs a b)) R3.exB hp
      have hF := R3.freeF hp
      exact z p _ _ (R3.step s) ((e1.trans e2).trans e3) (ex_none R3.exB hp) hF (R3.notIn hp) ⟨_, upd_same, h2.cut a b⟩
    · rename_i ds
      cases hd
      obtain ⟨ad, xs, rfl, h1, h2⟩ := top_rdl R3.exB tp
      rw [hK]
      refine ⟨ad, xs, rfl, h1, fun p hp => ?_⟩
      have s := Stp.junk (T := T) (o := HO.lst (cutV xs a b)) R3.exB hp
      have hF := R3.freeF hp
      exact z p _ _ (R3.step s) ((e1.trans e2).trans e3) (ex_none R3.exB hp) hF (R3.notIn hp) ⟨_, upd_same, h2.cut a b⟩
    · cases hd) fun _ _ _ z => z⟩
/-! ### while -/
def whileGo (c : MT) (b : MS) : Nat → Env → Option OS
  | 0, _ => none
  | n + 1, env => match c env with
    | .ok true env1 => match b env1 with
      | .nx e => whileGo c b n e
      | .ct e => whileGo c b n e
      | .bk e => some (.nx e)
      | o => some o
    | .ok false env1 => some (.nx env1)
    | .ex k fs env1 => some (.ex k fs env1)
    | .stuck => some .stuck
theorem whileGo_more {c : MT} {b : MS} : ∀ {n : Nat} {env : Env} {o : OS}, whileGo c b n env = some o → whileGo c b (n + 1) env = some o
  | 0, env, o, h => by cases h
  | n + 1, env, o, h => by
    unfold whileGo at h ⊢
    split at h
    · rename_i env1 hc
      split at h
      · exact whileGo_more h
      · exact whileGo_more h
      · exact h
      · exact h
    · exact h
    · exact h
    · exact h
theorem whileGo_le {c : MT} {b : MS} {n : Nat} {env : Env} {o : OS} (h : whileGo c b n env = some o) : ∀ k : Nat, whileGo c b (n + k) env = some o
  | 0 => h
  | k + 1 => whileGo_more (whileGo_le h k)
theorem whileGo_eq {c : MT} {b : MS} {n m : Nat} {env : Env} {o o' : OS} (h : whileGo c b n env = some o) (k : whileGo c b m env = some o') : o = o' := by
  have h1 := whileGo_le h m
  have h2 := whileGo_le k n
  rw [Nat.add_comm, h1] at h2
  exact Option.some.inj h2
open Classical in
noncomputable def sWhile (c : MT) (b : MS) : MS := fun env => if h : ∃ o n, whileGo c b n env = some o then Classical.choose h else .stuck
theorem sWhile_of {c : MT} {b : MS} {n : Nat} {env : Env} {o : OS} (h : whileGo c b n env = some o) : sWhile c b env = o := by
  have hx : ∃ o n, whileGo c b n env = some o := ⟨o, n, h⟩
  unfold sWhile
  rw [dif_pos hx]
  obtain ⟨m, hm⟩ := Classical.choose_spec hx
  exact whileGo_eq hm h
theorem sWhile_to {c : MT} {b : MS} {env : Env} (h : sWhile c b env ≠ .stuck) : ∃ n, whileGo c b n env = some (sWhile c b env) := by
  by_cases hx : ∃ o n, whileGo c b n env = some o
  · obtain ⟨o, n, hn⟩ := hx
    exact ⟨n, by rw [sWhile_of hn]; exact hn⟩
  · exact absurd (by unfold sWhile; rw [dif_neg hx]) h
theorem trS_while {c : Expr} {mc : MT} {mb : MS} (hc : TrT X T c mc) (hb : TrB X T sts mb) : TrS X T (.While c sts [] pos) (sWhile mc mb) :=
  fun F W tk => ps_imp (ps_while tk.own (hc F W tk) (hb F W tk)) fun D σ H ⟨env, B, R, q⟩ => by
    have ns : sWhile mc mb env ≠ .stuck := fun z => by rw [z] at q; exact q
    obtain ⟨n, hn⟩ := sWhile_to ns
    refine ⟨fun m σ' H' => ∃ env' B' o, Rel T F env' σ' B' H' ∧ Ex B B' ∧ whileGo mc mb m env' = some o ∧ o.wp (sEnds T F W D σ B'), ⟨n, env, B, _, R, Evl.Ex.refl _, hn, q⟩, ?_⟩
    rintro m σ1 H1 ⟨env1, B1, o, R1, e1, h1, q1⟩
    cases m with
    | zero => cases h1
    | succ m =>
      rw [whileGo] at h1
      refine ⟨env1, B1, R1, ?_⟩
      split at h1
      · rename_i env2 hc2
        rw [hc2]
        intro B2 H2 R2 e2
        rw [if_pos rfl]
        refine ⟨fun σ' H' => ∃ m', m' < m + 1 ∧ ∃ env' B' o, Rel T F env' σ' B' H' ∧ Ex B B' ∧ whileGo mc mb m' env' = some o ∧ o.wp (sEnds T F W D σ B'), fun σ' H' h => h, env2, B2, R2, ?_⟩
        split at h1
        · rename_i e hb2; rw [hb2]; intro σ3 B3 H3 R3 e3; exact ⟨m, Nat.lt_succ_self _, e, B3, o, R3, (e1.trans e2).trans e3, h1, sEnds_mono (e2.trans e3) q1⟩
        · rename_i e hb2; rw [hb2]; intro σ3 B3 H3 R3 e3; exact ⟨m, Nat.lt_succ_self _, e, B3, o, R3, (e1.trans e2).trans e3, h1, sEnds_mono (e2.trans e3) q1⟩
        · rename_i e hb2; rw [hb2]; cases h1; intro σ3 B3 H3 R3 e3; exact q1 σ3 B3 H3 R3 (e2.trans e3)
        · rename_i o' n1 n2 n3
          cases h1
          have q2 := sEnds_mono e2 q1
          cases ho : mb env2 with
          | nx e => exact absurd ho (n1 e)
          | ct e => exact absurd ho (n2 e)
          | bk e => exact absurd ho (n3 e)
          | rt d e => rw [ho] at q2; exact q2
          | rn d e => rw [ho] at q2; exact q2
          | ex c fs e => rw [ho] at q2; exact q2
          | stuck => rw [ho] at q2; exact q2
      · rename_i env2 hc2
        rw [hc2]; cases h1
        intro B2 H2 R2 e2
        rw [if_neg Bool.false_ne_true]
        exact q1 σ1 B2 H2 R2 e2
      · rename_i k fs env2 hc2
        rw [hc2]; cases h1
        exact exP.to (T := T) (F := F) (W := W) q1
      · rename_i hc2
        cases h1
        exact q1.elim
/-! ### a store into an own list, a method that writes -/
def fSet (d i v : D) : Option D := match d, i with
  | .lst ds, .int k => (ixN ds.length k).map fun j => .lst (ds.set j v)
  | _, _ => none
/-- xs[i] = v, xs a slot of its own -/
def sSetIx (j : Nat) (mi mv : ME) : MS := fun env => (mv env).bindS fun v env1 => match getD env1 j with
  | none => .stuck
  | some _ => (mi env1).bindS fun i env2 => match getOw env2 j with
    | none => .stuck
    | some d => match fSet d i v with
      | none => .stuck
      | some d' => ofE (putSl j d' env2)
theorem trS_setIx {j : Nat} {mi mv : ME} {tpos npos : Pos} (hi : TrE X T e1 mi) (hv : TrE X T e2 mv) (hN : X.N[j]? = some x := by rfl) (hvis : Vis X.env.scope x := by first | exact Or.inl rfl | exact Or.inr (Or.inl rfl) | exact Or.inr (Or.inr rfl)) (hd : (x == ("__debug__" : Str)) = false := by decide)
    (hcd : (x == ("__classdict__" : Str)) = false := by decide)
    (hs : swapsWithSole [.Subscript (.Name x npos) e1 tpos] e2 pos.line X.env = pure false := by rfl) (hw : swappedStores [.Subscript (.Name x npos) e1 tpos] e2 X.env = pure none := by rfl)
    (ha : ∀ v, assign (.Subscript (.Name x npos) e1 tpos) X.env v = (do
      let ov ← holding [v] (eval (.Name x npos) X.env)
      let iv ← holding [v, ov] (eval e1 X.env)
      standAt tpos
      holding [v, ov, iv] (setItem ov iv v)
      release [v, ov, iv] []) := by intro _; rfl) (h1 : (assignEach [.Subscript (.Name x npos) e1 tpos] X.env).map (·.2) = [assign (.Subscript (.Name x npos) e1 tpos) X.env] := by rfl) :
    TrS X T (.Assign [.Subscript (.Name x npos) e1 tpos] e2 pos) (sSetIx j mi mv) := fun F W tk =>
  ps_imp (ps_asg (hv F W tk) (pg_sub (pe_var hN hvis hd hcd) (hi F W tk) set_list ha) hs hw h1) fun D σ H ⟨env, B, R, q⟩ => ⟨env, B, R, Out.wp_mono (Out.wp_bindS.mp q) (fun v env1 z => by
    intro vv B1 H1 R1 e1 iv
    split at z
    · exact z.elim
    · rename_i d1 hd1
      obtain ⟨w, hw1, _⟩ := R1.get hd1
      refine ⟨w, hw1, env1, B1, R1, Out.wp_mono (Out.wp_bindS.mp z) (fun i env2 z v2 B2 H2 R2 e2 i2 => ?_) fun _ _ _ x => exP.to (exP.mono e1 x)⟩
      split at z
      · exact z.elim
      · rename_i d hd2
        obtain ⟨a, ha1, ha2, hc⟩ := R2.own hd2
        rw [ha1] at hw1; cases hw1
        split at z
        · exact z.elim
        · rename_i d' hf
          obtain ⟨env3, hp, z4⟩ := ofE_wp z
          unfold fSet at hf
          split at hf
          · rename_i ds k
            obtain ⟨jj, hj, rfl⟩ := Option.map_eq_some_iff.mp hf
            obtain ⟨xs, hx, ix⟩ := hc
            refine ⟨a, xs, k, jj, rfl, is_int.mp i2, hx, by rw [ix.length]; exact hj, ?_⟩
            have cc : Cell T (.lst (ds.set jj v)) a B2 (L2.upd H2 a (.lst (xs.set jj vv))) := ⟨_, upd_same, ix.set jj (iv.mono e2)⟩
            exact z4 σ B2 _ (R2.upd (o := .lst (xs.set jj vv)) ha1 hd2 ha2 cc hp) (e1.trans e2)
          · cases hf) fun _ _ _ z => exP.to z⟩
/-- xs.m(..), xs a slot of its own: the thing's new content and the answer -/
def OkM (T : Tab) (f : D → List D → Option (D × D)) (r : V → List V → Hp → VK → Prop) : Prop := ∀ (d : D) (as : List D) (d' res : D) (a : Addr) (xs : List V) (B H : Hp) (Q : VK), Ex B H → B a = none → Cell T d a B H → IsL T as xs B → f d as = some (d', res) →
  (∀ o v, Cell T d' a B (upd H a o) → Is T res v B → Q v (upd H a o)) → r (.ref a) xs H Q
def isKind (n : String) : D → Bool
  | .lst _ => n == "list"
  | .dct _ => n == "dict"
  | _ => false
theorem tyV_kind {n : String} {d : D} {v : V} {B H : Hp} (e : Ex B H) (h : isKind n d = true) (t : Top T d v B H) : L2.tyV T.K n v H := by
  unfold isKind at h
  split at h
  · obtain ⟨a, xs, rfl, h1, _⟩ := top_lst e t
    have h' := eq_of_beq h
    subst h'
    exact .inl ⟨rfl, xs, .inl h1⟩
  · obtain ⟨a, xs, rfl, h1, _⟩ := top_dct e t
    have h' := eq_of_beq h
    subst h'
    exact .inr (.inr (.inl ⟨rfl, .inl ⟨_, h1⟩⟩))
  · cases h
def mMut (n : String) (f : D → List D → Option (D × D)) (j : Nat) (ma : MA) : ME := fun env => match getD env j with
  | none => .stuck
  | some d0 => if isKind n d0 then (ma env).bind fun as env1 => match getOw env1 j with
      | none => .stuck
      | some d => match f d as with
        | none => .stuck
        | some (d', res) => match putSl j d' env1 with
          | none => .stuck
          | some env2 => .ok res env2
    else .stuck
theorem mMut_wp {F : Fr0} {W : XK} {n : String} {f : D → List D → Option (D × D)} {r : V → List V → Hp → VK → Prop} {j : Nat} {ma : MA} (hr : OkM T f r) {σ : L2.St} {H : Hp} {Q : VK} (h : tOf T F W (mMut n f j ma) σ H Q) : tBM T.K n r (tVar j) (tOfA T F W ma) σ H Q := by
  obtain ⟨env, B, R, q⟩ := h
  unfold mMut at q
  split at q
  · exact q.elim
  · rename_i d0 hd0
    split at q
    · rename_i hk
      obtain ⟨w, hw1, tp⟩ := R.get hd0
      refine ⟨w, hw1, tyV_kind R.exB hk tp, env, B, R, Out.wp_mono (Out.wp_bind.mp q) (fun as env1 z vs B1 H1 R1 e1 is => ?_) fun _ _ _ z => z⟩
      split at z
      · exact z.elim
      · rename_i d hd
        obtain ⟨a, ha1, ha2, hc⟩ := R1.own hd
        rw [ha1] at hw1; cases hw1
        split at z
        · exact z.elim
        · rename_i d' res hf
          split at z
          · exact z.elim
          · rename_i env2 hp
            refine hr d as d' res a vs B1 H1 Q R1.exB ha2 hc is hf fun o v c i => ?_
            exact z v B1 _ (R1.upd ha1 hd ha2 c hp) e1 i
    · exact q.elim
theorem trE_mut {n id : String} {f : D → List D → Option (D × D)} {r : V → List V → Hp → VK → Prop} {j : Nat} {ma : MA} {name : Str} {apos cpos npos : Pos} (hK : X.K = T.K) (pa : PlainAttrs n) (slot : Slot n name id) (hty : typeOf (.builtin id) = pure (.type "method_descriptor")) (hm : MtR X id r) (hr : OkM T f r) (ha : TrA X T (e :: es) ma)
    (hN : X.N[j]? = some x := by rfl) (hvis : Vis X.env.scope x := by first | exact Or.inl rfl | exact Or.inr (Or.inl rfl) | exact Or.inr (Or.inr rfl)) (hd : (x == ("__debug__" : Str)) = false := by decide)
    (hcd : (x == ("__classdict__" : Str)) = false := by decide)
    (hbase : attributeBase (.Name x npos) name X.env (eval (.Name x npos) X.env) = eval (.Name x npos) X.env := by rfl)
    (hfew : ((backTo cpos (starEach (e :: es) X.env)).all (fun x => !x.1) && (backToKw cpos (keywordEach [] X.env)).all (fun x => x.1.isSome)
      && decide ((e :: es).length + ([] : List Keyword).length + (if ([] : List Keyword).isEmpty then 0 else 1) < 30)) = true := by rfl)
    (hline : (apos.endLine == cpos.line) = true := by rfl) (hs : starEach (e :: es) X.env = (false, eval e X.env) :: starEach es X.env := by rfl) (hplain : (backTo cpos (starEach es X.env)).any (·.1) = false := by rfl) :
    TrE X T (.Call (.Attribute (.Name x npos) name apos) (e :: es) [] cpos) (mMut n f j ma) := fun F W tk =>
  pe_imp (pe_bm pa slot hty hm (pe_var hN hvis hd hcd) (ha F W tk) hbase hfew hline hs hplain) fun σ H Q h => by rw [hK]; exact mMut_wp hr h
def fApp : D → List D → Option (D × D)
  | .lst ds, [v] => if ds.length < sizeLine then some (.lst (ds ++ [v]), .non) else none
  | _, _ => none
theorem ok_app : OkM T fApp rAppend := fun d as d' res a xs B H Q e hb c is hf q => by
  unfold fApp at hf
  split at hf
  · rename_i ds v
    split at hf
    · rename_i hl
      cases hf
      obtain ⟨ys, hy, iy⟩ := c
      obtain ⟨w, r, rfl, i1, i2⟩ := isL_cons.mp is
      cases isL_nil.mp i2
      exact ⟨a, ys, w, rfl, rfl, hy, by rw [iy.length]; exact hl, q _ _ ⟨_, upd_same, iy.append (.cons i1 .nil)⟩ (is_non.mpr rfl)⟩
    · cases hf
  · cases hf
def fPopAt : D → List D → Option (D × D)
  | .lst ds, [.int i] => if decide (-(2 ^ 63) ≤ i) && decide (i < 2 ^ 63) then (seqIndex? i ds.length).bind fun k => (ds[k]?).map fun d => (.lst (ds.eraseIdx k), d) else none
  | _, _ => none
theorem IsL.erase {H : Hp} : ∀ {ds : List D} {vs : List V} (k : Nat), IsL T ds vs H → IsL T (ds.eraseIdx k) (vs.eraseIdx k) H
  | [], vs, k, h => by rw [isL_nil.mp h]; exact .nil
  | d :: ds, vs, 0, h => by
    obtain ⟨w, r, rfl, h1, h2⟩ := isL_cons.mp h
    exact h2
  | d :: ds, vs, k + 1, h => by
    obtain ⟨w, r, rfl, h1, h2⟩ := isL_cons.mp h
    exact .cons h1 (IsL.erase k h2)
theorem ok_popAt : OkM T fPopAt rPopAt := fun d as d' res a xs B H Q e hb c is hf q => by
  unfold fPopAt at hf
  split at hf
  · rename_i ds i
    split at hf
    · rename_i hl
      obtain ⟨k, hk, hf⟩ := Option.bind_eq_some_iff.mp hf
      obtain ⟨d1, hd1, hf⟩ := Option.map_eq_some_iff.mp hf
      cases hf
      obtain ⟨ys, hy, iy⟩ := c
      obtain ⟨w, r, rfl, i1, i2⟩ := isL_cons.mp is
      cases isL_nil.mp i2
      cases is_int.mp i1
      obtain ⟨u, hu, iu⟩ := iy.get hd1
      obtain ⟨c1, c2⟩ := Bool.and_eq_true_iff.mp hl
      exact ⟨a, ys, i, k, u, rfl, rfl, hy, of_decide_eq_true c1, of_decide_eq_true c2, by rw [iy.length]; exact hk, hu, q _ _ ⟨_, upd_same, iy.erase k⟩ iu⟩
    · cases hf
  · cases hf
end
end Ml
set_option maxRecDepth 100000
set_option maxHeartbeats 2000000
namespace Ml
open PySem PySem.Spec PyProof.Rows L2
/-! ### calls that hand a place in and out -/
def qAt (env : Env) (own : Bool) (p : PV) : Option D := match p with
  | .v x => if own then none else some x
  | .sl i => if own then getOw env i else match env[i]? with
    | some (.im d) => some d
    | _ => none
def qArgs (env : Env) (io : Option Nat) : Nat → List PV → Option (List D)
  | _, [] => some []
  | k, p :: ps => (qAt env (io == some k) p).bind fun d => (qArgs env io (k + 1) ps).map (d :: ·)
def putBack (env : Env) (io : Option Nat) (ps : List PV) (o : Option D) : Option Env := match io, o with
  | none, _ => some env
  | some k, some d => match ps[k]? with
    | some (.sl i) => putSl i d env
    | _ => none
  | some _, none => none
def backE (env : Env) (io : Option Nat) (ps : List PV) : OF → Out D
  | .ok d o => match putBack env io ps o with
    | some e => .ok d e
    | none => .stuck
  | .ex c fs o => match putBack env io ps o with
    | some e => .ex c fs e
    | none => .stuck
  | .stuck => .stuck
def mCallQ (io : Option Nat) (n : Nat) (m : List D → OF) (mq : MQ) : ME := fun env => (mq env).bind fun ps env1 => match qArgs env1 io 0 ps with
  | some ds => if ds.length = n then backE env1 io ps (m ds) else .stuck
  | none => .stuck
section
variable {T : Tab} {F : Fr0} {W : XK} {env env' : Env} {σ : L2.St} {B H B' H' : Hp} {io : Option Nat}
theorem qArgs_len : ∀ {k : Nat} {ps : List PV} {ds : List D}, qArgs env io k ps = some ds → ds.length = ps.length
  | k, [], ds, h => by cases h; rfl
  | k, p :: ps, ds, h => by
    unfold qArgs at h
    obtain ⟨d, hd, h⟩ := Option.bind_eq_some_iff.mp h
    obtain ⟨ds', hds, rfl⟩ := Option.map_eq_some_iff.mp h
    simp [qArgs_len hds]
theorem qArgs_as (R : Rel T F env σ B H) : ∀ {k : Nat} {ps : List PV} {ds : List D} {vs : List V}, qArgs env io k ps = some ds → PvsOk T ps vs σ B → IsAs T io k ds vs B H
  | k, [], ds, vs, h, hv => by cases h; unfold IsAs; exact hv
  | k, p :: ps, ds, vs, h, hv => by
    unfold qArgs at h
    obtain ⟨d, hd, h⟩ := Option.bind_eq_some_iff.mp h
    obtain ⟨ds', hds, rfl⟩ := Option.map_eq_some_iff.mp h
    obtain ⟨v, r, rfl, h1, h2⟩ := hv
    unfold IsAs
    refine ⟨v, r, rfl, ?_, qArgs_as R hds h2⟩
    by_cases c : io = some k
    · rw [if_pos c]
      rw [c, beq_self_eq_true] at hd
      cases p with
      | v x => cases hd
      | sl i =>
        have hd' : getOw env i = some d := hd
        obtain ⟨a, ha, hb, hc⟩ := R.own hd'
        have h1' : σ[i]? = some (some v) := h1
        rw [ha] at h1'; cases h1'
        exact ⟨a, rfl, hb, hc⟩
    · rw [if_neg c]
      rw [show (io == some k) = false from beq_false_of_ne c] at hd
      cases p with
      | v x => cases hd; exact h1
      | sl i =>
        have hd' : (match env[i]? with | some (.im d) => some d | _ => none) = some d := hd
        have h1' : σ[i]? = some (some v) := h1
        split at hd'
        · rename_i d' hi
          cases hd'
          obtain ⟨w, w1, w2⟩ := R.slot i _ hi
          rw [h1'] at w1; cases w1
          exact w2
        · cases hd'
theorem pvs_at : ∀ {ps : List PV} {vs : List V} {k i : Nat}, PvsOk T ps vs σ B → ps[k]? = some (.sl i) → ∃ v, vs[k]? = some v ∧ σ[i]? = some (some v)
  | [], vs, k, i, h, e => by simp at e
  | p :: ps, vs, 0, i, h, e => by
    obtain ⟨v, r, rfl, h1, h2⟩ := h
    simp at e; subst e
    exact ⟨v, rfl, h1⟩
  | p :: ps, vs, k + 1, i, h, e => by
    obtain ⟨v, r, rfl, h1, h2⟩ := h
    obtain ⟨w, a, b⟩ := pvs_at (k := k) h2 (by simpa using e)
    exact ⟨w, by simpa using a, b⟩
theorem qArgs_at : ∀ {j k : Nat} {ps : List PV} {ds : List D}, qArgs env io j ps = some ds → io = some (j + k) → k < ps.length → ∃ i d, ps[k]? = some (.sl i) ∧ getOw env i = some d
  | j, k, [], ds, h, _, hk => by simp at hk
  | j, 0, p :: ps, ds, h, e, hk => by
    unfold qArgs at h
    obtain ⟨d, hd, h⟩ := Option.bind_eq_some_iff.mp h
    rw [e, Nat.add_zero, beq_self_eq_true] at hd
    cases p with
    | v x => cases hd
    | sl i => exact ⟨i, d, rfl, hd⟩
  | j, k + 1, p :: ps, ds, h, e, hk => by
    unfold qArgs at h
    obtain ⟨d, hd, h⟩ := Option.bind_eq_some_iff.mp h
    obtain ⟨ds', hds, rfl⟩ := Option.map_eq_some_iff.mp h
    obtain ⟨i, d', a, b⟩ := qArgs_at (j := j + 1) (k := k) hds (by rw [e]; congr 1; omega) (by simpa using hk)
    exact ⟨i, d', by simpa using a, b⟩
/-- what a call has done, told in the frame of the caller -/
theorem Rel.back {ps : List PV} {vs : List V} {ds : List D} {o : Option D} {env' : Env} (R : Rel T F env σ B H) (hv : PvsOk T ps vs σ B) (hq : qArgs env io 0 ps = some ds) (s : Stp T (ioA io vs) B H B' H') (io' : IoE T o (ioA io vs) B' H') (hp : putBack env io ps o = some env') : Rel T F env' σ B' H' := by
  unfold putBack at hp
  cases io with
  | none => cases hp; exact R.step s
  | some k =>
    cases o with
    | none => cases hp
    | some d =>
      simp only at hp
      split at hp
      · rename_i i hi
        have hk : k < ps.length := (List.getElem?_eq_some_iff.mp hi).1
        obtain ⟨i', d0, h1, h2⟩ := qArgs_at (j := 0) (k := k) hq (by simp) hk
        rw [hi] at h1; cases h1
        obtain ⟨a, ha, hb, hc⟩ := R.own h2
        obtain ⟨v, hv1, hv2⟩ := pvs_at hv hi
        rw [ha] at hv2; cases hv2
        have e : ioA (some k) vs = [a] := by unfold ioA; simp only [hv1]
        rw [e] at s io'
        exact R.stepAt s ha h2 io'.1 io'.2 hp
      · cases hp
end
section
variable {X : Cx} {T : Tab} {e : Expr} {es : List Expr} {pos p : Pos} {x : Str} {f : Addr} {fd : FuncData} {ps : List Str} {k : Nat}
theorem backE_ok {env : Env} {io : Option Nat} {ps : List PV} {d : D} {o : Option D} {φ : D → Env → Prop} {ψ : Nat → List D → Env → Prop} (h : (backE env io ps (.ok d o)).wp φ ψ) : ∃ e, putBack env io ps o = some e ∧ φ d e := by
  cases c : putBack env io ps o with
  | none => rw [show backE env io ps (.ok d o) = .stuck by simp only [backE, c]] at h; exact h.elim
  | some e' => rw [show backE env io ps (.ok d o) = .ok d e' by simp only [backE, c]] at h; exact ⟨e', rfl, h⟩
theorem backE_ex {env : Env} {io : Option Nat} {ps : List PV} {k : Nat} {fs : List D} {o : Option D} {φ : D → Env → Prop} {ψ : Nat → List D → Env → Prop} (h : (backE env io ps (.ex k fs o)).wp φ ψ) : ∃ e, putBack env io ps o = some e ∧ ψ k fs e := by
  cases c : putBack env io ps o with
  | none => rw [show backE env io ps (.ex k fs o) = .stuck by simp only [backE, c]] at h; exact h.elim
  | some e' => rw [show backE env io ps (.ex k fs o) = .ex k fs e' by simp only [backE, c]] at h; exact ⟨e', rfl, h⟩
theorem sp_q {F : Fr0} {W : XK} {io : Option Nat} {m : List D → OF} {pvs : List PV} {ds : List D} {vs : List V} {env : Env} {σ : L2.St} {B0 B H : Hp} {Q : VK} (R : Rel T F env σ B H) (e0 : Ex B0 B) (hv : PvsOk T pvs vs σ B) (hq : qArgs env io 0 pvs = some ds)
    (q : (backE env io pvs (m ds)).wp (fun d env' => ∀ v B' H', Rel T F env' σ B' H' → Ex B0 B' → Is T d v B' → Q v H') (exPs T F W B0 σ)) : spF T io false m vs H Q W := by
  refine ⟨B, ds, R.g0, qArgs_as R hq hv, ?_⟩
  cases h : m ds with
  | ok d o =>
    rw [h] at q
    intro v B' H' s io' is
    rw [if_neg (by simp)] at is
    obtain ⟨env', hp, q⟩ := backE_ok q
    exact q v B' H' (R.back hv hq s io' hp) (e0.trans s.b) is
  | ex c fs o =>
    rw [h] at q
    intro dd B' H' s io' is
    obtain ⟨env', hp, q⟩ := backE_ex q
    exact q dd B' H' (R.back hv hq s io' hp) (e0.trans s.b) is
  | stuck => rw [h] at q; exact q.elim
theorem sp_qN {F : Fr0} {W : XK} {io : Option Nat} {m : List D → OF} {pvs : List PV} {ds : List D} {vs : List V} {env : Env} {σ : L2.St} {B0 B H : Hp} {Q : VK} (R : Rel T F env σ B H) (e0 : Ex B0 B) (hv : PvsOk T pvs vs σ B) (hq : qArgs env io 0 pvs = some ds)
    (q : (backE env io pvs (m ds)).wp (fun d env' => ∀ a B' H', Rel T F env' σ B' H' → Ex B0 B' → B' a = none → F.H a = none → NotIn env' σ a → Cell T d a B' H' → Q (.ref a) H') (exPs T F W B0 σ)) : spF T io true m vs H Q W := by
  refine ⟨B, ds, R.g0, qArgs_as R hq hv, ?_⟩
  cases h : m ds with
  | ok d o =>
    rw [h] at q
    intro v B' H' s io' is
    rw [if_pos rfl] at is
    obtain ⟨a, rfl, h1, h2, h3⟩ := is
    obtain ⟨env', hp, q⟩ := backE_ok q
    have R' := R.back hv hq s io' hp
    refine q a B' H' R' (e0.trans s.b) h1 (R.freeF h2) (fun j sj ej oj z => ?_) h3
    have hold : ∃ sj0, env[j]? = some sj0 ∧ (Own sj0).isSome = true := by
      unfold putBack at hp
      cases io with
      | none => cases hp; exact ⟨sj, ej, oj⟩
      | some kk =>
        cases o with
        | none => cases hp
        | some d' =>
          simp only at hp
          split at hp
          · rename_i i hi
            unfold putSl at hp
            split at hp
            · rename_i d0 h0
              cases hp
              by_cases c : i = j
              · subst c; exact ⟨_, h0, rfl⟩
              · rw [List.getElem?_set_ne c] at ej; exact ⟨sj, ej, oj⟩
            · rename_i d0 h0
              cases hp
              by_cases c : i = j
              · subst c; exact ⟨_, h0, rfl⟩
              · rw [List.getElem?_set_ne c] at ej; exact ⟨sj, ej, oj⟩
            · cases hp
          · cases hp
    obtain ⟨sj0, e0', o0⟩ := hold
    exact R.notIn h2 j sj0 e0' o0 z
  | ex c fs o =>
    rw [h] at q
    intro dd B' H' s io' is
    obtain ⟨env', hp, q⟩ := backE_ex q
    exact q dd B' H' (R.back hv hq s io' hp) (e0.trans s.b) is
  | stuck => rw [h] at q; exact q.elim
theorem pvs_len : ∀ {pvs : List PV} {vs : List V} {σ : L2.St} {B : Hp}, PvsOk T pvs vs σ B → vs.length = pvs.length
  | [], vs, σ, B, h => by cases (show vs = [] from h); rfl
  | p :: ps, vs, σ, B, h => by
    obtain ⟨v, r, rfl, h1, h2⟩ := h
    simp [pvs_len h2]
theorem trE_callQ {io : Option Nat} {m : List D → OF} {mq : MQ} {n : Nat} (G : FnM X T k f fd ps io false m) (hr : Room k X.A) (hg : Gl X x) (hm : X.mg x = some (.ref f)) (hk : PySem.W.keepIn X.K (.ref f) = true) (hb : Binds X.K fd ps []) (ha : TrQ X T (e :: es) mq) (hn : n = ps.length := by rfl)
    (hdb : (x == ("__debug__" : Str)) = false := by decide)
    (he : starEach (e :: es) X.env = (false, eval e X.env) :: starEach es X.env := by rfl) (hpl : (backTo pos (starEach es X.env)).any (·.1) = false := by rfl) : TrE X T (.Call (.Name x p) (e :: es) [] pos) (mCallQ io n m mq) :=
  fun F W tk => pe_imp (pe_call G hr hg hm hk hb .nil tk.ps (ha F W tk) hdb he hpl) fun σ H Q ⟨env, B, R, q⟩ => ⟨env, B, R, Out.wp_mono (Out.wp_bind.mp q) (fun pvs env1 z => by
    intro vs B1 H1 R1 e1 hv
    split at z
    · rename_i ds hq
      split at z
      · rename_i l
        rw [List.append_nil]
        exact ⟨by rw [pvs_len hv, ← qArgs_len hq, l, hn], sp_q R1 e1 hv hq z⟩
      · exact z.elim
    · exact z.elim) fun _ _ _ z => z⟩
theorem trN_callQ {io : Option Nat} {m : List D → OF} {mq : MQ} {n : Nat} (G : FnM X T k f fd ps io true m) (hr : Room k X.A) (hg : Gl X x) (hm : X.mg x = some (.ref f)) (hk : PySem.W.keepIn X.K (.ref f) = true) (hb : Binds X.K fd ps []) (ha : TrQ X T (e :: es) mq) (hn : n = ps.length := by rfl)
    (hdb : (x == ("__debug__" : Str)) = false := by decide)
    (he : starEach (e :: es) X.env = (false, eval e X.env) :: starEach es X.env := by rfl) (hpl : (backTo pos (starEach es X.env)).any (·.1) = false := by rfl) : TrN X T (.Call (.Name x p) (e :: es) [] pos) (mCallQ io n m mq) :=
  fun F W tk => pe_imp (pe_call G hr hg hm hk hb .nil tk.ps (ha F W tk) hdb he hpl) fun σ H Q ⟨env, B, R, q⟩ => ⟨env, B, R, Out.wp_mono (Out.wp_bind.mp q) (fun pvs env1 z => by
    intro vs B1 H1 R1 e1 hv
    split at z
    · rename_i ds hq
      split at z
      · rename_i l
        rw [List.append_nil]
        exact ⟨by rw [pvs_len hv, ← qArgs_len hq, l, hn], sp_qN R1 e1 hv hq z⟩
      · exact z.elim
    · exact z.elim) fun _ _ _ z => z⟩
end
end Ml
set_option maxRecDepth 100000
set_option maxHeartbeats 2000000
namespace Ml
open PySem PySem.Spec PyProof.Rows L2
/-! ### a frame within a frame -/
def OwAt (env : Env) (σ : L2.St) (x : Addr) : Prop := ∃ (i : Nat) (d : D), env[i]? = some (Sl.ow d) ∧ σ[i]? = some (some (V.ref x))
open Classical in
noncomputable def subF (F : Fr0) (env : Env) (σ : L2.St) (B H : Hp) : Fr0 := ⟨B, fun x => if OwAt env σ x then none else H x, fun i => match env[i]? with
  | some (.io _) => F.io i
  | _ => none⟩
section
variable {T : Tab} {F : Fr0} {env env' env2 : Env} {σ : L2.St} {B H B' H' : Hp}
theorem subF_H {x : Addr} (h : ¬ OwAt env σ x) : (subF F env σ B H).H x = H x := by
  unfold subF; exact if_neg h
theorem subF_Hn {x : Addr} (h : OwAt env σ x) : (subF F env σ B H).H x = none := by
  unfold subF; exact if_pos h
theorem subF_some {x : Addr} {o : HO} (h : (subF F env σ B H).H x = some o) : H x = some o ∧ ¬ OwAt env σ x := by
  by_cases c : OwAt env σ x
  · rw [subF_Hn c] at h; cases h
  · rw [subF_H c] at h; exact ⟨h, c⟩
theorem subF_io {i : Nat} {a : Addr} (h : (subF F env σ B H).io i = some a) : F.io i = some a ∧ ∃ d, env[i]? = some (.io d) := by
  have h' : (match env[i]? with | some (.io _) => F.io i | _ => none) = some a := h
  split at h'
  · rename_i d e; exact ⟨h', d, e⟩
  · cases h'
theorem Rel.enter (R : Rel T F env σ B H) : Rel T (subF F env σ B H) env σ B H := by
  refine ⟨R.len, R.exB, R.tb, R.bN, Evl.Ex.refl _, fun b o _ h _ => (subF_some h).1, fun b h => ?_, fun b h => .inl h, fun i sl e => ?_, R.nd⟩
  · cases q : (subF F env σ B H).H b with
    | none => exact absurd q h
    | some o => rw [(subF_some q).1]; exact fun z => by cases z
  · have q := R.slot i sl e
    cases sl with
    | no => trivial
    | im d => exact q
    | ow d =>
      obtain ⟨a, h1, h2, h3, h4⟩ := q
      exact ⟨a, h1, h2, subF_Hn ⟨i, d, e, h1⟩, h4⟩
    | io d =>
      obtain ⟨a, h1, h2, h3, h4⟩ := q
      refine ⟨a, h1, h2, ?_, h4⟩
      show (match env[i]? with | some (.io _) => F.io i | _ => none) = some a
      rw [e]; exact h3
theorem Rel.owF (R : Rel T F env σ B H) {b : Addr} (h : OwAt env σ b) : F.H b = none := by
  obtain ⟨i, d, e, hs⟩ := h
  obtain ⟨a, h1, h2, h3, h4⟩ := R.slot i _ e
  rw [hs] at h1; cases h1
  exact h3
theorem Rel.leave {σ2 : L2.St} (R : Rel T F env σ B H) (R2 : Rel T (subF F env σ B H) env2 σ2 B' H') : Rel T F env2 σ2 B' H' := by
  refine ⟨R2.len, R2.exB, R2.tb, R2.bN, R.b0.trans R2.b0, fun b o k h n => ?_, fun b h => ?_, fun b h => ?_, fun i sl e => ?_, R2.nd⟩
  · have no : ¬ OwAt env σ b := fun z => by rw [R.owF z] at h; cases h
    exact R2.keep b o k (by rw [subF_H no]; exact R.keep b o k h n) fun i z => n i (subF_io z).1
  · have no : ¬ OwAt env σ b := fun z => h (R.owF z)
    exact R2.dom b (by rw [subF_H no]; exact R.dom b h)
  · rcases R2.fresh b h with z | z
    · exact R.fresh b z
    · right
      by_cases c : OwAt env σ b
      · exact R.owF c
      · rw [subF_H c] at z; exact R.freeF z
  · have q := R2.slot i sl e
    cases sl with
    | no => trivial
    | im d => exact q
    | ow d =>
      obtain ⟨a, h1, h2, h3, h4⟩ := q
      refine ⟨a, h1, h2, ?_, h4⟩
      by_cases c : OwAt env σ a
      · exact R.owF c
      · rw [subF_H c] at h3; exact R.freeF h3
    | io d =>
      obtain ⟨a, h1, h2, h3, h4⟩ := q
      exact ⟨a, h1, h2, (subF_io h3).1, h4⟩
/-- what no slot holds stays as it was -/
theorem Rel.kept {σ2 : L2.St} {D : Addr} {o : HO} (R : Rel T F env σ B H) (R2 : Rel T (subF F env σ B H) env2 σ2 B' H') (h : H D = some o) (k : NT o) (n : NotIn env σ D) : H' D = some o := by
  refine R2.keep D o k ?_ fun i z => ?_
  · rw [subF_H]
    · exact h
    · rintro ⟨i, d, e, hs⟩; exact n i _ e rfl hs
  · obtain ⟨z1, d, e⟩ := subF_io z
    obtain ⟨a, h1, h2, h3, h4⟩ := R.slot i _ e
    rw [z1] at h3; cases h3
    exact n i _ e rfl h1
/-- .. nor do the slots come to hold it -/
theorem Rel.keptN {σ2 : L2.St} {D : Addr} {o : HO} (R : Rel T F env σ B H) (R2 : Rel T (subF F env σ B H) env2 σ2 B' H') (h : H D = some o) (n : NotIn env σ D) (hB : B D = none) : NotIn env2 σ2 D ∧ B' D = none := by
  have noD : ¬ OwAt env σ D := by rintro ⟨i, d, e, hs⟩; exact n i _ e rfl hs
  refine ⟨fun j sj e o2 z => ?_, ?_⟩
  · have q := R2.slot j sj e
    cases sj with
    | no => cases o2
    | im d => cases o2
    | ow d =>
      obtain ⟨a, h1, h2, h3, h4⟩ := q
      rw [z] at h1; cases h1
      rw [subF_H noD, h] at h3; cases h3
    | io d =>
      obtain ⟨a, h1, h2, h3, h4⟩ := q
      rw [z] at h1; cases h1
      obtain ⟨z1, d', e'⟩ := subF_io h3
      obtain ⟨a', h1', h2', h3', h4'⟩ := R.slot j _ e'
      rw [z1] at h3'; cases h3'
      exact n j _ e' rfl h1'
  · cases q : B' D with
    | none => rfl
    | some u =>
      rcases R2.fresh D (by rw [q]; exact fun z => by cases z) with z | z
      · exact absurd hB z
      · rw [subF_H noD, h] at z; cases z
end
/-- a step that writes at a place that no slot holds -/
theorem Rel.other {T : Tab} {F : Fr0} {env : Env} {σ : L2.St} {B H : Hp} {D : Addr} {o o0 : HO} (R : Rel T F env σ B H) (n : NotIn env σ D) (hB : B D = none) (hF : F.H D = none) (h0 : H D = some o0) (n0 : NX o0) : Rel T F env σ B (L2.upd H D o) := by
  refine ⟨R.len, fun x u h => ?_, tabs_upd R.tb h0 n0, R.bN, R.b0, fun b u k h1 h2 => ?_, fun b h => ?_, R.fresh, fun i sl e => ?_, R.nd⟩
  · rw [upd_ne (ne_of_none h hB)]; exact R.exB _ _ h
  · rw [upd_ne (ne_of_none h1 hF)]; exact R.keep b u k h1 h2
  · by_cases z : b = D
    · subst z; rw [upd_same]; exact fun z => by cases z
    · rw [upd_ne z]; exact R.dom b h
  · have q := R.slot i sl e
    cases sl with
    | no => trivial
    | im d => exact q
    | ow d =>
      obtain ⟨a, h1, h2, h3, h4⟩ := q
      have nb : a ≠ D := fun z => by subst z; exact n i _ e rfl h1
      exact ⟨a, h1, h2, h3, h4.mono (Evl.Ex.refl _) fun u q _ => by rw [upd_ne nb]; exact q⟩
    | io d =>
      obtain ⟨a, h1, h2, h3, h4⟩ := q
      have nb : a ≠ D := fun z => by subst z; exact n i _ e rfl h1
      exact ⟨a, h1, h2, h3, h4.mono (Evl.Ex.refl _) fun u q _ => by rw [upd_ne nb]; exact q⟩
/-! ### slots forgotten and taken up again -/
def noOwn (env : Env) : List Nat → Bool
  | [] => true
  | v :: vs => (match env[v]? with
    | some (.ow _) => false
    | some (.io _) => false
    | _ => true) && noOwn env vs
def wipeE (env : Env) : List Nat → Env
  | [] => env
  | v :: vs => (wipeE env vs).set v .no
def mergeE (env env2 : Env) : List Nat → Env
  | [] => env2
  | v :: vs => match env[v]? with
    | some sl => (mergeE env env2 vs).set v sl
    | none => mergeE env env2 vs
section
variable {T : Tab} {F : Fr0} {env env' env2 : Env} {σ : L2.St} {B H B' H' : Hp}
theorem wipeE_len : ∀ vs : List Nat, (wipeE env vs).length = env.length
  | [] => rfl
  | v :: vs => by unfold wipeE; rw [List.length_set, wipeE_len vs]
theorem wipeE_get {i : Nat} {sl : Sl} : ∀ {vs : List Nat}, (wipeE env vs)[i]? = some sl → (sl = .no ∨ (env[i]? = some sl ∧ i ∉ vs))
  | [], h => .inr ⟨h, by simp⟩
  | v :: vs, h => by
    unfold wipeE at h
    by_cases c : v = i
    · subst c
      by_cases hv : v < (wipeE env vs).length
      · rw [List.getElem?_set_self hv] at h; cases h; exact .inl rfl
      · rw [List.getElem?_eq_none (by rw [List.length_set]; omega)] at h; cases h
    · rw [List.getElem?_set_ne c] at h
      rcases wipeE_get h with h | ⟨h1, h2⟩
      · exact .inl h
      · exact .inr ⟨h1, by simp only [List.mem_cons, not_or]; exact ⟨fun e => c e.symm, h2⟩⟩
theorem wipe_get {i : Nat} : ∀ {vs : List Nat}, i ∉ vs → (wipe σ vs)[i]? = σ[i]?
  | [], _ => rfl
  | v :: vs, h => by
    unfold wipe
    rw [List.mem_cons, not_or] at h
    rw [List.getElem?_set_ne (fun e => h.1 e.symm), wipe_get h.2]
theorem wipe_in {i : Nat} : ∀ {vs : List Nat}, i ∈ vs → i < σ.length → (wipe σ vs)[i]? = some none
  | v :: vs, h, hi => by
    unfold wipe
    by_cases c : v = i
    · subst c; exact List.getElem?_set_self (by rw [wipe_length]; exact hi)
    · rw [List.getElem?_set_ne c]
      exact wipe_in ((List.mem_cons.mp h).resolve_left fun e => c e.symm) hi
theorem Rel.wipe (R : Rel T F env σ B H) (vs : List Nat) : Rel T F (wipeE env vs) (L2.wipe σ vs) B H := by
  refine ⟨by rw [wipeE_len, wipe_length, R.len], R.exB, R.tb, R.bN, R.b0, R.keep, R.dom, R.fresh, fun i sl e => ?_, fun i j si sj a ei ej oi oj ci cj => ?_⟩
  · rcases wipeE_get e with rfl | ⟨e1, e2⟩
    · trivial
    · have q := R.slot i sl e1
      have es : (L2.wipe σ vs)[i]? = σ[i]? := wipe_get e2
      cases sl with
      | no => trivial
      | im d => obtain ⟨v, h1, h2⟩ := q; exact ⟨v, es.trans h1, h2⟩
      | ow d => obtain ⟨a, h1, h2, h3, h4⟩ := q; exact ⟨a, es.trans h1, h2, h3, h4⟩
      | io d => obtain ⟨a, h1, h2, h3, h4⟩ := q; exact ⟨a, es.trans h1, h2, h3, h4⟩
  · have g : ∀ (i : Nat) (si : Sl), (wipeE env vs)[i]? = some si → (Own si).isSome = true → env[i]? = some si ∧ i ∉ vs := fun i si e o => by
      rcases wipeE_get e with rfl | h
      · cases o
      · exact h
    obtain ⟨a1, a2⟩ := g i si ei oi
    obtain ⟨b1, b2⟩ := g j sj ej oj
    rw [wipe_get a2] at ci
    rw [wipe_get b2] at cj
    exact R.nd i j si sj a a1 b1 oi oj ci cj
theorem mergeE_len : ∀ vs : List Nat, (mergeE env env2 vs).length = env2.length
  | [] => rfl
  | v :: vs => by
    unfold mergeE
    split
    · rw [List.length_set, mergeE_len vs]
    · exact mergeE_len vs
theorem mergeE_get {i : Nat} {sl : Sl} : ∀ {vs : List Nat}, (mergeE env env2 vs)[i]? = some sl → (i ∈ vs ∧ env[i]? = some sl) ∨ (env2[i]? = some sl ∧ (i ∉ vs ∨ env[i]? = none))
  | [], h => .inr ⟨h, .inl (by simp)⟩
  | v :: vs, h => by
    unfold mergeE at h
    split at h
    · rename_i sl' e
      by_cases c : v = i
      · subst c
        by_cases hv : v < (mergeE env env2 vs).length
        · rw [List.getElem?_set_self hv] at h; cases h; exact .inl ⟨List.mem_cons_self, e⟩
        · rw [List.getElem?_eq_none (by rw [List.length_set]; omega)] at h; cases h
      · rw [List.getElem?_set_ne c] at h
        rcases mergeE_get h with ⟨h1, h2⟩ | ⟨h1, h2⟩
        · exact .inl ⟨List.mem_cons_of_mem _ h1, h2⟩
        · exact .inr ⟨h1, h2.imp (fun z => by simp only [List.mem_cons, not_or]; exact ⟨fun e => c e.symm, z⟩) id⟩
    · rename_i e
      rcases mergeE_get h with ⟨h1, h2⟩ | ⟨h1, h2⟩
      · exact .inl ⟨List.mem_cons_of_mem _ h1, h2⟩
      · by_cases c : v = i
        · subst c; exact .inr ⟨h1, .inr e⟩
        · exact .inr ⟨h1, h2.imp (fun z => by simp only [List.mem_cons, not_or]; exact ⟨fun e => c e.symm, z⟩) id⟩
theorem noOwn_at {v : Nat} {sl : Sl} : ∀ {vs : List Nat}, noOwn env vs = true → v ∈ vs → env[v]? = some sl → (Own sl).isSome = false
  | w :: vs, h, hm, e => by
    unfold noOwn at h
    obtain ⟨h1, h2⟩ := Bool.and_eq_true_iff.mp h
    rcases List.mem_cons.mp hm with rfl | hm
    · rw [e] at h1
      cases sl with
      | no => rfl
      | im d => rfl
      | ow d => cases h1
      | io d => cases h1
    · exact noOwn_at h2 hm e
theorem Rel.unwipe {vs : List Nat} (R : Rel T F env σ B H) (ho : noOwn env vs = true) (R2 : Rel T F env2 (L2.wipe σ vs) B' H') (e : Ex B B') : Rel T F (mergeE env env2 vs) σ B' H' := by
  have hl : env2.length = σ.length := by rw [R2.len, wipe_length]
  have g : ∀ (i : Nat) (sl : Sl), (mergeE env env2 vs)[i]? = some sl → (i ∈ vs ∧ env[i]? = some sl) ∨ (env2[i]? = some sl ∧ i ∉ vs) := fun i sl q => by
    rcases mergeE_get q with h | ⟨h1, h2⟩
    · exact .inl h
    · rcases h2 with h2 | h2
      · exact .inr ⟨h1, h2⟩
      · have a : i < env2.length := (List.getElem?_eq_some_iff.mp h1).1
        have b : ¬ i < env.length := fun z => by rw [List.getElem?_eq_getElem z] at h2; cases h2
        rw [hl, ← R.len] at a
        exact absurd a b
  refine ⟨by rw [mergeE_len, hl], R2.exB, R2.tb, R2.bN, R2.b0, R2.keep, R2.dom, R2.fresh, fun i sl q => ?_, fun i j si sj a ei ej oi oj ci cj => ?_⟩
  · rcases g i sl q with ⟨h1, h2⟩ | ⟨h1, h2⟩
    · have o := noOwn_at ho h1 h2
      have s := R.slot i sl h2
      cases sl with
      | no => trivial
      | im d => obtain ⟨v, s1, s2⟩ := s; exact ⟨v, s1, s2.mono e⟩
      | ow d => cases o
      | io d => cases o
    · have q := R2.slot i sl h1
      have es : (L2.wipe σ vs)[i]? = σ[i]? := wipe_get h2
      cases sl with
      | no => trivial
      | im d => obtain ⟨v, h1, h2⟩ := q; exact ⟨v, es.symm.trans h1, h2⟩
      | ow d => obtain ⟨a, h1, h2, h3, h4⟩ := q; exact ⟨a, es.symm.trans h1, h2, h3, h4⟩
      | io d => obtain ⟨a, h1, h2, h3, h4⟩ := q; exact ⟨a, es.symm.trans h1, h2, h3, h4⟩
  · have k : ∀ (i : Nat) (si : Sl), (mergeE env env2 vs)[i]? = some si → (Own si).isSome = true → env2[i]? = some si ∧ i ∉ vs := fun i si e o => by
      rcases g i si e with ⟨h1, h2⟩ | h
      · rw [noOwn_at ho h1 h2] at o; cases o
      · exact h
    obtain ⟨a1, a2⟩ := k i si ei oi
    obtain ⟨b1, b2⟩ := k j sj ej oj
    rw [← wipe_get a2] at ci
    rw [← wipe_get b2] at cj
    exact R2.nd i j si sj a a1 b1 oi oj ci cj
theorem wipe_wipe (σ : L2.St) (vs : List Nat) : L2.wipe (L2.wipe σ vs) vs = L2.wipe σ vs := by
  apply List.ext_getElem?
  intro i
  by_cases c : i ∈ vs
  · by_cases hi : i < σ.length
    · rw [wipe_in c (by rw [wipe_length]; exact hi), wipe_in c hi]
    · rw [List.getElem?_eq_none (by rw [wipe_length, wipe_length]; omega), List.getElem?_eq_none (by rw [wipe_length]; omega)]
  · rw [wipe_get c]
theorem wipe_off {σ2 : L2.St} {sl vs : List Nat} (o : Off sl (L2.wipe σ vs) σ2) (h : ∀ i ∈ sl, i ∈ vs) : L2.wipe σ2 vs = L2.wipe σ vs := by
  apply List.ext_getElem?
  intro i
  have hl : σ2.length = σ.length := by rw [o.1, wipe_length]
  by_cases c : i ∈ vs
  · by_cases hi : i < σ.length
    · rw [wipe_in c (by rw [hl]; exact hi), wipe_in c hi]
    · rw [List.getElem?_eq_none (by rw [wipe_length, hl]; omega), List.getElem?_eq_none (by rw [wipe_length]; omega)]
  · rw [wipe_get c, o.2 i fun z => c (h i z)]
end
/-! ### comprehensions -/
def TrTs (X : Cx) (T : Tab) (es : List Expr) (m : MT) : Prop := ∀ (F : Fr0) (W : XK), Lets X W → PTs X es (tOfT T F W m)
theorem pts_imp {X : Cx} {e : List Expr} {t t' : TT} (h : PTs X e t) (i : ∀ σ H Q, t' σ H Q → t σ H Q) : PTs X e t' := ⟨fun pins s σ H Q I q => h.run pins s σ H Q I (i σ H Q q)⟩
def tTrue : MT := fun env => .ok true env
section
variable {X : Cx} {T : Tab} {e e1 elt tg it : Expr} {es ifs : List Expr} {pos p : Pos} {x : Str}
theorem trTs_nil : TrTs X T [] tTrue := fun F W tk => pts_imp pts_nil fun σ H Q ⟨env, B, R, q⟩ => q B H R (Evl.Ex.refl _)
theorem trTs_one {m : MT} (h : TrT X T e m) : TrTs X T [e] m := fun F W tk => pts_one (h F W tk)
def lcGo (g : MG) (tt : MT) (me : ME) (vs : List Nat) : List D → Env → Out (List D)
  | [], env => .ok [] env
  | d :: ds, env => match g d env with
    | none => .stuck
    | some env1 => match tt env1 with
      | .ok true env2 => match me env2 with
        | .ok y env3 => match lcGo g tt me vs ds (wipeE env3 vs) with
          | .ok ys env4 => .ok (y :: ys) env4
          | _ => .stuck
        | _ => .stuck
      | .ok false env2 => lcGo g tt me vs ds (wipeE env2 vs)
      | _ => .stuck
def mLc (mi : MA) (g : MG) (tt : MT) (me : ME) (vs : List Nat) : ME := fun env => (mi env).bind fun ds env1 =>
  if noOwn env1 vs && decide (ds.length ≤ sizeLine) then match lcGo g tt me vs ds (wipeE env1 vs) with
    | .ok ys env2 => .ok (.lst ys) (mergeE env1 env2 vs)
    | _ => .stuck
  else .stuck
def tE' (T : Tab) (m : ME) : TE := fun σ H Q => ∃ F, tOf T F (fun _ _ _ => False) m σ H Q
def tT' (T : Tab) (m : MT) : TT := fun σ H Q => ∃ F, tOfT T F (fun _ _ _ => False) m σ H Q
def tG' (T : Tab) (g : MG) (sl : List Nat) : TG := fun v σ H Q => ∃ F, tOfG T F g sl v σ H Q
theorem lets_blk {s : Shared} {H : Hp} {scope : Scope} {cenv : PySem.Env} {fp : List Addr} : Lets (X.blk s H scope cenv fp) (fun _ _ _ => False) := by
  have tk : Takes (X.blk s H scope cenv fp) (fun _ _ _ _ => False) := fun _ _ h => by
    obtain ⟨_, _, _, _, _, _, _, _, _, _, _, _, _, _, _, _, w⟩ := h
    exact w.elim
  exact .of tk PassesOwn.never
theorem wp_false {F : Fr0} {B B' H : Hp} {σ : L2.St} {α : Type} {m : Out α} {φ : α → Env → Prop} (h : ∃ a e, m = .ok a e ∧ φ a e) : m.wp φ (exP T F (fun _ _ _ => False) B) := by
  obtain ⟨a, e, rfl, h⟩ := h
  exact h
theorem tLc_of {F : Fr0} {W : XK} {mi : MA} {g : MG} {tt : MT} {me : ME} {sl vs : List Nat} (hsl : ∀ i ∈ sl, i ∈ vs) {σ : L2.St} {H : Hp} {Q : VK} (h : tOfN T F W (mLc mi g tt me vs) σ H Q) : tLc (tOfI T F W mi) (tG' T g sl) (tT' T tt) (tE' T me) vs σ H Q := by
  obtain ⟨env, B, R, q⟩ := h
  refine ⟨env, B, R, Out.wp_mono (Out.wp_bind.mp q) (fun ds env1 z J B1 H1 R1 e1 w dA hD => ?_) fun _ _ _ z => z⟩
  split at z
  · rename_i hc
    obtain ⟨ho, hz⟩ := Bool.and_eq_true_iff.mp hc
    have hz := of_decide_eq_true hz
    split at z
    · rename_i ysAll envE hgo
      refine lc_it w (fun i H => ∃ env2 B2 ys acc rest, Rel T F env2 (L2.wipe σ vs) B2 H ∧ Ex B1 B2 ∧ H dA = some (.lst acc) ∧ B2 dA = none ∧ NotIn env2 (L2.wipe σ vs) dA ∧ acc.length ≤ i ∧ IsL T ys acc B2 ∧ lcGo g tt me vs (ds.drop i) env2 = .ok rest envE ∧ ysAll = ys ++ rest) ?_ ?_ ?_ ?_
      · have Rw := R1.wipe vs
        refine ⟨_, B1, [], [], ysAll, Rw.step (Stp.junk Rw.exB hD), Evl.Ex.refl _, upd_same, ex_none R1.exB hD, fun j sj ej oj zz => Rw.notIn hD j sj ej oj zz, Nat.le_refl _, .nil, hgo, rfl⟩
      · rintro i H2 hi ⟨env2, B2, ys, acc, rest, R2, e2, _⟩
        exact e2.trans R2.exB
      · rintro i x H2 H3 hi ⟨env2, B2, ys, acc, rest, R2, e2, h1, h2, h3, h4, h5, h6, h7⟩ y
        obtain ⟨B3, d, hd, s, is⟩ := y B2 e2 R2.exB
        have R3 := R2.step s
        have nL : ∀ {zs : List V}, NX (.lst zs) := fun {zs} => ⟨fun _ z => (by cases z), fun _ z => (by cases z)⟩
        have hD3 : H3 dA = some (.lst acc) := s.exH _ _ h1 nL.1
        have hB3 : B3 dA = none := by
          cases q : B3 dA with
          | none => rfl
          | some u =>
            rcases s.n dA (by rw [q]; exact fun z => by cases z) with z | z
            · exact absurd h2 z
            · rw [h1] at z; cases z
        rw [show ds.drop i = d :: ds.drop (i + 1) from List.drop_eq_getElem?_toList_append.trans (by rw [hd]; rfl)] at h6
        rw [lcGo] at h6
        split at h6
        · cases h6
        · rename_i env3 hg
          have nI3 : NotIn env2 (L2.wipe σ vs) dA := h3
          refine ⟨subF F env2 (L2.wipe σ vs) B3 H3, env2, B3, d, env3, R3.enter, is, hg, fun σ4 R4' of => ⟨wipe_off of hsl, ?_⟩⟩
          have w4 : L2.wipe σ4 vs = L2.wipe σ vs := wipe_off of hsl
          obtain ⟨n4, b4⟩ := R3.keptN R4' hD3 nI3 hB3
          have R4 := R3.leave R4'
          have fin : ∀ {env5 : Env} {B5 H5 : Hp} {ys' acc' : _} {rest' : List D}, Rel T F env5 σ4 B5 H5 → Ex B3 B5 → H5 dA = some (.lst acc') → B5 dA = none → NotIn env5 σ4 dA → acc'.length ≤ i + 1 → IsL T ys' acc' B5 → lcGo g tt me vs (ds.drop (i + 1)) (wipeE env5 vs) = .ok rest' envE → ysAll = ys' ++ rest' →
              ∃ env2 B2 ys acc rest, Rel T F env2 (L2.wipe σ vs) B2 H5 ∧ Ex B1 B2 ∧ H5 dA = some (.lst acc) ∧ B2 dA = none ∧ NotIn env2 (L2.wipe σ vs) dA ∧ acc.length ≤ i + 1 ∧ IsL T ys acc B2 ∧ lcGo g tt me vs (ds.drop (i + 1)) env2 = .ok rest envE ∧ ysAll = ys ++ rest :=
            fun {env5 B5 H5 ys' acc' rest'} r5 x5 k1 k2 k3 k4 k5 k6 k7 => by
              have r6 := r5.wipe vs
              rw [w4] at r6
              refine ⟨_, B5, ys', acc', rest', r6, (e2.trans s.b).trans x5, k1, k2, fun j sj ej oj zz => ?_, k4, k5, k6, k7⟩
              rcases wipeE_get ej with rfl | ⟨q1, q2⟩
              · cases oj
              · rw [← w4, wipe_get q2] at zz
                exact k3 j sj q1 oj zz
          refine ⟨subF F env3 σ4 B3 H3, env3, B3, R4.enter, ?_⟩
          split at h6
          · rename_i env4 ht
            rw [ht]
            intro B4 H4 R5' x4
            have hD4 := R4.kept R5' hD3 nL.1 n4
            obtain ⟨n5, b5⟩ := R4.keptN R5' hD3 n4 b4
            have R5 := R4.leave R5'
            rw [if_pos rfl]
            refine ⟨subF F env4 σ4 B4 H4, env4, B4, R5.enter, ?_⟩
            split at h6
            · rename_i yd env5 hm
              rw [hm]
              intro v B5 H5 R6' x5 iv
              have hD5 := R5.kept R6' hD4 nL.1 n5
              obtain ⟨n6, b6⟩ := R5.keptN R6' hD4 n5 b5
              have R6 := R5.leave R6'
              split at h6
              · rename_i ys' env6 hr
                cases h6
                have hac : acc.length < ds.length := Nat.lt_of_le_of_lt h4 hi
                refine ⟨acc, hD5, Nat.lt_of_lt_of_le hac hz, ?_⟩
                have R7 : Rel T F env5 σ4 B5 (upd H5 dA (.lst (acc ++ [v]))) := R6.other n6 b6 (R1.freeF hD) hD5 nL
                refine fin (ys' := ys ++ [yd]) (rest' := ys') R7 (x4.trans x5) upd_same b6 n6 (by rw [List.length_append]; exact Nat.succ_le_succ h4) ((h5.mono (s.b.trans (x4.trans x5))).append (.cons iv .nil)) hr (by rw [h7, List.append_assoc]; rfl)
              · cases h6
            · cases h6
          · rename_i env4 ht
            rw [ht]
            intro B4 H4 R5' x4
            have hD4 := R4.kept R5' hD3 nL.1 n4
            obtain ⟨n5, b5⟩ := R4.keptN R5' hD3 n4 b4
            have R5 := R4.leave R5'
            rw [if_neg Bool.false_ne_true]
            exact fin R5 x4 hD4 b5 n5 (Nat.le_succ_of_le h4) (h5.mono (s.b.trans x4)) h6 h7
          · cases h6
      · rintro H2 ⟨env2, B2, ys, acc, rest, R2, e2, h1, h2, h3, h4, h5, h6, h7⟩
        rw [List.drop_length] at h6
        cases h6
        rw [List.append_nil] at h7
        subst h7
        have R3 := R1.unwipe ho R2 e2
        refine z dA B2 H2 R3 (e1.trans e2) h2 (R1.freeF hD) (fun j sj ej oj zz => ?_) ⟨acc, h1, h5⟩
        have q := R3.slot j sj ej
        rcases mergeE_get ej with ⟨q1, q2⟩ | ⟨q1, q2⟩
        · rw [noOwn_at ho q1 q2] at oj; cases oj
        · by_cases c : j ∈ vs
          · have q2 := q2.resolve_left fun n => n c
            have ha : j < _ := (List.getElem?_eq_some_iff.mp q1).1
            have b : ¬ j < env1.length := fun z => by rw [List.getElem?_eq_getElem z] at q2; cases q2
            rw [R2.len, wipe_length, ← R1.len] at ha
            exact absurd ha b
          · rw [← wipe_get (vs := vs) c] at zz
            exact h3 j sj q1 oj zz
    · exact z.elim
  · exact z.elim
end
end Ml
set_option maxRecDepth 100000
set_option maxHeartbeats 2000000
namespace Ml
open PySem PySem.Spec PyProof.Rows L2
section
variable {X : Cx} {T : Tab} {e e1 elt tg it : Expr} {es ifs : List Expr} {pos p spos py : Pos} {x y : Str} {scope : Scope} {own : List (Str × Nat)} {sl : List Nat}
theorem pe_any {α : Type} {t : α → TE} (h : ∀ a, PE X e (t a)) : PE X e (fun σ H Q => ∃ a, t a σ H Q) := ⟨fun pins s σ H Q I ⟨a, q⟩ => (h a).run pins s σ H Q I q⟩
theorem pts_any {α : Type} {t : α → TT} (h : ∀ a, PTs X es (t a)) : PTs X es (fun σ H Q => ∃ a, t a σ H Q) := ⟨fun pins s σ H Q I ⟨a, q⟩ => (h a).run pins s σ H Q I q⟩
theorem pg_any {α : Type} {t : α → TG} (h : ∀ a, PG X tg (t a)) : PG X tg (fun v σ H Q => ∃ a, t a v σ H Q) := ⟨fun pins s σ H v u Q I r ⟨a, q⟩ => (h a).run pins s σ H v u Q I r q⟩
theorem trN_lc {mi : MA} {g : MG} {tt : MT} {me : ME} (hc : X.calm = true) (hN : X.N.Nodup) (hi : TrI X T tg it mi) (ok : BlkOk X.N X.env.scope scope own)
    (hg : ∀ (s : Shared) (H : Hp) (C : Addr) (cl : List (Str × Addr)) (fp : List Addr), TrG (X.blk s H scope (compEnvC scope cl C X.env) fp) T tg g sl)
    (ht : ∀ (s : Shared) (H : Hp) (C : Addr) (cl : List (Str × Addr)) (fp : List Addr), TrTs (X.blk s H scope (compEnvC scope cl C X.env) fp) T ifs tt)
    (he : ∀ (s : Shared) (H : Hp) (C : Addr) (cl : List (Str × Addr)) (fp : List Addr), TrE (X.blk s H scope (compEnvC scope cl C X.env) fp) T elt me)
    (hsl : ∀ i ∈ sl, i ∈ own.map (·.2) := by decide) (hs : ∀ x, foldedSetIterable it X.env x = pure x := by intro _; rfl) :
    TrN X T (.ListComp elt [⟨tg, it, ifs, 0⟩] scope pos) (mLc mi g tt me (own.map (·.2))) := fun F W tk =>
  pe_imp (pe_lc hc hN (hi F W tk) ok (fun s H C cl fp => pg_any fun F' => hg s H C cl fp F') (fun s H C cl fp => pts_any fun F' => ht s H C cl fp F' _ lets_blk) (fun s H C cl fp => pe_any fun F' => he s H C cl fp F' _ lets_blk) hs) fun σ H Q h => tLc_of hsl h
theorem trS_setLc {i : Nat} {mi : MA} {g : MG} {tt : MT} {me : ME} (hc : X.calm = true) (hN : X.N.Nodup) (hsw : swapsWith (.ListComp elt [⟨tg, it, ifs, 0⟩] scope pos) (some (.Name y py)) spos.line X.env = pure true) (hi : TrI X T tg it mi) (ok : BlkOk X.N X.env.scope scope own)
    (hg : ∀ (s : Shared) (H : Hp) (C : Addr) (cl : List (Str × Addr)) (fp : List Addr), TrG (X.blk s H scope (compEnvC scope cl C X.env) fp) T tg g sl)
    (ht : ∀ (s : Shared) (H : Hp) (C : Addr) (cl : List (Str × Addr)) (fp : List Addr), TrTs (X.blk s H scope (compEnvC scope cl C X.env) fp) T ifs tt)
    (he : ∀ (s : Shared) (H : Hp) (C : Addr) (cl : List (Str × Addr)) (fp : List Addr), TrE (X.blk s H scope (compEnvC scope cl C X.env) fp) T elt me)
    (hy : X.N[i]? = some y := by rfl) (hyl : X.env.scope.names.lookup y = some .local := by rfl)
    (hsl : ∀ i ∈ sl, i ∈ own.map (·.2) := by decide) (hs : ∀ x, foldedSetIterable it X.env x = pure x := by intro _; rfl) :
    TrS X T (.Assign [.Name y py] (.ListComp elt [⟨tg, it, ifs, 0⟩] scope pos) spos) (sSetN i (mLc mi g tt me (own.map (·.2)))) := fun F W tk =>
  ps_imp (ps_setLc hc hN hy hyl hsw (hi F W tk) ok (fun s H C cl fp => pg_any fun F' => hg s H C cl fp F') (fun s H C cl fp => pts_any fun F' => ht s H C cl fp F' _ lets_blk) (fun s H C cl fp => pe_any fun F' => he s H C cl fp F' _ lets_blk) hs) fun D σ H ⟨env, B, R, q⟩ =>
    tLc_of hsl (F := F) (W := W) ⟨env, B, R, Out.wp_mono (Out.wp_bindS.mp q) (fun d env1 z a B1 H1 R1 e1 h2 h3 n c => by
    obtain ⟨env2, hp, z⟩ := ofE_wp z
    obtain ⟨n1, n2, rfl⟩ := putOw_ok hp
    exact z _ B1 H1 (R1.setOw h2 h3 c n n1 n2) e1) fun _ _ _ z => exP.to z⟩
end
end Ml
set_option maxRecDepth 100000
set_option maxHeartbeats 2000000
namespace Ml
open PySem PySem.Spec PyProof.Rows L2
/-! ### == and in, of data -/
mutual
def toP : D → Option PyData
  | .non => some .none
  | .bl b => some (.bool b)
  | .int i => some (.int i)
  | .str s => some (.str s)
  | .tup ds => (toPs ds).map .tuple
  | .lst ds => (toPs ds).map .list
  | _ => none
def toPs : List D → Option (List PyData)
  | [] => some []
  | d :: ds => (toP d).bind fun p => (toPs ds).map (p :: ·)
end
section
variable {T : Tab} {H : Hp} {K : PySem.W.Frag}
mutual
theorem dp_of : ∀ {d : D} {p : PyData} {v : V}, toP d = some p → Is T d v H → Dp K H v p
  | .non, p, v, e, h => by unfold toP at e; cases e; cases is_non.mp h; exact .non
  | .bl b, p, v, e, h => by unfold toP at e; cases e; cases is_bl.mp h; exact .bl b
  | .int i, p, v, e, h => by unfold toP at e; cases e; cases is_int.mp h; exact .int i
  | .str s, p, v, e, h => by unfold toP at e; cases e; cases is_str.mp h; exact .str s
  | .tup ds, p, v, e, h => by
    unfold toP at e
    obtain ⟨ps, h1, rfl⟩ := Option.map_eq_some_iff.mp e
    obtain ⟨a, xs, rfl, h2, h3⟩ := is_tup.mp h
    exact .tup (SqT.of h2) (dps_of h1 h3)
  | .lst ds, p, v, e, h => by
    unfold toP at e
    obtain ⟨ps, h1, rfl⟩ := Option.map_eq_some_iff.mp e
    obtain ⟨a, xs, rfl, h2, h3⟩ := is_lst.mp h
    exact .lst (.inl (.inl h2)) (dps_of h1 h3)
  | .dct _, p, v, e, h => by unfold toP at e; cases e
  | .ins _ _, p, v, e, h => by unfold toP at e; cases e
  | .cls _, p, v, e, h => by unfold toP at e; cases e
  | .ty _, p, v, e, h => by unfold toP at e; cases e
  | .fn _, p, v, e, h => by unfold toP at e; cases e
  | .xc _ _ _ _, p, v, e, h => by unfold toP at e; cases e
  | .rdl _, p, v, e, h => by unfold toP at e; cases e
theorem dps_of : ∀ {ds : List D} {ps : List PyData} {vs : List V}, toPs ds = some ps → IsL T ds vs H → DpAll K H vs ps
  | [], ps, vs, e, h => by unfold toPs at e; cases e; rw [isL_nil.mp h]; exact .nil
  | d :: ds, ps, vs, e, h => by
    unfold toPs at e
    obtain ⟨p, h1, e⟩ := Option.bind_eq_some_iff.mp e
    obtain ⟨ps', h2, rfl⟩ := Option.map_eq_some_iff.mp e
    obtain ⟨v, r, rfl, h3, h4⟩ := isL_cons.mp h
    exact .cons (dp_of h1 h3) (dps_of h2 h4)
end
theorem dp_top {B : Hp} {d : D} {p : PyData} {v : V} (x : Ex B H) (e : toP d = some p) (h : Top T d v B H) : Dp K H v p := by
  rcases h with h | ⟨a, rfl, h⟩
  · exact dp_of e (h.mono x)
  · cases d with
    | lst ds =>
      unfold toP at e
      obtain ⟨ps, h1, rfl⟩ := Option.map_eq_some_iff.mp e
      obtain ⟨xs, h2, h3⟩ := h
      exact .lst (.inl (.inl h2)) (dps_of h1 (h3.mono x))
    | _ => first | exact h.elim | (unfold toP at e; cases e)
def eqP (a b : D) : Option Bool := (toP a).bind fun p => (toP b).bind fun q => if SeqAt.shaped p && SeqAt.shaped q then some (PyData.eqv p q) else none
def fEq (a b : D) : Option D := (eqP a b).map .bl
def fNe (a b : D) : Option D := (eqP a b).map fun k => .bl (!k)
theorem eqP_ok {B : Hp} {a b : D} {k : Bool} {x y : V} (e : Ex B H) (h : eqP a b = some k) (ta : Top T a x B H) (tb : Top T b y B H) : ∃ p q, Dp T.K H x p ∧ Dp T.K H y q ∧ SeqAt.shaped p = true ∧ SeqAt.shaped q = true ∧ k = PyData.eqv p q := by
  unfold eqP at h
  obtain ⟨p, h1, h⟩ := Option.bind_eq_some_iff.mp h
  obtain ⟨q, h2, h⟩ := Option.bind_eq_some_iff.mp h
  split at h
  · rename_i c
    obtain ⟨c1, c2⟩ := Bool.and_eq_true_iff.mp c
    cases h
    exact ⟨p, q, dp_top e h1 ta, dp_top e h2 tb, c1, c2, rfl⟩
  · cases h
theorem ok_eq : Ok2 T fEq (rEqD T.K) := fun a b d x y B H Q e ta tb hf q => by
  obtain ⟨k, hk, rfl⟩ := Option.map_eq_some_iff.mp hf
  obtain ⟨p, r, h1, h2, h3, h4, rfl⟩ := eqP_ok e hk ta tb
  exact ⟨p, r, h1, h2, h3, h4, q _ B H (Stp.refl e) (is_bl.mpr rfl)⟩
theorem ok_ne : Ok2 T fNe (rNeD T.K) := fun a b d x y B H Q e ta tb hf q => by
  obtain ⟨k, hk, rfl⟩ := Option.map_eq_some_iff.mp hf
  obtain ⟨p, r, h1, h2, h3, h4, rfl⟩ := eqP_ok e hk ta tb
  exact ⟨p, r, h1, h2, h3, h4, q _ B H (Stp.refl e) (is_bl.mpr rfl)⟩
/-! in a list | a flat tuple | a sign in a text | a key in a dict -/
def inP (a b : D) : Option Bool := match b with
  | .lst ds => (toP a).bind fun p => (toPs ds).bind fun qs => if SeqAt.shaped p && SeqAt.shaped (.list qs) then some (qs.any fun z => PyData.eqv z p) else none
  | _ => none
theorem inP_ok {B : Hp} {a b : D} {k : Bool} {x y : V} (e : Ex B H) (h : inP a b = some k) (ta : Top T a x B H) (tb : Top T b y B H) : ∃ p qs, Dp T.K H x p ∧ Dp T.K H y (.list qs) ∧ SeqAt.shaped p = true ∧ SeqAt.shaped (.list qs) = true ∧ k = qs.any fun z => PyData.eqv z p := by
  unfold inP at h
  split at h
  · obtain ⟨p, h1, h⟩ := Option.bind_eq_some_iff.mp h
    obtain ⟨qs, h2, h⟩ := Option.bind_eq_some_iff.mp h
    split at h
    · rename_i c
      obtain ⟨c1, c2⟩ := Bool.and_eq_true_iff.mp c
      cases h
      exact ⟨p, qs, dp_top e h1 ta, dp_top e (by unfold toP; rw [h2]; rfl) tb, c1, c2, rfl⟩
    · cases h
  · cases h
def fInL (a b : D) : Option D := (inP a b).map .bl
def fNiL (a b : D) : Option D := (inP a b).map fun k => .bl (!k)
theorem ok_inL : Ok2 T fInL (rInD T.K) := fun a b d x y B H Q e ta tb hf q => by
  obtain ⟨k, hk, rfl⟩ := Option.map_eq_some_iff.mp hf
  obtain ⟨p, r, h1, h2, h3, h4, rfl⟩ := inP_ok e hk ta tb
  exact ⟨p, r, h1, h2, h3, h4, q _ B H (Stp.refl e) (is_bl.mpr rfl)⟩
theorem ok_niL : Ok2 T fNiL (rNotInD T.K) := fun a b d x y B H Q e ta tb hf q => by
  obtain ⟨k, hk, rfl⟩ := Option.map_eq_some_iff.mp hf
  obtain ⟨p, r, h1, h2, h3, h4, rfl⟩ := inP_ok e hk ta tb
  exact ⟨p, r, h1, h2, h3, h4, q _ B H (Stp.refl e) (is_bl.mpr rfl)⟩
def signOf : D → Option Nat
  | .str s => match s.cps.toList with
    | [c] => some c
    | _ => none
  | _ => none
theorem signOf_ok {d : D} {c : Nat} (h : signOf d = some c) : d = .str ⟨#[c]⟩ := by
  unfold signOf at h
  split at h
  · rename_i s
    split at h
    · rename_i c' e
      cases h
      obtain ⟨cps⟩ := s
      congr 2
      exact Array.toList_inj.mp e
    · cases h
  · cases h
def signIn (a b : D) : Option Bool := (signOf a).bind fun c => match b with
  | .str z => some (decide (c ∈ z.cps.toList))
  | _ => none
theorem signIn_ok {B : Hp} {a b : D} {k : Bool} {x y : V} (h : signIn a b = some k) (ta : Top T a x B H) (tb : Top T b y B H) : ∃ (c : Nat) (z : Str), x = .str ⟨#[c]⟩ ∧ y = .str z ∧ k = decide (c ∈ z.cps.toList) := by
  unfold signIn at h
  obtain ⟨c, h1, h⟩ := Option.bind_eq_some_iff.mp h
  have hs := signOf_ok h1
  subst hs
  cases b with
  | str z =>
    cases h
    exact ⟨c, z, top_str ta, top_str tb, rfl⟩
  | _ => cases h
def fInS (a b : D) : Option D := (signIn a b).map .bl
def fNiS (a b : D) : Option D := (signIn a b).map fun k => .bl (!k)
theorem ok_inS : Ok2 T fInS (fun x y H Q => ∃ (c : Nat) (z : Str), x = .str ⟨#[c]⟩ ∧ y = .str z ∧ Q (.bl (decide (c ∈ z.cps.toList))) H) := fun a b d x y B H Q e ta tb hf q => by
  obtain ⟨k, hk, rfl⟩ := Option.map_eq_some_iff.mp hf
  obtain ⟨c, z, h1, h2, rfl⟩ := signIn_ok hk ta tb
  exact ⟨c, z, h1, h2, q _ B H (Stp.refl e) (is_bl.mpr rfl)⟩
theorem ok_niS : Ok2 T fNiS (fun x y H Q => ∃ (c : Nat) (z : Str), x = .str ⟨#[c]⟩ ∧ y = .str z ∧ Q (.bl (!decide (c ∈ z.cps.toList))) H) := fun a b d x y B H Q e ta tb hf q => by
  obtain ⟨k, hk, rfl⟩ := Option.map_eq_some_iff.mp hf
  obtain ⟨c, z, h1, h2, rfl⟩ := signIn_ok hk ta tb
  exact ⟨c, z, h1, h2, q _ B H (Stp.refl e) (is_bl.mpr rfl)⟩
def fAddS : D → D → Option D
  | .str a, .str b => if a.length + b.length ≤ sizeLine then some (.str (a ++ b)) else none
  | _, _ => none
def fAddL : D → D → Option D
  | .lst a, .lst b => if a.length + b.length ≤ sizeLine then some (.lst (a ++ b)) else none
  | _, _ => none
def fNegI : D → Option D
  | .int i => some (.int (-i))
  | _ => none
theorem ok_negI : Ok1 T fNegI (rU fun i => .int (-i)) := fun a d x B H Q e ta hf q => by
  unfold fNegI at hf
  split at hf
  · cases hf; exact ⟨_, top_int ta, q _ B H (Stp.refl e) (is_int.mpr rfl)⟩
  · cases hf
end
/-! ### built-ins -/
section
variable {T : Tab}
def fLen : List D → Option D
  | [.lst ds] => some (.int ds.length)
  | [.tup ds] => some (.int ds.length)
  | [.str z] => if z.length ≤ sizeLine then some (.int z.length) else none
  | _ => none
def rLen (K : PySem.W.Frag) : List V → Hp → VK → Prop := fun xs H Q => (∃ p ys, xs = [.ref p] ∧ (SqL K H p ys ∨ SqT K H p ys) ∧ Q (.int ys.length) H) ∨ ∃ z, xs = [.str z] ∧ z.length ≤ sizeLine ∧ Q (.int z.length) H
theorem ok_len : OkC T fLen (rLen T.K) := fun as d xs B H Q e t hf q => by
  unfold fLen at hf
  split at hf
  · cases hf
    obtain ⟨v, rfl, h⟩ := topL1 t
    obtain ⟨a, ys, rfl, h1, h2⟩ := top_lst e h
    exact .inl ⟨a, ys, rfl, .inl (.inl h1), q _ B H (Stp.refl e) (is_int.mpr (by rw [h2.length]))⟩
  · cases hf
    obtain ⟨v, rfl, h⟩ := topL1 t
    obtain ⟨a, ys, rfl, h1, h2⟩ := top_tup e h
    exact .inl ⟨a, ys, rfl, .inr (SqT.of h1), q _ B H (Stp.refl e) (is_int.mpr (by rw [h2.length]))⟩
  · split at hf
    · rename_i c
      cases hf
      obtain ⟨v, rfl, h⟩ := topL1 t
      exact .inr ⟨_, by rw [top_str h], c, q _ B H (Stp.refl e) (is_int.mpr rfl)⟩
    · cases hf
  · cases hf
def fAbs : List D → Option D
  | [.int i] => some (.int (if i < 0 then -i else i))
  | _ => none
theorem ok_abs : OkC T fAbs (fun xs H Q => ∃ i, xs = [.int i] ∧ Q (.int (if i < 0 then -i else i)) H) := fun as d xs B H Q e t hf q => by
  unfold fAbs at hf
  split at hf
  · cases hf
    obtain ⟨v, rfl, h⟩ := topL1 t
    exact ⟨_, by rw [top_int h], q _ B H (Stp.refl e) (is_int.mpr rfl)⟩
  · cases hf
def fInt : List D → Option D
  | [.int i] => some (.int i)
  | [.bl b] => some (.int (if b then 1 else 0))
  | _ => none
theorem ok_int1 : OkC T fInt (fun xs H Q => (∃ i, xs = [.int i] ∧ Q (.int i) H) ∨ ∃ k, xs = [.bl k] ∧ Q (.int (if k then 1 else 0)) H) := fun as d xs B H Q e t hf q => by
  unfold fInt at hf
  split at hf
  · cases hf
    obtain ⟨v, rfl, h⟩ := topL1 t
    exact .inl ⟨_, by rw [top_int h], q _ B H (Stp.refl e) (is_int.mpr rfl)⟩
  · cases hf
    obtain ⟨v, rfl, h⟩ := topL1 t
    exact .inr ⟨_, by rw [top_bl h], q _ B H (Stp.refl e) (is_int.mpr rfl)⟩
  · cases hf
def fIntS : List D → Option D
  | [.str a] => if a.length ≤ 640 then (PySem.intText? a).map .int else none
  | _ => none
theorem ok_intS : OkC T fIntS (fun xs H Q => ∃ a n, xs = [.str a] ∧ PySem.intText? a = some n ∧ a.length ≤ 640 ∧ Q (.int n) H) := fun as d xs B H Q e t hf q => by
  unfold fIntS at hf
  split at hf
  · split at hf
    · rename_i c
      obtain ⟨n, hn, rfl⟩ := Option.map_eq_some_iff.mp hf
      obtain ⟨v, rfl, h⟩ := topL1 t
      exact ⟨_, n, by rw [top_str h], hn, c, q _ B H (Stp.refl e) (is_int.mpr rfl)⟩
    · cases hf
  · cases hf
def fBool : List D → Option D
  | [.int i] => some (.bl (i != 0))
  | [.bl b] => some (.bl b)
  | _ => none
theorem ok_bool1 : OkC T fBool (fun xs H Q => (∃ i, xs = [.int i] ∧ Q (.bl (i != 0)) H) ∨ ∃ k, xs = [.bl k] ∧ Q (.bl k) H) := fun as d xs B H Q e t hf q => by
  unfold fBool at hf
  split at hf
  · cases hf
    obtain ⟨v, rfl, h⟩ := topL1 t
    exact .inl ⟨_, by rw [top_int h], q _ B H (Stp.refl e) (is_bl.mpr rfl)⟩
  · cases hf
    obtain ⟨v, rfl, h⟩ := topL1 t
    exact .inr ⟨_, by rw [top_bl h], q _ B H (Stp.refl e) (is_bl.mpr rfl)⟩
  · cases hf
def fStrI : List D → Option D
  | [.int i] => if i.natAbs.log2 < 1920 then some (.str (toString i)) else none
  | _ => none
theorem ok_strI : OkC T fStrI (fun xs H Q => ∃ i, xs = [.int i] ∧ i.natAbs.log2 < 1920 ∧ Q (.str (toString i)) H) := fun as d xs B H Q e t hf q => by
  unfold fStrI at hf
  split at hf
  · split at hf
    · rename_i c
      cases hf
      obtain ⟨v, rfl, h⟩ := topL1 t
      exact ⟨_, by rw [top_int h], c, q _ B H (Stp.refl e) (is_str.mpr rfl)⟩
    · cases hf
  · cases hf
def fGcd : List D → Option D
  | [.int a, .int b] => some (.int ((Nat.gcd a.natAbs b.natAbs : Nat) : Int))
  | _ => none
def fMin2 : List D → Option D
  | [.int i, .int j] => some (.int (if j < i then j else i))
  | _ => none
def fMax2 : List D → Option D
  | [.int i, .int j] => some (.int (if j > i then j else i))
  | _ => none
theorem ok_min2 : OkC T fMin2 (fun xs H Q => ∃ i j, xs = [.int i, .int j] ∧ Q (.int (if j < i then j else i)) H) := fun as d xs B H Q e t hf q => by
  unfold fMin2 at hf
  split at hf
  · cases hf
    obtain ⟨v, w, rfl, h, k⟩ := topL2 t
    exact ⟨_, _, by rw [top_int h, top_int k], q _ B H (Stp.refl e) (is_int.mpr rfl)⟩
  · cases hf
theorem ok_max2 : OkC T fMax2 (fun xs H Q => ∃ i j, xs = [.int i, .int j] ∧ Q (.int (if j > i then j else i)) H) := fun as d xs B H Q e t hf q => by
  unfold fMax2 at hf
  split at hf
  · cases hf
    obtain ⟨v, w, rfl, h, k⟩ := topL2 t
    exact ⟨_, _, by rw [top_int h, top_int k], q _ B H (Stp.refl e) (is_int.mpr rfl)⟩
  · cases hf
/-! lists of ints, of bools -/
def intsD : List D → Option (List Int)
  | [] => some []
  | .int i :: ds => (intsD ds).map (i :: ·)
  | _ => none
def blsD : List D → Option (List Bool)
  | [] => some []
  | .bl i :: ds => (blsD ds).map (i :: ·)
  | _ => none
theorem intsD_ok {H : Hp} : ∀ {ds : List D} {ns : List Int} {vs : List V}, intsD ds = some ns → IsL T ds vs H → vs = ns.map V.int
  | [], ns, vs, h, i => by unfold intsD at h; cases h; exact isL_nil.mp i
  | .int k :: ds, ns, vs, h, i => by
    unfold intsD at h
    obtain ⟨r, hr, rfl⟩ := Option.map_eq_some_iff.mp h
    obtain ⟨v, w, rfl, h1, h2⟩ := isL_cons.mp i
    rw [is_int.mp h1, intsD_ok hr h2]; rfl
  | .non :: ds, ns, vs, h, i => by simp [intsD] at h
  | .bl _ :: ds, ns, vs, h, i => by simp [intsD] at h
  | .str _ :: ds, ns, vs, h, i => by simp [intsD] at h
  | .tup _ :: ds, ns, vs, h, i => by simp [intsD] at h
  | .lst _ :: ds, ns, vs, h, i => by simp [intsD] at h
  | .dct _ :: ds, ns, vs, h, i => by simp [intsD] at h
  | .ins _ _ :: ds, ns, vs, h, i => by simp [intsD] at h
  | .cls _ :: ds, ns, vs, h, i => by simp [intsD] at h
  | .ty _ :: ds, ns, vs, h, i => by simp [intsD] at h
  | .fn _ :: ds, ns, vs, h, i => by simp [intsD] at h
  | .xc _ _ _ _ :: ds, ns, vs, h, i => by simp [intsD] at h
  | .rdl _ :: ds, ns, vs, h, i => by simp [intsD] at h
theorem blsD_ok {H : Hp} : ∀ {ds : List D} {ns : List Bool} {vs : List V}, blsD ds = some ns → IsL T ds vs H → vs = ns.map V.bl
  | [], ns, vs, h, i => by unfold blsD at h; cases h; exact isL_nil.mp i
  | .bl k :: ds, ns, vs, h, i => by
    unfold blsD at h
    obtain ⟨r, hr, rfl⟩ := Option.map_eq_some_iff.mp h
    obtain ⟨v, w, rfl, h1, h2⟩ := isL_cons.mp i
    rw [is_bl.mp h1, blsD_ok hr h2]; rfl
  | .non :: ds, ns, vs, h, i => by simp [blsD] at h
  | .int _ :: ds, ns, vs, h, i => by simp [blsD] at h
  | .str _ :: ds, ns, vs, h, i => by simp [blsD] at h
  | .tup _ :: ds, ns, vs, h, i => by simp [blsD] at h
  | .lst _ :: ds, ns, vs, h, i => by simp [blsD] at h
  | .dct _ :: ds, ns, vs, h, i => by simp [blsD] at h
  | .ins _ _ :: ds, ns, vs, h, i => by simp [blsD] at h
  | .cls _ :: ds, ns, vs, h, i => by simp [blsD] at h
  | .ty _ :: ds, ns, vs, h, i => by simp [blsD] at h
  | .fn _ :: ds, ns, vs, h, i => by simp [blsD] at h
  | .xc _ _ _ _ :: ds, ns, vs, h, i => by simp [blsD] at h
  | .rdl _ :: ds, ns, vs, h, i => by simp [blsD] at h
def fAllL : List D → Option D
  | [.lst ds] => (blsD ds).map fun bs => .bl (bs.all id)
  | _ => none
def fAnyL : List D → Option D
  | [.lst ds] => (blsD ds).map fun bs => .bl (bs.any id)
  | _ => none
theorem ok_allL : OkC T fAllL (rAll T.K) := fun as d xs B H Q e t hf q => by
  unfold fAllL at hf
  split at hf
  · obtain ⟨bs, hb, rfl⟩ := Option.map_eq_some_iff.mp hf
    obtain ⟨v, rfl, h⟩ := topL1 t
    obtain ⟨a, ys, rfl, h1, h2⟩ := top_lst e h
    have := blsD_ok hb h2
    subst this
    exact ⟨a, bs, rfl, .inl h1, q _ B H (Stp.refl e) (is_bl.mpr rfl)⟩
  · cases hf
theorem ok_anyL : OkC T fAnyL (rAny T.K) := fun as d xs B H Q e t hf q => by
  unfold fAnyL at hf
  split at hf
  · obtain ⟨bs, hb, rfl⟩ := Option.map_eq_some_iff.mp hf
    obtain ⟨v, rfl, h⟩ := topL1 t
    obtain ⟨a, ys, rfl, h1, h2⟩ := top_lst e h
    have := blsD_ok hb h2
    subst this
    exact ⟨a, bs, rfl, .inl h1, q _ B H (Stp.refl e) (is_bl.mpr rfl)⟩
  · cases hf
def fSumL : List D → Option D
  | [.lst ds] => (intsD ds).map fun ns => .int ns.sum
  | _ => none
theorem ok_sumL : OkC T fSumL (rSum T.K) := fun as d xs B H Q e t hf q => by
  unfold fSumL at hf
  split at hf
  · obtain ⟨bs, hb, rfl⟩ := Option.map_eq_some_iff.mp hf
    obtain ⟨v, rfl, h⟩ := topL1 t
    obtain ⟨a, ys, rfl, h1, h2⟩ := top_lst e h
    have := intsD_ok hb h2
    subst this
    exact ⟨a, bs, rfl, .inl h1, q _ B H (Stp.refl e) (is_int.mpr rfl)⟩
  · cases hf
/-! list(x), tuple(x) -/
def fListN : List D → Option D
  | [.lst ds] => some (.lst ds)
  | [.tup ds] => some (.lst ds)
  | _ => none
def rListN (K : PySem.W.Frag) : List V → Hp → VK → Prop := fun xs H Q => ∃ p ys, xs = [.ref p] ∧ (SqL K H p ys ∨ SqT K H p ys) ∧ ∀ l, H l = none → Q (.ref l) (upd H l (.lst ys))
theorem ok_listN : OkN T fListN (rListN T.K) := fun as d xs B H Q e t hf q => by
  unfold fListN at hf
  split at hf
  · cases hf
    obtain ⟨v, rfl, h⟩ := topL1 t
    obtain ⟨a, ys, rfl, h1, h2⟩ := top_lst e h
    exact ⟨a, ys, rfl, .inl (.inl h1), fun l hl => q l _ hl (Stp.junk e hl) ⟨ys, upd_same, h2⟩⟩
  · cases hf
    obtain ⟨v, rfl, h⟩ := topL1 t
    obtain ⟨a, ys, rfl, h1, h2⟩ := top_tup e h
    exact ⟨a, ys, rfl, .inr (SqT.of h1), fun l hl => q l _ hl (Stp.junk e hl) ⟨ys, upd_same, h2⟩⟩
  · cases hf
def fTup : List D → Option D
  | [.lst ds] => some (.tup ds)
  | [.tup ds] => some (.tup ds)
  | _ => none
def rTupC (K : PySem.W.Frag) : List V → Hp → VK → Prop := fun xs H Q => ∃ p ys, xs = [.ref p] ∧ ((SqL K H p ys ∧ ∀ l, H l = none → Q (.ref l) (upd H l (.tup ys))) ∨ (SqT K H p ys ∧ Q (.ref p) H))
theorem ok_tup : OkC T fTup (rTupC T.K) := fun as d xs B H Q e t hf q => by
  unfold fTup at hf
  split at hf
  · cases hf
    obtain ⟨v, rfl, h⟩ := topL1 t
    obtain ⟨a, ys, rfl, h1, h2⟩ := top_lst e h
    refine ⟨a, ys, rfl, .inl ⟨.inl h1, fun l hl => ?_⟩⟩
    have s := Stp.new (T := T) (o := HO.tup ys) e hl
    exact q (.ref l) _ _ s (is_tup.mpr ⟨l, ys, rfl, upd_same, h2.mono s.b⟩)
  · cases hf
    obtain ⟨v, rfl, h⟩ := topL1 t
    rcases h with h | ⟨a, rfl, h⟩
    · obtain ⟨a, ys, rfl, h1, h2⟩ := is_tup.mp h
      exact ⟨a, ys, rfl, .inr ⟨SqT.of (e _ _ h1), q _ B H (Stp.refl e) h⟩⟩
    · exact h.elim
  · cases hf
end
end Ml
set_option maxRecDepth 100000
set_option maxHeartbeats 2000000
namespace Ml
open PySem PySem.Spec PyProof.Rows L2
/-! ### operators that a class of the text has of its own -/
/-- a value's type, by the abstract heap -/
def TyR (K : PySem.W.Frag) (H : Hp) (y : V) (tb : Value) : Prop := match y with
  | .non => tb = .type "NoneType"
  | .bl _ => tb = .type "bool"
  | .int _ => tb = .type "int"
  | .str _ => tb = .type "str"
  | .ref p => (tb = .type "list" ∧ ∃ xs, SqL K H p xs) ∨ (tb = .type "tuple" ∧ ∃ xs, SqT K H p xs) ∨ (tb = .type "dict" ∧ ∃ kvs, H p = some (.dK kvs)) ∨ ∃ C dx fs, tb = .ref C ∧ H p = some (.ins C dx fs)
  | _ => False
section
variable {X : Cx} {pins : List (Addr × Obj)} {σ : L2.St} {H : Hp} {s : Shared} {a C dx : Addr} {fs : List (Str × V)}
theorem ins_at (I : Inv X pins σ H s) (h : H a = some (.ins C dx fs)) : ∃ ox od, PySem.W.InstAt s.heap a ox C (some od) := by
  obtain ⟨mA, O, _, _, _, _⟩ := ins_get I.hok h
  obtain ⟨od, J, _⟩ := O.look
  exact ⟨_, od, J⟩
theorem looks_is {M : Model} {h : Heap} {v : Value} {a : Addr} {o : Obj} {t : Value} (e : v = .ref a) (g : h.get? a = some o) (c : o.cls = t) : PySem.W.Looks M h (typeOf v) t := by
  subst e; subst c
  exact (PySem.W.Looks.ld g).andThen .now
theorem tyR_looks {y : V} {u tb : Value} (I : Inv X pins σ H s) (r : RelV y u) (h : TyR X.K H y tb) : PySem.W.Looks (model X.prog X.w) s.heap (typeOf u) tb := by
  cases y with
  | non => cases r; cases (show tb = _ from h); exact PySem.W.Looks.of_pure rfl
  | bl b => cases r; cases (show tb = _ from h); exact PySem.W.Looks.of_pure rfl
  | int i => obtain ⟨t, rfl⟩ := r; cases (show tb = _ from h); exact PySem.W.Looks.of_pure rfl
  | str i => obtain ⟨t, rfl⟩ := r; cases (show tb = _ from h); exact PySem.W.Looks.of_pure rfl
  | ref p =>
    cases r
    rcases h with ⟨rfl, xs, h⟩ | ⟨rfl, xs, h⟩ | ⟨rfl, kvs, h⟩ | ⟨C, dx, fs, rfl, h⟩
    · obtain ⟨its, _, ⟨o, n, e, c, _⟩, _⟩ := I.list h
      exact looks_is rfl e c
    · obtain ⟨its, _, ⟨o, e, c, _⟩, _⟩ := I.tuple h
      exact looks_is rfl e c
    · obtain ⟨_, _, _, _, o, _, _, e, ex, _⟩ := I.hok p _ h
      exact looks_is rfl e ex.1
    · obtain ⟨ox, od, J⟩ := ins_at I h
      exact J.type
  | _ => exact h.elim
end
/-- the class at C has the binary operator's def at f -/
structure OwnBin (K : PySem.W.Frag) (C : Addr) (nm : String) (f : Addr) : Prop where
  sf : PySem.W.selfFirst K C = true
  at_ : PySem.W.findIn K (.ref C) (PySem.dunder nm) = some (some (.ref f))
  fn : PySem.W.isFn K (.ref f) = true
  rr : ∃ rc, PySem.W.findIn K (.ref C) (dunderR nm) = some rc ∧ (rc = none ∨ ∃ g : Addr, rc = some (.ref g))
def isSc (y : V) : Prop := match y with
  | .ref _ => False
  | _ => True
def rOB (K : PySem.W.Frag) (nm : String) (C : Addr) (sp : Sp) (E : XK) : R2 := fun x y H Q => ∃ a dx fs tb, x = .ref a ∧ H a = some (.ins C dx fs) ∧ TyR K H y tb ∧
  (tb = .ref C ∨ ∃ (T : String) (fo ro : Option Value), tb = .type T ∧ PySem.W.findIn K (.type T) (PySem.dunder nm) = some fo ∧ PySem.W.findIn K (.type T) (dunderR nm) = some ro ∧
    (((fo.isSome && !isSeqSlot fo) || (ro.isSome && !isSeqSlot ro)) = false ∨ (isSc y ∧ PySem.W.subIn K (.type T) (.ref C) = some false))) ∧ sp [x, y] H Q E
section
variable {X : Cx} {CX : CXT} {pins : List (Addr × Obj)} {σ : L2.St} {H : Hp} {s : Shared} {a C dx f : Addr} {fs : List (Str × V)} {n : Nat} {sp : Sp} {E : XK}
open PySem.W in
theorem bin_far {prog : Program} {w : World} {A : Around} {E' : Value → Shared → Prop} {L : Addr} {h0 : Heap} {m : Str → Option Value} {op : Operator} {b : Value} {Q : Value → Shared → Prop} {x : Addr} {ox : Obj} {od : Option Obj} {K : Frag} {T : String}
    (Fh : Fr h0 L s.heap m) (X0 : K.In h0) (I : InstAt s.heap x ox C od) (hb : Looks (model prog w) s.heap (typeOf b) (.type T)) (hc : selfFirst K C = true)
    (hs : findIn K (.ref C) (PySem.dunder op.info.2) = some (some (.ref f))) (hf : isFn K (.ref f) = true) (hn : Looks (model prog w) s.heap (fillsNumberSlot (.type T) op.info.2) false)
    (h : wpAny (model prog w) A (call (.ref f) [.ref x, b]) (PySem.W.CmpBack Q) E' s) : wpAny (model prog w) A (binaryOp op (.ref x) b) Q E' s := by
  have Xk := X0.keeps Fh.keep
  obtain ⟨cd, rest, hcd, hm⟩ := ksp_first hc
  have one := ksp_try Xk I hs hf h
  unfold binaryOp
  refine wpAny_holding (wpAny_bind ?_)
  unfold binaryOp1
  refine wpAny_bind (I.type.here (wpAny_bind (hb.here (wpAny_bind ((fills_K Xk hcd hm hs).here ?_)))))
  have hne : ((Value.ref C == Value.type T) = true) = False := by
    have : (Value.ref C == Value.type T) = false := Bool.eq_false_iff.mpr fun q => by cases beq_iff_eq.mp q
    rw [this]; simp
  simp only [hne, if_false]
  refine wpAny_bind (hn.here ?_)
  simp only [Bool.and_false, Bool.false_eq_true, if_false, Bool.false_and]
  refine wpAny_bind (wpAny_pure ?_)
  simp only [Bool.false_eq_true, if_false]
  refine wpAny_bind (wpAny_mono one (fun r s' z => ?_) fun _ _ e => e)
  obtain ⟨v, rfl, hq⟩ := z
  exact wpAny_pure (wpAny_pure hq)
theorem op_ownBin {op : Operator} (O : OwnBin X.K C op.info.2 f) (F : FnR X.prog X.w X.K X.mg X.base CX n f sp) (hr : Room n X.A) (hx : Passes CX X E) : OpR X (binaryOp op) (rOB X.K op.info.2 C sp E) := by
  intro pins s σ H x y v u Q I rx ry h
  obtain ⟨a, dx, fs, tb, rfl, ha, ty, ho, q⟩ := h
  cases (show v = Value.ref a from rx)
  obtain ⟨ox, od, J⟩ := ins_at I ha
  obtain ⟨m, hF⟩ := I.fr
  have lk := tyR_looks I ry ty
  have run : wpAny (model X.prog X.w) X.A (call (.ref f) [.ref a, u]) (PySem.W.CmpBack (EP X pins σ Q)) X.xe s :=
    wpAny_mono (wpAny_call (run_fnR (us := [.ref a, u]) (vs := [.ref a, y]) F hr hx I (.cons rfl (.cons ry .nil)) q)) (fun w s' z => by
      obtain ⟨z', H', I', rz, qz⟩ := z
      exact SlX.cmpback rz ⟨z', H', I', rz, qz⟩) fun _ _ x => x
  obtain ⟨rc, hrc, hp⟩ := O.rr
  rcases ho with rfl | ⟨T, fo, ro, rfl, h1, h2, h3⟩
  · exact PySem.W.binop_K hF I.ok.mod.kin J lk O.sf O.at_ O.fn run
  · rcases h3 with h3 | ⟨hsc, hsub⟩
    · refine bin_far hF I.ok.mod.kin J lk O.sf O.at_ O.fn ?_ run
      have z := PySem.W.ksp_fillsT (M := model X.prog X.w) I.kIn h1 h2
      rw [h3] at z
      exact z
    · have hb : typeOf u = pure (.type T) := by
        cases y with
        | non => cases ry; cases (show Value.type T = _ from ty); rfl
        | bl b => cases ry; cases (show Value.type T = _ from ty); rfl
        | int i => obtain ⟨t, rfl⟩ := ry; cases (show Value.type T = _ from ty); rfl
        | str i => obtain ⟨t, rfl⟩ := ry; cases (show Value.type T = _ from ty); rfl
        | ref p => exact hsc.elim
        | _ => exact ty.elim
      exact PySem.W.ksp_binT hF I.ok.mod.kin J hb O.sf O.at_ O.fn hrc hp h1 h2 hsub run
/-- x == y, x an instance with an own __eq__ -/
structure OwnCmp (K : PySem.W.Frag) (C : Addr) (nm : Str) (f : Addr) : Prop where
  at_ : PySem.W.findIn K (.ref C) nm = some (some (.ref f))
  fn : PySem.W.isFn K (.ref f) = true
def rOC (K : PySem.W.Frag) (C : Addr) (sp : Sp) (E : XK) : R2 := fun x y H Q => ∃ a dx fs tb, x = .ref a ∧ H a = some (.ins C dx fs) ∧ TyR K H y tb ∧ PySem.W.notFirst K C tb = true ∧ sp [x, y] H Q E
theorem op_ownCmp {op : CmpOp} (hop : ∀ a b, compareOp op a b = richCompare op a b) (O : OwnCmp X.K C (cmpInfo op).2.1 f) (F : FnR X.prog X.w X.K X.mg X.base CX n f sp) (hr : Room n X.A) (hx : Passes CX X E) : OpR X (compareOp op) (rOC X.K C sp E) := by
  intro pins s σ H x y v u Q I rx ry h
  obtain ⟨a, dx, fs, tb, rfl, ha, ty, hn, q⟩ := h
  cases (show v = Value.ref a from rx)
  obtain ⟨ox, od, J⟩ := ins_at I ha
  obtain ⟨m, hF⟩ := I.fr
  rw [hop]
  refine PySem.W.cmp_K (op := op) hr.units0 hF I.ok.mod.kin J (tyR_looks I ry ty) hn O.at_ O.fn ?_
  refine wpAny_mono (wpAny_call (run_fnR (us := [.ref a, u]) (vs := [.ref a, y]) F hr hx I (.cons rfl (.cons ry .nil)) q)) (fun w s' z => ?_) fun _ _ x => x
  obtain ⟨z', H', I', rz, qz⟩ := z
  exact SlX.cmpback rz ⟨z', H', I', rz, qz⟩
/-- -x -/
def rOU (C : Addr) (sp : Sp) (E : XK) : V → Hp → VK → Prop := fun x H Q => ∃ a dx fs, x = .ref a ∧ H a = some (.ins C dx fs) ∧ sp [x] H Q E
theorem op_ownNeg (O : OwnCmp X.K C "__neg__" f) (F : FnR X.prog X.w X.K X.mg X.base CX n f sp) (hr : Room n X.A) (hx : Passes CX X E) : UnR X (unaryOp .USub) (rOU C sp E) := by
  intro pins s σ H x v Q I rx h
  obtain ⟨a, dx, fs, rfl, ha, q⟩ := h
  cases (show v = Value.ref a from rx)
  obtain ⟨ox, od, J⟩ := ins_at I ha
  obtain ⟨m, hF⟩ := I.fr
  exact PySem.W.ksp_neg hF I.ok.mod.kin J O.at_ O.fn (wpAny_call (run_fnR (us := [.ref a]) (vs := [.ref a]) F hr hx I (.cons rfl .nil) q))
/-- built-ins that ask the class: what comes back is a text, a bool -/
def rOCall (C : Addr) (sp : Sp) (E : XK) : List V → Hp → VK → Prop := fun xs H Q => ∃ a dx fs, xs = [.ref a] ∧ H a = some (.ins C dx fs) ∧ sp [.ref a] H Q E
def rOCallS (C : Addr) (sp : Sp) (E : XK) : List V → Hp → VK → Prop := fun xs H Q => ∃ a dx fs, xs = [.ref a] ∧ H a = some (.ins C dx fs) ∧ sp [.ref a] H (fun z H' => ∃ t, z = .str t ∧ Q z H') E
def rOCallB (C : Addr) (sp : Sp) (E : XK) : List V → Hp → VK → Prop := fun xs H Q => ∃ a dx fs, xs = [.ref a] ∧ H a = some (.ins C dx fs) ∧ sp [.ref a] H (fun z H' => ∃ t, z = .bl t ∧ Q z H') E
theorem call_ownRepr (O : OwnCmp X.K C "__repr__" f) (F : FnR X.prog X.w X.K X.mg X.base CX n f sp) (hr : Room (n + 1) X.A) (hx : Passes CX X E) : CallR X (.builtin "repr") (rOCallS C sp E) := by
  intro pins s σ H xs us Q I r h
  obtain ⟨a, dx, fs, rfl, ha, q⟩ := h
  obtain ⟨u, rfl, ru⟩ := r.one
  cases (show u = Value.ref a from ru)
  obtain ⟨ox, od, J⟩ := ins_at I ha
  obtain ⟨m, hF⟩ := I.fr
  have hr1 : Room n X.A.in1 := hr.in1
  refine PySem.W.repr_K hr1.units0 hF I.ok.mod.kin J O.at_ O.fn (wpAny_mono (wpAny_call (SlX.run_at (us := [.ref a]) (ws := [.ref a]) F hr1 I.env0.in1 hx I (.cons rfl .nil) q)) (fun w s' z => ?_) fun _ _ x => x)
  obtain ⟨z', H', I', rz, t, ez, qz⟩ := z
  subst ez
  obtain ⟨k, e⟩ := (show ∃ k, w = Value.str t k from rz)
  subst e
  exact ⟨.str t, H', I', ⟨k, rfl⟩, qz⟩
theorem call_ownStr (O : OwnCmp X.K C "__str__" f) (F : FnR X.prog X.w X.K X.mg X.base CX n f sp) (hr : Room (n + 2) X.A) (hx : Passes CX X E) : CallR X (.type "str") (rOCallS C sp E) := by
  intro pins s σ H xs us Q I r h
  obtain ⟨a, dx, fs, rfl, ha, q⟩ := h
  obtain ⟨u, rfl, ru⟩ := r.one
  cases (show u = Value.ref a from ru)
  obtain ⟨ox, od, J⟩ := ins_at I ha
  have hr2 : Room n X.A.in1.in1 := (show Room (n + 1) X.A.in1 from Room.in1 hr).in1
  refine PySem.W.kso_call hr2.units0 I.kIn J O.at_ O.fn (wpAny_mono (wpAny_call (SlX.run_at (us := [.ref a]) (ws := [.ref a]) F hr2 I.env0.in1.in1 hx I (.cons rfl .nil) q)) (fun w s' z => ?_) fun _ _ x => x)
  obtain ⟨z', H', I', rz, t, ez, qz⟩ := z
  subst ez
  obtain ⟨k, e⟩ := (show ∃ k, w = Value.str t k from rz)
  subst e
  exact ⟨.str t, H', I', ⟨k, rfl⟩, qz⟩
theorem call_ownAbs (O : OwnCmp X.K C "__abs__" f) (F : FnR X.prog X.w X.K X.mg X.base CX n f sp) (hr : Room (n + 1) X.A) (hx : Passes CX X E) : CallR X (.builtin "abs") (rOCall C sp E) := by
  intro pins s σ H xs us Q I r h
  obtain ⟨a, dx, fs, rfl, ha, q⟩ := h
  obtain ⟨u, rfl, ru⟩ := r.one
  cases (show u = Value.ref a from ru)
  obtain ⟨ox, od, J⟩ := ins_at I ha
  have hr1 : Room n X.A.in1 := hr.in1
  refine Calls.call_function_entry kind_abs plain_abs entry_abs (args_abs (.ref a)) ?_
  unfold Builtin.«abs»
  refine wpAny_bind (m := oneArg "abs" _) (wpAny_pure ?_)
  have run := wpAny_call (SlX.run_at (us := [.ref a]) (ws := [.ref a]) F hr1 I.env0.in1 hx I (.cons rfl .nil) q)
  refine wpAny_bind (m := callSpecial? (.ref a) _) (PySem.W.special_fn I.kIn J O.at_ (beq_iff_eq.mp O.fn) (wpAny_mono run (fun w s' z => ?_) fun _ _ x => x))
  exact wpAny_pure ⟨_, rfl, z⟩
theorem call_ownBool (O : OwnCmp X.K C "__bool__" f) (F : FnR X.prog X.w X.K X.mg X.base CX n f sp) (hr : Room (n + 2) X.A) (hx : Passes CX X E) : CallR X (.type "bool") (rOCallB C sp E) := by
  intro pins s σ H xs us Q I r h
  obtain ⟨a, dx, fs, rfl, ha, q⟩ := h
  obtain ⟨u, rfl, ru⟩ := r.one
  cases (show u = Value.ref a from ru)
  obtain ⟨ox, od, J⟩ := ins_at I ha
  obtain ⟨m, hF⟩ := I.fr
  have hr2 : Room n X.A.in1.in1 := (show Room (n + 1) X.A.in1 from Room.in1 hr).in1
  have run := wpAny_call (SlX.run_at (us := [.ref a]) (ws := [.ref a]) F hr2 I.env0.in1.in1 hx I (.cons rfl .nil) q)
  have tru : wpAny (model X.prog X.w) X.A.in1.in1 (truthy (.ref a)) (fun b s' => EP X pins σ Q (.bool b) s') X.xe s :=
    PySem.W.truthy_K hF I.ok.mod.kin J O.at_ O.fn (wpAny_mono run (fun w s' z => by
      obtain ⟨z', H', I', rz, t, ez, qz⟩ := z
      subst ez
      cases (show w = Value.bool t from rz)
      exact ⟨.bl t, H', I', rfl, qz⟩) fun _ _ x => x)
  refine callType_codes (T := "bool") (Bi := Builtin.«object.__init__») (Q₁ := fun r s1 => ∃ b, r = Value.bool b ∧ EP X pins σ Q r s1) PySem.F.called_bool (PySem.F.typeCall_bool_1 _) PySem.F.entry_object_init ?_ ?_
  · refine codeAny_of_tree ?_
    show wpAny _ X.A.in1.in1 (do checkBuiltinCall "bool.__new__" ⟨[.type "bool", .ref a], []⟩; again (.builtin "bool.__new__" ⟨[.type "bool", .ref a], []⟩)) _ _ s
    refine wpAny_bind (wpAny_of_eq (PySem.F.newCall_bool_1 (.ref a)) (wpAny_pure ⟨plainId_quiet (by decide +kernel) _, codeAny_builtin PySem.F.entry_bool_new ?_⟩))
    rw [Around.under_plainId (by decide +kernel) _]
    unfold Builtin.«bool.__new__»
    refine wpAny_bind (wpAny_of_eq (a := true) (by first | rfl | kernel_rfl) ?_)
    refine PySem.W.KFB.if_not rfl ?_
    refine wpAny_bind (wpAny_of_eq (a := true) PySem.F.conv_sub_bool ?_)
    refine PySem.W.KFB.if_not rfl ?_
    refine wpAny_bind (wpAny_of_eq (a := [Value.ref a]) (by first | rfl | kernel_rfl) ?_)
    exact wpAny_bind (wpAny_mono tru (fun b s' z => wpAny_pure ⟨b, rfl, z⟩) fun _ _ x => x)
  · rintro obj s1 ⟨b, rfl, hq⟩
    exact ⟨PySem.typeIs_bool _ _, PySem.F.args_object_init_2 _ _, object_init_meets PySem.F.called_bool.init.lookup PySem.F.called_bool.made (by decide) X.prog X.w X.A.in1 _ s1 ⟨PySem.typeIs_bool _ _, rfl, hq⟩⟩
end
end Ml
set_option maxRecDepth 100000
set_option maxHeartbeats 2000000
namespace Ml
open PySem PySem.Spec PyProof.Rows L2
section
variable {T : Tab} {F : Fr0} {W : XK} {env env' : Env} {σ : L2.St} {B H B' H' : Hp} {io : Option Nat}
/-! ### arguments, then fixed ones -/
theorem isAs_app {dd : List D} {dvs : List V} : ∀ {k : Nat} {ds : List D} {vs : List V}, IsAs T io k ds vs B H → (∀ j, io = some j → j < k + ds.length) → IsL T dd dvs B → IsAs T io k (ds ++ dd) (vs ++ dvs) B H
  | k, [], vs, h, hi, hd => by
    unfold IsAs at h
    subst h
    rw [List.nil_append, List.nil_append]
    have go : ∀ {dd : List D} {dvs : List V} (k : Nat), (∀ j, io = some j → j < k) → IsL T dd dvs B → IsAs T io k dd dvs B H := fun {dd} => by
      induction dd with
      | nil => intro dvs k _ h; unfold IsAs; exact isL_nil.mp h
      | cons d dd ih =>
        intro dvs k hk h
        obtain ⟨v, r, rfl, h1, h2⟩ := isL_cons.mp h
        unfold IsAs
        refine ⟨v, r, rfl, ?_, ih (k + 1) (fun j hj => Nat.lt_succ_of_lt (hk j hj)) h2⟩
        rw [if_neg fun e => Nat.lt_irrefl _ (hk k e)]
        exact h1
    exact go k (fun j hj => by simpa using hi j hj) hd
  | k, d :: ds, vs, h, hi, hd => by
    unfold IsAs at h
    obtain ⟨v, r, rfl, h1, h2⟩ := h
    show IsAs T io k (d :: (ds ++ dd)) (v :: (r ++ dvs)) B H
    unfold IsAs
    exact ⟨v, r ++ dvs, rfl, h1, isAs_app h2 (fun j hj => by have := hi j hj; simp at this; omega) hd⟩
theorem ioA_app {vs dvs : List V} (h : ∀ j, io = some j → j < vs.length) : ioA io (vs ++ dvs) = ioA io vs := by
  cases io with
  | none => rfl
  | some k =>
    have e : (vs ++ dvs)[k]? = vs[k]? := List.getElem?_append_left (h k rfl)
    simp only [ioA, e]
theorem sp_qd {m : List D → OF} {pvs : List PV} {ds dd : List D} {vs dvs : List V} {B0 : Hp} {Q : VK} (hd : ∀ H, IsL T dd dvs H) (hio : ∀ j, io = some j → j < ds.length) (R : Rel T F env σ B H) (e0 : Ex B0 B) (hv : PvsOk T pvs vs σ B) (hq : qArgs env io 0 pvs = some ds)
    (q : (backE env io pvs (m (ds ++ dd))).wp (fun d env' => ∀ v B' H', Rel T F env' σ B' H' → Ex B0 B' → Is T d v B' → Q v H') (exPs T F W B0 σ)) : spF T io false m (vs ++ dvs) H Q W := by
  have hl : vs.length = ds.length := by rw [pvs_len hv, ← qArgs_len hq]
  have ea : ioA io (vs ++ dvs) = ioA io vs := ioA_app fun j hj => by rw [hl]; exact hio j hj
  refine ⟨B, ds ++ dd, R.g0, isAs_app (qArgs_as R hq hv) (fun j hj => by simpa using hio j hj) (hd B), ?_⟩
  cases h : m (ds ++ dd) with
  | ok d o =>
    rw [h] at q
    intro v B' H' s io' is
    rw [ea] at s io'
    rw [if_neg (by simp)] at is
    obtain ⟨env', hp, q⟩ := backE_ok q
    exact q v B' H' (R.back hv hq s io' hp) (e0.trans s.b) is
  | ex c fs o =>
    rw [h] at q
    intro dd B' H' s io' is
    rw [ea] at s io'
    obtain ⟨env', hp, q⟩ := backE_ex q
    exact q dd B' H' (R.back hv hq s io' hp) (e0.trans s.b) is
  | stuck => rw [h] at q; exact q.elim
/-- a step that writes at a new place that no slot holds -/
theorem Rel.stepOut {x : Addr} (R : Rel T F env σ B H) (n : NotIn env σ x) (hF : F.H x = none) (s : Stp T [x] B H B' H') (hx : H' x ≠ none) (hB : B' x = none) : Rel T F env σ B' H' := by
  have nb : ∀ {b : Addr} {d : D}, b ≠ x → B b = none → Cell T d b B H → B' b = none ∧ Cell T d b B' H' := fun {b d} hb h1 h2 => by
    obtain ⟨o, ho⟩ := h2.at
    refine ⟨?_, h2.mono s.b fun o q k => s.h _ _ q (by simpa using hb) k⟩
    cases q : B' b with
    | none => rfl
    | some u =>
      rcases s.n b (by rw [q]; exact fun z => by cases z) with z | z
      · exact absurd h1 z
      · rw [ho] at z; cases z
  refine ⟨R.len, s.e, s.t R.tb, s.bN R.bN, R.b0.trans s.b, fun b o k h1 h2 => s.h _ _ (R.keep b o k h1 h2) (by simpa using ne_of_none h1 hF) k, fun b h => s.d b (R.dom b h), fun b h => ?_, fun i sl e => ?_, R.nd⟩
  · rcases s.n b h with z | z
    · exact R.fresh b z
    · exact .inr (R.freeF z)
  · have q := R.slot i sl e
    cases sl with
    | no => trivial
    | im d => obtain ⟨v, h1, h2⟩ := q; exact ⟨v, h1, h2.mono s.b⟩
    | ow d =>
      obtain ⟨a, h1, h2, h3, h4⟩ := q
      obtain ⟨k1, k2⟩ := nb (fun z => by subst z; exact n i _ e rfl h1) h2 h4
      exact ⟨a, h1, k1, h3, k2⟩
    | io d =>
      obtain ⟨a, h1, h2, h3, h4⟩ := q
      obtain ⟨k1, k2⟩ := nb (fun z => by subst z; exact n i _ e rfl h1) h2 h4
      exact ⟨a, h1, k1, h3, k2⟩
end
def okD (T : Tab) (dd : List D) (dvs : List V) : Prop := ∀ H, IsL T dd dvs H
def ioLt (io : Option Nat) (n : Nat) : Bool := match io with
  | none => true
  | some k => decide (k < n)
theorem ioLt_ok {io : Option Nat} {n : Nat} (h : ioLt io n = true) : ∀ j, io = some j → j < n := fun j e => by subst e; exact of_decide_eq_true h
/-! ### calls, methods, makings -/
def mCallD (io : Option Nat) (n : Nat) (dd : List D) (m : List D → OF) (mq : MQ) : ME := fun env => (mq env).bind fun ps env1 => match qArgs env1 io 0 ps with
  | some ds => if ds.length = n then backE env1 io ps (m (ds ++ dd)) else .stuck
  | none => .stuck
def isIns (c : Nat) (o : Option D) : Bool := match o with
  | some (.ins k _) => k == c
  | _ => false
def mMethD (c : Nat) (io : Option Nat) (n : Nat) (dd : List D) (m : List D → OF) (mp : MP) (mq : MQ) : ME := fun env => (mp env).bind fun p env1 => if isIns c (p.get env1) then (mq env1).bind fun ps env2 => match qArgs env2 io 0 (p :: ps) with
    | some ds => if ds.length = n then backE env2 io (p :: ps) (m (ds ++ dd)) else .stuck
    | none => .stuck
  else .stuck
def mMake (c n : Nat) (dd : List D) (m : List D → OF) (ma : MA) : ME := fun env => (ma env).bind fun ds env1 => if ds.length = n then match m (.ins c [] :: (ds ++ dd)) with
    | .ok .non (some d) => .ok d env1
    | .ex k fs _ => .ex k fs env1
    | _ => .stuck
  else .stuck
section
variable {X : Cx} {T : Tab} {e e1 e2 o : Expr} {es : List Expr} {pos p apos : Pos} {x nm : Str} {f : Addr} {fd : FuncData} {ps : List Str} {k : Nat} {dd : List D} {dvs : List V} {dus : List Value} {c : Nat}
theorem trE_callD {io : Option Nat} {m : List D → OF} {mq : MQ} {n : Nat} (G : FnM X T k f fd ps io false m) (hr : Room k X.A) (hg : Gl X x) (hm : X.mg x = some (.ref f)) (hk : PySem.W.keepIn X.K (.ref f) = true) (hb : Binds X.K fd ps dus) (hd : Vals dvs dus) (hdd : okD T dd dvs) (ha : TrQ X T (e :: es) mq)
    (hn : n + dd.length = ps.length := by rfl) (hio : ioLt io n = true := by rfl) (hdb : (x == ("__debug__" : Str)) = false := by decide)
    (he : starEach (e :: es) X.env = (false, eval e X.env) :: starEach es X.env := by rfl) (hpl : (backTo pos (starEach es X.env)).any (·.1) = false := by rfl) : TrE X T (.Call (.Name x p) (e :: es) [] pos) (mCallD io n dd m mq) :=
  fun F W tk => pe_imp (pe_call G hr hg hm hk hb hd tk.ps (ha F W tk) hdb he hpl) fun σ H Q ⟨env, B, R, q⟩ => ⟨env, B, R, Out.wp_mono (Out.wp_bind.mp q) (fun pvs env1 z => by
    intro vs B1 H1 R1 e1 hv
    split at z
    · rename_i ds hq
      split at z
      · rename_i l
        refine ⟨?_, sp_qd hdd (fun j hj => by rw [l]; exact ioLt_ok hio j hj) R1 e1 hv hq z⟩
        rw [List.length_append, pvs_len hv, ← qArgs_len hq, l, (hdd B1).length, hn]
      · exact z.elim
    · exact z.elim) fun _ _ _ z => z⟩
theorem noFld {B : Hp} {fs : List (Str × V)} {ds : List D} (h : fs.map (·.1) = (T.fld c).take ds.length) (n : (T.fld c).contains nm = false) : fs.lookup nm = none := by
  rw [List.lookup_eq_none_iff]
  intro p hp
  have : p.1 ∈ (T.fld c).take ds.length := by rw [← h]; exact List.mem_map_of_mem hp
  have hm := List.mem_of_mem_take this
  rw [bne_iff_ne]
  intro e
  subst e
  rw [List.contains_eq_mem, decide_eq_false_iff_not] at n
  exact n hm
theorem trE_meth {io : Option Nat} {m : List D → OF} {mp : MP} {mq : MQ} {n : Nat} {pl : Sem Bool} (hC : Cls X.K (T.adr c)) (hM : Meth X.K (T.adr c) nm f) (hnf : (T.fld c).contains nm = false) (G : FnM X T k f fd ps io false m) (hr : Room k X.A) (hb : Binds X.K fd ps dus) (hd : Vals dvs dus) (hdd : okD T dd dvs)
    (ho : TrP X T o mp) (ha : TrQ X T (e :: es) mq) (hn : n + dd.length = ps.length := by rfl) (hio : ioLt io n = true := by rfl)
    (hst : starEach (e :: es) X.env = (false, eval e X.env) :: starEach es X.env := by rfl) (hpl : (backTo pos (starEach es X.env)).any (·.1) = false := by rfl)
    (ht : eval (.Call (.Attribute o nm apos) (e :: es) [] pos) X.env = (do
      let ov ← eval o X.env
      standAt apos.atName
      let (f, first) ← holding [ov] (getMethod ov nm pl)
      callWith pos f first (backTo pos (starEach (e :: es) X.env)) (backToKw pos (keywordEach [] X.env))) := by rfl) :
    TrE X T (.Call (.Attribute o nm apos) (e :: es) [] pos) (mMethD c io n dd m mp mq) :=
  fun F W tk => pe_imp (pe_meth (ho F W tk) hC hM G hr hb hd tk.ps (ha F W tk) hst hpl ht) fun σ H Q ⟨env, B, R, q⟩ => ⟨env, B, R, Out.wp_mono (Out.wp_bind.mp q) (fun pv env1 z => by
    intro v B1 H1 R1 e1 i
    split at z
    · rename_i hi
      cases hg : pv.get env1 with
      | none => rw [hg] at hi; cases hi
      | some d =>
        rw [hg] at hi
        cases d with
        | ins k fs =>
          have hk : k = c := eq_of_beq hi
          subst hk
          obtain ⟨a, dx, fl, rfl, h1, h2, h3⟩ := top_ins R1.exB (pv_top R1 i (Evl.Ex.refl _) hg)
          refine ⟨a, dx, fl, rfl, h1, noFld (B := B1) h2 hnf, env1, B1, R1, Out.wp_mono (Out.wp_bind.mp z) (fun pvs env2 z vs B2 H2 R2 e2 hv => ?_) fun _ _ _ x => x.mono e1⟩
          split at z
          · rename_i ds hq
            split at z
            · rename_i l
              have hv' : PvsOk T (pv :: pvs) (V.ref a :: vs) σ B2 := ⟨_, vs, rfl, i.mono e2, hv⟩
              refine ⟨?_, sp_qd (vs := V.ref a :: vs) hdd (fun j hj => by rw [l]; exact ioLt_ok hio j hj) R2 (e1.trans e2) hv' hq z⟩
              have hl := qArgs_len hq
              rw [← List.cons_append, List.length_append, pvs_len hv', ← hl, l, (hdd B1).length, hn]
            · exact z.elim
          · exact z.elim
        | _ => cases hi
    · exact z.elim) fun _ _ _ z => z⟩
theorem trE_meth0 {io : Option Nat} {m : List D → OF} {mp : MP} {n : Nat} {pl : Sem Bool} (hC : Cls X.K (T.adr c)) (hM : Meth X.K (T.adr c) nm f) (hnf : (T.fld c).contains nm = false) (G : FnM X T k f fd ps io false m) (hr : Room k X.A) (hb : Binds X.K fd ps dus) (hd : Vals dvs dus) (hdd : okD T dd dvs)
    (ho : TrP X T o mp) (hn : n + dd.length = ps.length := by rfl) (hio : ioLt io n = true := by rfl)
    (ht : eval (.Call (.Attribute o nm apos) [] [] pos) X.env = (do
      let ov ← eval o X.env
      standAt apos.atName
      let (f, first) ← holding [ov] (getMethod ov nm pl)
      callWith pos f first (backTo pos (starEach [] X.env)) (backToKw pos (keywordEach [] X.env))) := by rfl) :
    TrE X T (.Call (.Attribute o nm apos) [] [] pos) (mMethD c io n dd m mp qNil) :=
  fun F W tk => pe_imp (pe_meth0 (ho F W tk) hC hM G hr hb hd tk.ps ht) fun σ H Q ⟨env, B, R, q⟩ => ⟨env, B, R, Out.wp_mono (Out.wp_bind.mp q) (fun pv env1 z => by
    intro v B1 H1 R1 e1 i
    split at z
    · rename_i hi
      cases hg : pv.get env1 with
      | none => rw [hg] at hi; cases hi
      | some d =>
        rw [hg] at hi
        cases d with
        | ins k fs =>
          have hk : k = c := eq_of_beq hi
          subst hk
          obtain ⟨a, dx, fl, rfl, h1, h2, h3⟩ := top_ins R1.exB (pv_top R1 i (Evl.Ex.refl _) hg)
          refine ⟨a, dx, fl, rfl, h1, noFld (B := B1) h2 hnf, ?_⟩
          have z' := Out.wp_bind.mp z
          have z : Out.wp (match qArgs env1 io 0 [pv] with | some ds => if ds.length = n then backE env1 io [pv] (m (ds ++ dd)) else .stuck | none => .stuck) _ _ := z'
          split at z
          · rename_i ds hq
            split at z
            · rename_i l
              have hv' : PvsOk T [pv] [V.ref a] σ B1 := ⟨_, [], rfl, i, rfl⟩
              refine ⟨?_, sp_qd (vs := [V.ref a]) hdd (fun j hj => by rw [l]; exact ioLt_ok hio j hj) R1 e1 hv' hq z⟩
              have hl := qArgs_len hq
              show ([V.ref a] ++ dvs).length = _
              rw [List.length_append, pvs_len hv', ← hl, l, (hdd B1).length, hn]
            · exact z.elim
          · exact z.elim
        | _ => cases hi
    · exact z.elim) fun _ _ _ z => z⟩
/-- C(..) -/
theorem make_wp {F : Fr0} {W : XK} {m : List D → OF} {ds : List D} {vs : List V} {env : Env} {σ : L2.St} {B0 B H : Hp} {Q : VK} {n : Nat} (hdd : okD T dd dvs) (R : Rel T F env σ B H) (e0 : Ex B0 B) (is : IsL T ds vs B)
    (q : Out.wp (match m (.ins c [] :: (ds ++ dd)) with
    | .ok .non (some d) => .ok d env
    | .ex k fs _ => .ex k fs env
    | _ => .stuck) (fun d env' => ∀ a B' H', Rel T F env' σ B' H' → Ex B0 B' → B' a = none → F.H a = none → NotIn env' σ a → Cell T d a B' H' → Q (.ref a) H') (exPs T F W B0 σ)) {x dx : Addr} (hx : H x = none) (hdx : H dx = none) (hne : dx ≠ x) :
    spF T (some 0) false m (.ref x :: (vs ++ dvs)) (L2.upd (L2.upd H dx (.own x)) x (.ins (T.adr c) dx [])) (fun v H2 => v = .non ∧ Q (.ref x) H2) W := by
  have s1 := Stp.junk (T := T) (o := HO.own x) R.exB hdx
  have R1 := R.step s1
  have hx1 : (L2.upd H dx (.own x)) x = none := by rw [upd_ne (Ne.symm hne)]; exact hx
  have s2 := Stp.junk (T := T) (o := HO.ins (T.adr c) dx []) R1.exB hx1
  have R2 := R1.step s2
  have nI := R.notIn hx
  have hF := R.freeF hx
  have hB := ex_none R.exB hx
  refine ⟨B, .ins c [] :: (ds ++ dd), R2.g0, ?_, ?_⟩
  · unfold IsAs
    refine ⟨.ref x, vs ++ dvs, rfl, ?_, ?_⟩
    · rw [if_pos rfl]
      refine ⟨x, rfl, hB, dx, [], upd_same, ?_, .nil⟩
      simp
    · have go : ∀ {dd : List D} {dvs : List V} (k : Nat), 0 < k → IsL T dd dvs B → IsAs T (some 0) k dd dvs B (L2.upd (L2.upd H dx (.own x)) x (.ins (T.adr c) dx [])) := fun {dd} => by
        induction dd with
        | nil => intro dvs k _ h; unfold IsAs; exact isL_nil.mp h
        | cons d dd ih =>
          intro dvs k hk h
          obtain ⟨v, r, rfl, h1, h2⟩ := isL_cons.mp h
          unfold IsAs
          refine ⟨v, r, rfl, ?_, ih (k + 1) (Nat.succ_pos _) h2⟩
          rw [if_neg fun e => by cases e; exact Nat.lt_irrefl _ hk]
          exact h1
      exact go 1 (Nat.succ_pos _) (is.append (hdd B))
  · cases h : m (.ins c [] :: (ds ++ dd)) with
    | ok d od =>
      rw [h] at q
      intro v B' H' s io' iv
      rw [if_neg (by simp)] at iv
      have ea : ioA (some 0) (V.ref x :: (vs ++ dvs)) = [x] := rfl
      rw [ea] at s io'
      cases d with
      | non =>
        cases od with
        | none => exact q.elim
        | some d' =>
          obtain ⟨i1, i2⟩ := io'
          obtain ⟨ob, hob⟩ := i2.at
          have R3 := R2.stepOut nI hF s (by rw [hob]; exact fun z => by cases z) i1
          exact ⟨is_non.mp iv, q x B' H' R3 (e0.trans s.b) i1 hF nI i2⟩
      | _ => exact q.elim
    | ex k fs od =>
      rw [h] at q
      intro dd' B' H' s io' iv
      have ea : ioA (some 0) (V.ref x :: (vs ++ dvs)) = [x] := rfl
      rw [ea] at s io'
      cases od with
      | none => exact io'.elim
      | some d' =>
        obtain ⟨i1, i2⟩ := io'
        obtain ⟨ob, hob⟩ := i2.at
        have R3 := R2.stepOut nI hF s (by rw [hob]; exact fun z => by cases z) i1
        exact q dd' B' H' R3 (e0.trans s.b) iv
    | stuck => rw [h] at q; exact q.elim
theorem trN_make {m : List D → OF} {ma : MA} {n : Nat} (hM : Mk X.K (T.adr c) f) (G : FnM X T k f fd ps (some 0) false m) (hr : Room (k + 1) X.A) (hg : Gl X x) (hm : X.mg x = some (.ref (T.adr c))) (hb : Binds X.K fd ps dus) (hd : Vals dvs dus) (hdd : okD T dd dvs) (ha : TrA X T (e :: es) ma)
    (hn : n + dd.length + 1 = ps.length := by rfl) (hdb : (x == ("__debug__" : Str)) = false := by decide)
    (he : starEach (e :: es) X.env = (false, eval e X.env) :: starEach es X.env := by rfl) (hpl : (backTo pos (starEach es X.env)).any (·.1) = false := by rfl) : TrN X T (.Call (.Name x p) (e :: es) [] pos) (mMake c n dd m ma) :=
  fun F W tk => pe_imp (pe_make hM G hr hg hm hb hd tk.ps (ha F W tk) hdb he hpl) fun σ H Q ⟨env, B, R, q⟩ => ⟨env, B, R, Out.wp_mono (Out.wp_bind.mp q) (fun ds env1 z => by
    intro vs B1 H1 R1 e1 is x dx hx hdx hne
    split at z
    · rename_i l
      refine ⟨?_, make_wp (n := n) hdd R1 e1 is z hx hdx hne⟩
      rw [List.length_cons, List.length_append, is.length, (hdd B1).length, l, hn]
    · exact z.elim) fun _ _ _ z => z⟩
theorem trN_make0 {m : List D → OF} (hM : Mk X.K (T.adr c) f) (G : FnM X T k f fd ps (some 0) false m) (hr : Room (k + 1) X.A) (hg : Gl X x) (hm : X.mg x = some (.ref (T.adr c))) (hb : Binds X.K fd ps dus) (hd : Vals dvs dus) (hdd : okD T dd dvs)
    (hn : dd.length + 1 = ps.length := by rfl) (hdb : (x == ("__debug__" : Str)) = false := by decide) : TrN X T (.Call (.Name x p) [] [] pos) (mMake c 0 dd m aNil) :=
  fun F W tk => pe_imp (pe_make0 hM G hr hg hm hb hd tk.ps hdb) fun σ H Q ⟨env, B, R, q⟩ => by
    intro x dx hx hdx hne
    have z := Out.wp_bind.mp q
    refine ⟨?_, make_wp (n := 0) (ds := []) (vs := []) hdd R (Evl.Ex.refl _) .nil z hx hdx hne⟩
    show (V.ref x :: ([] ++ dvs)).length = _
    rw [List.length_cons, List.nil_append, (hdd B).length, hn]
/-! ### fields -/
def fFld (g : Nat → Option Nat) : D → Option D
  | .ins c ds => (g c).bind (ds[·]?)
  | _ => none
structure FldOk (K : PySem.W.Frag) (T : Tab) (nm : Str) (g : Nat → Option Nat) : Prop where
  ok : ∀ c i, g c = some i → Cls K (T.adr c) ∧ NoAttr K (T.adr c) nm ∧ (T.fld c)[i]? = some nm ∧ (T.fld c).Nodup
theorem lookup_at : ∀ {fs : List (Str × V)} {l : List Str} {i : Nat} {v : V}, fs.map (·.1) = l → l.Nodup → l[i]? = some nm → (fs.map (·.2))[i]? = some v → fs.lookup nm = some v
  | [], l, i, v, h, _, e, ev => by simp at ev
  | p :: fs, l, 0, v, h, nd, e, ev => by
    subst h
    obtain ⟨a, b⟩ := p
    simp at e ev
    subst e; subst ev
    simp [List.lookup_cons]
  | p :: fs, l, i + 1, v, h, nd, e, ev => by
    subst h
    obtain ⟨a, b⟩ := p
    rw [List.map_cons] at nd e ev
    obtain ⟨n1, n2⟩ := List.nodup_cons.mp nd
    have e' : (fs.map (·.1))[i]? = some nm := by simpa using e
    have hm : nm ∈ fs.map (·.1) := List.mem_of_getElem? e'
    have hne : (nm == a) = false := beq_false_of_ne fun z => by subst z; exact n1 hm
    rw [List.lookup_cons, hne]
    exact lookup_at rfl n2 e' (by simpa using ev)
theorem ok_fld {g : Nat → Option Nat} (G : FldOk T.K T nm g) : Ok1 T (fFld g) (fun x H Q => ∃ a C dx fs v, x = .ref a ∧ H a = some (.ins C dx fs) ∧ Cls T.K C ∧ NoAttr T.K C nm ∧ fs.lookup nm = some v ∧ Q v H) := fun a d x B H Q e ta hf q => by
  unfold fFld at hf
  split at hf
  · rename_i c ds
    obtain ⟨i, hi, hd⟩ := Option.bind_eq_some_iff.mp hf
    obtain ⟨a, dx, fs, rfl, h1, h2, h3⟩ := top_ins e ta
    obtain ⟨g1, g2, g3, g4⟩ := G.ok c i hi
    obtain ⟨v, hv, iv⟩ := h3.get hd
    have hl : i < ds.length := (List.getElem?_eq_some_iff.mp hd).1
    have g5 : ((T.fld c).take ds.length)[i]? = some nm := by rw [List.getElem?_take_of_lt hl]; exact g3
    exact ⟨a, T.adr c, dx, fs, v, rfl, h1, g1, g2, lookup_at h2 (g4.sublist (List.take_sublist _ _)) g5 hv, q v B H (Stp.refl e) iv⟩
  · cases hf
theorem trE_fld {g : Nat → Option Nat} {mp : MP} (hK : X.K = T.K) (G : FldOk T.K T nm g) (h : TrP X T e mp) (hb : attributeBase e nm X.env (eval e X.env) = eval e X.env := by rfl) : TrE X T (.Attribute e nm pos) (op1 (fFld g) mp) :=
  fun F W tk => pe_imp (pe_fld (h F W tk) hb) fun σ H Q q => by
    have z := tOf_op1 (ok_fld G) q
    rw [hK]
    exact z
end
end Ml
set_option maxRecDepth 100000
set_option maxHeartbeats 2000000
namespace Ml
open PySem PySem.Spec PyProof.Rows L2
/-! ### methods of the class itself -/
structure SMet (K : PySem.W.Frag) (C : Addr) (mc : Value) (m : Str) (p g : Addr) : Prop where
  at_ : PySem.W.findCls K (.ref C) mc m = some (.get (.builtin "staticmethod.__get__") (.ref p) .none (.ref C))
  rc : ∃ rest, PySem.W.recIn K p "staticmethod" = some (.ref g :: rest)
  kp : PySem.W.keepIn K (.ref g) = true
section
variable {X : Cx} {CX : CXT} {k : Nat} {C p g : Addr} {mc : Value} {sp : Sp} {E : XK} {o e : Expr} {es : List Expr} {m : Str} {pos apos : Pos} {ta : TE} {t : TA} {pl : Sem Bool}
/-- C.m(..), m a staticmethod -/
def tSMeth (C : Addr) (sp : Sp) (E : XK) (ta : TE) (t : TA) : TE := fun σ H Q => ta σ H fun x H1 => x = .ref C ∧ t σ H1 fun vs H2 => sp vs H2 Q E
theorem pe_smeth (he : PE X o ta) (r : ClX.CRead X.K C mc) (c : SMet X.K C mc m p g) (F : FnR X.prog X.w X.K X.mg X.base CX k g sp) (hr : Room k X.A) (hx : Passes CX X E) (ha : PA X (e :: es) t)
    (hst : starEach (e :: es) X.env = (false, eval e X.env) :: starEach es X.env := by rfl) (hpl : (backTo pos (starEach es X.env)).any (·.1) = false := by rfl)
    (ht : eval (.Call (.Attribute o m apos) (e :: es) [] pos) X.env = (do
      let ov ← eval o X.env
      standAt apos.atName
      let (f, first) ← holding [ov] (getMethod ov m pl)
      callWith pos f first (backTo pos (starEach (e :: es) X.env)) (backToKw pos (keywordEach [] X.env))) := by rfl) :
    PE X (.Call (.Attribute o m apos) (e :: es) [] pos) (tSMeth C sp E ta t) := by
  refine ⟨fun pins s σ H Q I h => ?_⟩
  refine PySem.W.methodCall_KW (pl := pl) (thn (he.run pins s σ H _ I h) fun u s1 hh => ?_) ht
  obtain ⟨x, H1, I1, rx, ex, q⟩ := hh
  subst ex
  obtain rfl : u = Value.ref C := rx
  obtain ⟨rest, hp⟩ := c.rc
  refine PySem.W.method_cls I1.kIn r.ga (PySem.W.cls_bind I1.kIn r.rd c.at_ ?_)
  refine wpAny_call (PySem.W.sm_get (s := { s1 with toks := s1.toks + 1 }) I1.kIn hp (PySem.W.handed_on rfl ?_))
  have I2 : Inv X pins σ H1 { s1 with toks := s1.toks + 1 } := I1.tok (s1.toks + 1)
  refine PySem.W.callWith_K (h₀ := X.base) I2.ok.mod.kin c.kp (thn (ha.run pos pins _ σ H1 _ I2 q) fun us s3 hh => ?_) hst hpl
  obtain ⟨vs, H3, I3, rv, q3⟩ := hh
  exact ⟨I3.kIn, wpAny_call (run_fnR F hr hx I3 rv q3)⟩
end
/-! ### promises by positional values -/
abbrev FnP (X : Cx) (T : Tab) (k : Nat) (f : Addr) (n : Nat) (dd : List D) (dvs : List V) (io : Option Nat) (nw : Bool) (m : List D → OF) : Prop :=
  FnR X.prog X.w X.K X.mg X.base (L2.CX X.prog X.w) k f (fun vs H Q E => (vs ++ dvs).length = n + dd.length ∧ spF T io nw m (vs ++ dvs) H Q E)
section
variable {X : Cx} {T : Tab} {e e1 e2 o : Expr} {es : List Expr} {pos p apos : Pos} {x nm : Str} {f : Addr} {fd : FuncData} {ps : List Str} {k : Nat} {dd : List D} {dvs : List V} {dus : List Value} {c : Nat}
theorem FnM.toP {io : Option Nat} {nw : Bool} {m : List D → OF} {n : Nat} (G : FnM X T k f fd ps io nw m) (hb : Binds X.K fd ps dus) (hd : Vals dvs dus) (hn : n + dd.length = ps.length := by rfl) : FnP X T k f n dd dvs io nw m :=
  (G.raw hb hd).imp fun vs H Q E ⟨h1, h2⟩ => ⟨by rw [h1, hn], h2⟩
theorem trE_smeth {m : List D → OF} {mq : MQ} {n : Nat} {pa : Addr} {mc : Value} {pl : Sem Bool} {io : Option Nat} (r : ClX.CRead X.K (T.adr c) mc) (S : SMet X.K (T.adr c) mc nm pa f) (G : FnP X T k f n dd dvs io false m) (hr : Room k X.A) (hdd : okD T dd dvs)
    (ho : TrE X T o (mC (.cls c))) (ha : TrQ X T (e :: es) mq) (hio : ioLt io n = true := by rfl)
    (hst : starEach (e :: es) X.env = (false, eval e X.env) :: starEach es X.env := by rfl) (hpl : (backTo pos (starEach es X.env)).any (·.1) = false := by rfl)
    (ht : eval (.Call (.Attribute o nm apos) (e :: es) [] pos) X.env = (do
      let ov ← eval o X.env
      standAt apos.atName
      let (f, first) ← holding [ov] (getMethod ov nm pl)
      callWith pos f first (backTo pos (starEach (e :: es) X.env)) (backToKw pos (keywordEach [] X.env))) := by rfl) :
    TrE X T (.Call (.Attribute o nm apos) (e :: es) [] pos) (mCallD io n dd m mq) :=
  fun F W tk => pe_imp (pe_smeth (ho F W tk) r S G hr tk.ps (ha F W tk) hst hpl ht) fun σ H Q ⟨env, B, R, q⟩ => ⟨env, B, R, by
    intro v B0 H0 R0 e0 i0
    refine ⟨is_cls.mp i0, env, B0, R0, Out.wp_mono (Out.wp_bind.mp q) (fun pvs env1 z => ?_) fun _ _ _ x => x.mono e0⟩
    intro vs B1 H1 R1 e1 hv
    split at z
    · rename_i ds hq
      split at z
      · rename_i l
        refine ⟨?_, sp_qd hdd (fun j hj => by rw [l]; exact ioLt_ok hio j hj) R1 (e0.trans e1) hv hq z⟩
        rw [List.length_append, pvs_len hv, ← qArgs_len hq, l, (hdd B1).length]
      · exact z.elim
    · exact z.elim⟩
/-- a classmethod: the class goes ahead of the arguments -/
def mCMeth (c n : Nat) (dd : List D) (m : List D → OF) (mq : MQ) : ME := fun env => (mq env).bind fun ps env1 => match qArgs env1 none 0 ps with
  | some ds => if ds.length + 1 = n then backE env1 none ps (m (.cls c :: (ds ++ dd))) else .stuck
  | none => .stuck
theorem trE_cmeth {m : List D → OF} {mq : MQ} {n : Nat} {pa : Addr} {mc : Value} {pl : Sem Bool} (r : ClX.CRead X.K (T.adr c) mc) (S : ClX.CMet X.K (T.adr c) mc nm pa f) (G : FnP X T k f n dd dvs none false m) (hr : Room k X.A) (hdd : okD T dd dvs)
    (ho : TrE X T o (mC (.cls c))) (ha : TrQ X T (e :: es) mq)
    (hst : starEach (e :: es) X.env = (false, eval e X.env) :: starEach es X.env := by rfl) (hpl : (backTo pos (starEach es X.env)).any (·.1) = false := by rfl)
    (ht : eval (.Call (.Attribute o nm apos) (e :: es) [] pos) X.env = (do
      let ov ← eval o X.env
      standAt apos.atName
      let (f, first) ← holding [ov] (getMethod ov nm pl)
      callWith pos f first (backTo pos (starEach (e :: es) X.env)) (backToKw pos (keywordEach [] X.env))) := by rfl) :
    TrE X T (.Call (.Attribute o nm apos) (e :: es) [] pos) (mCMeth c n dd m mq) :=
  fun F W tk => pe_imp (ClX.pe_cmeth (ho F W tk) r S G hr tk.ps (ha F W tk) hst hpl ht) fun σ H Q ⟨env, B, R, q⟩ => ⟨env, B, R, by
    intro v B0 H0 R0 e0 i0
    refine ⟨is_cls.mp i0, env, B0, R0, Out.wp_mono (Out.wp_bind.mp q) (fun pvs env1 z => ?_) fun _ _ _ x => x.mono e0⟩
    intro vs B1 H1 R1 e1 hv
    split at z
    · rename_i ds hq
      split at z
      · rename_i l
        have hv' : PvsOk T (.v (.cls c) :: pvs) (V.ref (T.adr c) :: vs) σ B1 := ⟨_, vs, rfl, (show Is T (.cls c) (V.ref (T.adr c)) B1 from is_cls.mpr rfl), hv⟩
        have hq' : qArgs env1 none 0 (.v (.cls c) :: pvs) = some (.cls c :: ds) := by
          have hx : ∀ {j : Nat} {ps : List PV} {ds : List D}, qArgs env1 none 0 ps = some ds → qArgs env1 none j ps = some ds := by
            intro j ps
            have gen : ∀ (ps : List PV) (i j : Nat), qArgs env1 none i ps = qArgs env1 none j ps := by
              intro ps
              induction ps with
              | nil => intro i j; rfl
              | cons p ps ih =>
                intro i j
                unfold qArgs
                rw [ih (i + 1) (j + 1)]
                rfl
            intro ds h
            rw [gen ps j 0]; exact h
          show ((qAt env1 (none == some 0) (.v (.cls c))).bind fun d => (qArgs env1 none 1 pvs).map (d :: ·)) = _
          rw [hx hq]; rfl
        have hl : (V.ref (T.adr c) :: vs).length = n := by rw [pvs_len hv', ← qArgs_len hq', List.length_cons, l]
        have z' : (backE env1 none (.v (.cls c) :: pvs) (m ((.cls c :: ds) ++ dd))).wp (fun d env' => ∀ v B' H', Rel T F env' σ B' H' → Ex B B' → Is T d v B' → Q v H') (exPs T F W B σ) := by
          have : backE env1 none (.v (.cls c) :: pvs) (m ((.cls c :: ds) ++ dd)) = backE env1 none pvs (m (.cls c :: (ds ++ dd))) := by
            rw [List.cons_append]
            cases m (.cls c :: (ds ++ dd)) <;> rfl
          rw [this]; exact z
        refine ⟨?_, sp_qd (vs := V.ref (T.adr c) :: vs) hdd (fun j hj => by cases hj) R1 (e0.trans e1) hv' hq' z'⟩
        rw [List.length_append, hl, (hdd B1).length]
      · exact z.elim
    · exact z.elim⟩
/-! ### properties -/
def mProp (c : Nat) (m : List D → OF) (mp : MP) : ME := fun env => (mp env).bind fun p env1 => if isIns c (p.get env1) then match qAt env1 false p with
    | some d => match m [d] with
      | .ok r _ => .ok r env1
      | _ => .stuck
    | none => .stuck
  else .stuck
theorem lets_nox : Passes (L2.CX X.prog X.w) X.nox (fun _ _ _ => False) := by
  have tk : Takes X.nox (fun _ _ _ _ => False) := fun _ _ h => by
    obtain ⟨_, _, _, _, _, _, _, _, _, _, _, _, _, _, _, _, w⟩ := h
    exact w.elim
  exact passes_call tk fun _ _ _ _ h => h
theorem trE_prop {m : List D → OF} {mp : MP} {pa : Addr} (hC : Cls X.K (T.adr c)) (hP : PropOf X.K (T.adr c) nm pa f) (G : FnM X T k f fd ps none false m) (hr : Room (k + 1) X.A) (hb : Binds X.K fd ps []) (ho : TrP X T o mp) (hn : ps.length = 1 := by rfl)
    (hab : attributeBase o nm X.env (eval o X.env) = eval o X.env := by rfl) : TrE X T (.Attribute o nm pos) (mProp c m mp) :=
  fun F W tk => pe_imp (pe_prop (ho F W tk) hC hP G hr hb .nil lets_nox hab) fun σ H Q ⟨env, B, R, q⟩ => ⟨env, B, R, Out.wp_mono (Out.wp_bind.mp q) (fun pv env1 z => by
    intro v B1 H1 R1 e1 i
    split at z
    · rename_i hi
      cases hg : pv.get env1 with
      | none => rw [hg] at hi; cases hi
      | some d =>
        rw [hg] at hi
        cases d with
        | ins k fs =>
          have hk : k = c := eq_of_beq hi
          subst hk
          obtain ⟨a, dx, fl, rfl, h1, h2, h3⟩ := top_ins R1.exB (pv_top R1 i (Evl.Ex.refl _) hg)
          refine ⟨a, dx, fl, rfl, h1, by simp [hn], ?_⟩
          split at z
          · rename_i d' hq
            have hq' : qArgs env1 none 0 [pv] = some [d'] := by
              show ((qAt env1 (none == some 0) pv).bind fun d => (some []).map (d :: ·)) = _
              rw [show (none == some 0) = false from rfl, hq]; rfl
            have hv : PvsOk T [pv] [V.ref a] σ B1 := ⟨_, [], rfl, i, rfl⟩
            cases hm : m [d'] with
            | ok r o =>
              rw [hm] at z
              refine sp_q (m := m) R1 e1 hv hq' ?_
              rw [hm]
              cases o <;> exact z
            | ex c' fs' o => rw [hm] at z; exact z.elim
            | stuck => rw [hm] at z; exact z.elim
          · exact z.elim
        | _ => cases hi
    · exact z.elim) fun _ _ _ z => z⟩
end
end Ml
set_option maxRecDepth 100000
set_option maxHeartbeats 2000000
namespace Ml
open PySem PySem.Spec PyProof.Rows L2
/-! ### operators and built-ins that may call a def of the text -/
def qAll (env : Env) : List PV → Option (List D)
  | [] => some []
  | p :: ps => (qAt env false p).bind fun d => (qAll env ps).map (d :: ·)
def xOr (o : Option (Option OF)) (e : Env) (k : Out D) : Out D := match o with
  | some (some r) => r.out e
  | _ => k
def op2X (own : D → D → Option OF) (g : D → D → Option D) (m1 m2 : MP) : ME := fun env => (m1 env).bind fun p env1 => (m2 env1).bind fun q env2 =>
  xOr ((qAt env2 false p).bind fun a => (qAt env2 false q).map fun b => own a b) env2 (ofO ((p.get env2).bind fun a => (q.get env2).bind fun b => g a b) env2)
def op1X (own : D → Option OF) (g : D → Option D) (m1 : MP) : ME := fun env => (m1 env).bind fun p env1 => xOr ((qAt env1 false p).map own) env1 (ofO ((p.get env1).bind g) env1)
def mFnX (own : List D → Option OF) (g : List D → Option D) (mq : MQ) : ME := fun env => (mq env).bind fun ps env1 => xOr ((qAll env1 ps).map own) env1 (ofO ((getAll env1 ps).bind g) env1)
/-- the outcome is wished for, at a place -/
def OfW (T : Tab) (r : OF) (B H : Hp) (Q : VK) (E : XK) : Prop := r.wp (fun d _ => ∀ v B' H', Stp T [] B H B' H' → Is T d v B' → Q v H') (fun c fs _ => ∀ dd B' H', Stp T [] B H B' H' → IsX T c fs dd B' → E (.ref (T.adr c)) (some dd) H')
def OkX1 (T : Tab) (own : D → Option OF) (r : XK → V → Hp → VK → Prop) : Prop := ∀ (a : D) (o : OF) (x : V) (B H : Hp) (Q : VK) (E : XK), G0 T B H → Is T a x B → own a = some o → OfW T o B H Q E → r E x H Q
def OkX2 (T : Tab) (own : D → D → Option OF) (r : XK → R2) : Prop := ∀ (a b : D) (o : OF) (x y : V) (B H : Hp) (Q : VK) (E : XK), G0 T B H → Is T a x B → Is T b y B → own a b = some o → OfW T o B H Q E → r E x y H Q
def OkXC (T : Tab) (own : List D → Option OF) (r : XK → List V → Hp → VK → Prop) : Prop := ∀ (as : List D) (o : OF) (xs : List V) (B H : Hp) (Q : VK) (E : XK), G0 T B H → IsL T as xs B → own as = some o → OfW T o B H Q E → r E xs H Q
section
variable {T : Tab} {F : Fr0} {W : XK} {σ : L2.St} {B B0 B' H H' : Hp} {env : Env} {Q : VK}
theorem qAt_is {p : PV} {v : V} {d : D} (R : Rel T F env σ B H) (h : PvOk T p v σ B') (e : Ex B' B) (g : qAt env false p = some d) : Is T d v B := by
  cases p with
  | v x => cases g; exact Is.mono e h
  | sl i =>
    have g' : (match env[i]? with | some (.im d) => some d | _ => none) = some d := g
    split at g'
    · rename_i d' hi
      cases g'
      obtain ⟨w, w1, w2⟩ := R.slot i _ hi
      have h' : σ[i]? = some (some v) := h
      rw [h'] at w1; cases w1
      exact w2
    · cases g'
theorem qAll_is {ps : List PV} {vs : List V} {ds : List D} (R : Rel T F env σ B H) (h : PvsOk T ps vs σ B) (g : qAll env ps = some ds) : IsL T ds vs B := by
  induction ps generalizing vs ds with
  | nil => cases g; cases (show vs = [] from h); exact .nil
  | cons p ps ih =>
    obtain ⟨v, r, rfl, h1, h2⟩ := h
    unfold qAll at g
    obtain ⟨d, hd, g⟩ := Option.bind_eq_some_iff.mp g
    obtain ⟨ds', hds, rfl⟩ := Option.map_eq_some_iff.mp g
    exact .cons (qAt_is R h1 (Evl.Ex.refl _) hd) (ih h2 hds)
theorem ofW_of {r : OF} (R : Rel T F env σ B H) (e0 : Ex B0 B) (q : (r.out env).wp (fun d env' => ∀ v B' H', Rel T F env' σ B' H' → Ex B0 B' → Is T d v B' → Q v H') (exPs T F W B0 σ)) : OfW T r B H Q W := by
  cases r with
  | ok d o => exact fun v B' H' s i => q v B' H' (R.step s) (e0.trans s.b) i
  | ex c fs o => exact fun dd B' H' s i => q dd B' H' (R.step s) (e0.trans s.b) i
  | stuck => exact q.elim
theorem xOr_wp {o : Option (Option OF)} {e : Env} {k : Out D} {φ : D → Env → Prop} {ψ : Nat → List D → Env → Prop} (h : (xOr o e k).wp φ ψ) : (∃ r, o = some (some r) ∧ (r.out e).wp φ ψ) ∨ k.wp φ ψ := by
  unfold xOr at h
  split at h
  · exact .inl ⟨_, rfl, h⟩
  · exact .inr h
theorem tOf_op2X {own : D → D → Option OF} {g : D → D → Option D} {rx : XK → R2} {rd : R2} (hx : OkX2 T own rx) (hd : Ok2 T g rd) {m1 m2 : MP} (h : tOf T F W (op2X own g m1 m2) σ H Q) : tOp (fun x y H Q => rx W x y H Q ∨ rd x y H Q) (tOfP T F W m1) (tOfP T F W m2) σ H Q := by
  obtain ⟨env, B, R, q⟩ := h
  refine ⟨env, B, R, Out.wp_mono (Out.wp_bind.mp q) (fun p env1 q1 => ?_) fun _ _ _ z => z⟩
  intro v1 B1 H1 R1 e1 p1
  refine ⟨env1, B1, R1, Out.wp_mono (Out.wp_bind.mp q1) (fun p2 env2 q2 => ?_) fun _ _ _ z => z.mono e1⟩
  intro v2 B2 H2 R2 e2 p2'
  rcases xOr_wp q2 with ⟨r, hr, q3⟩ | q3
  · obtain ⟨a, ha, hr⟩ := Option.bind_eq_some_iff.mp hr
    obtain ⟨b, hb, hr⟩ := Option.map_eq_some_iff.mp hr
    exact .inl (hx a b r v1 v2 B2 H2 Q W R2.g0 (qAt_is R2 p1 e2 ha) (qAt_is R2 p2' (Evl.Ex.refl _) hb) hr (ofW_of R2 (e1.trans e2) q3))
  · obtain ⟨d, hdd, q3⟩ := ofO_wp q3
    obtain ⟨a, ha, hdd⟩ := Option.bind_eq_some_iff.mp hdd
    obtain ⟨b, hb, hdd⟩ := Option.bind_eq_some_iff.mp hdd
    exact .inr (hd a b d v1 v2 B2 H2 Q R2.exB (pv_top R2 p1 e2 ha) (pv_top R2 p2' (Evl.Ex.refl _) hb) hdd fun v B' H' s is => q3 v B' H' (R2.step s) ((e1.trans e2).trans s.b) is)
theorem tOf_op1X {own : D → Option OF} {g : D → Option D} {rx : XK → V → Hp → VK → Prop} {rd : V → Hp → VK → Prop} (hx : OkX1 T own rx) (hd : Ok1 T g rd) {m1 : MP} (h : tOf T F W (op1X own g m1) σ H Q) : tUn (fun x H Q => rx W x H Q ∨ rd x H Q) (tOfP T F W m1) σ H Q := by
  obtain ⟨env, B, R, q⟩ := h
  refine ⟨env, B, R, Out.wp_mono (Out.wp_bind.mp q) (fun p env1 q1 => ?_) fun _ _ _ z => z⟩
  intro v1 B1 H1 R1 e1 p1
  rcases xOr_wp q1 with ⟨r, hr, q3⟩ | q3
  · obtain ⟨a, ha, hr⟩ := Option.map_eq_some_iff.mp hr
    exact .inl (hx a r v1 B1 H1 Q W R1.g0 (qAt_is R1 p1 (Evl.Ex.refl _) ha) hr (ofW_of R1 e1 q3))
  · obtain ⟨d, hdd, q3⟩ := ofO_wp q3
    obtain ⟨a, ha, hdd⟩ := Option.bind_eq_some_iff.mp hdd
    exact .inr (hd a d v1 B1 H1 Q R1.exB (pv_top R1 p1 (Evl.Ex.refl _) ha) hdd fun v B' H' s is => q3 v B' H' (R1.step s) (e1.trans s.b) is)
theorem tOf_fnX {own : List D → Option OF} {g : List D → Option D} {rx : XK → List V → Hp → VK → Prop} {rd : List V → Hp → VK → Prop} (hx : OkXC T own rx) (hd : OkC T g rd) {mq : MQ} (h : tOf T F W (mFnX own g mq) σ H Q) : tCB (fun x H Q => rx W x H Q ∨ rd x H Q) (tOfQ T F W mq) σ H Q := by
  obtain ⟨env, B, R, q⟩ := h
  refine ⟨env, B, R, Out.wp_mono (Out.wp_bind.mp q) (fun ps env1 q1 => ?_) fun _ _ _ z => z⟩
  intro vs B1 H1 R1 e1 pv
  rcases xOr_wp q1 with ⟨r, hr, q3⟩ | q3
  · obtain ⟨a, ha, hr⟩ := Option.map_eq_some_iff.mp hr
    exact .inl (hx a r vs B1 H1 Q W R1.g0 (qAll_is R1 pv ha) hr (ofW_of R1 e1 q3))
  · obtain ⟨d, hdd, q3⟩ := ofO_wp q3
    obtain ⟨a, ha, hdd⟩ := Option.bind_eq_some_iff.mp hdd
    exact .inr (hd a d vs B1 H1 Q R1.exB (pvs_top R1 pv ha) hdd fun v B' H' s is => q3 v B' H' (R1.step s) (e1.trans s.b) is)
end
section
variable {X : Cx} {T : Tab} {e e1 e2 o : Expr} {es : List Expr} {pos p apos : Pos} {x nm : Str}
theorem opR_or {f : Value → Value → Sem Value} {r s : R2} (h : OpR X f r) (k : OpR X f s) : OpR X f (fun x y H Q => r x y H Q ∨ s x y H Q) := h.or k
theorem unR_or {f : Value → Sem Value} {r s : V → Hp → VK → Prop} (h : UnR X f r) (k : UnR X f s) : UnR X f (fun x H Q => r x H Q ∨ s x H Q) := fun pins st σ H x v Q I rx q => by
  rcases q with q | q
  · exact h pins st σ H x v Q I rx q
  · exact k pins st σ H x v Q I rx q
theorem trE_binX {op : Operator} {own : D → D → Option OF} {g : D → D → Option D} {rx : XK → R2} {rd : R2} {m1 m2 : MP} (ho : ∀ E, Passes (L2.CX X.prog X.w) X E → OpR X (binaryOp op) (rx E)) (hx : OkX2 T own rx) (ho2 : OpR X (binaryOp op) rd) (hd : Ok2 T g rd) (h1 : TrP X T e1 m1) (h2 : TrP X T e2 m2) :
    TrE X T (.BinOp e1 op e2 pos) (op2X own g m1 m2) := fun F W tk => pe_imp (pe_op (opR_or (ho W tk.ps) ho2) (h1 F W tk) (h2 F W tk)) fun _ _ _ => tOf_op2X hx hd
theorem trE_cmpX {op : CmpOp} {own : D → D → Option OF} {g : D → D → Option D} {rx : XK → R2} {rd : R2} {m1 m2 : MP} (ho : ∀ E, Passes (L2.CX X.prog X.w) X E → OpR X (compareOp op) (rx E)) (hx : OkX2 T own rx) (ho2 : OpR X (compareOp op) rd) (hd : Ok2 T g rd) (h1 : TrP X T e1 m1) (h2 : TrP X T e2 m2) (hm : behindInMarks op e2 = false := by rfl) :
    TrE X T (.Compare e1 [op] [e2] pos) (op2X own g m1 m2) := fun F W tk => pe_imp (pe_cmpR (opR_or (ho W tk.ps) ho2) (h1 F W tk) (h2 F W tk) hm) fun _ _ _ => tOf_op2X hx hd
theorem trT_cmpX {op : CmpOp} {own : D → D → Option OF} {g : D → D → Option D} {rx : XK → R2} {rd : R2} {m1 m2 : MP} (ho : ∀ E, Passes (L2.CX X.prog X.w) X E → OpR X (compareOp op) (rx E)) (hx : OkX2 T own rx) (ho2 : OpR X (compareOp op) rd) (hd : Ok2 T g rd) (h1 : TrP X T e1 m1) (h2 : TrP X T e2 m2) (hm : behindInMarks op e2 = false := by rfl) :
    TrT X T (.Compare e1 [op] [e2] pos) (tB1 (op2X own g m1 m2)) := fun F W tk => pt_imp (pt_cmpR (opR_or (ho W tk.ps) ho2) (h1 F W tk) (h2 F W tk) hm) fun σ H Q ⟨env, B, R, q⟩ => tOf_op2X (Q := fun x H' => ∃ k, x = .bl k ∧ Q k H') hx hd ⟨env, B, R, Out.wp_mono (Out.wp_bind.mp q) (fun d env1 z => by
    intro v B1 H1 R1 e1 i
    cases d with
    | bl b => exact ⟨b, is_bl.mp i, z B1 H1 R1 e1⟩
    | _ => exact z.elim) fun _ _ _ z => z⟩
theorem trE_unX {op : UnaryOp} {own : D → Option OF} {g : D → Option D} {rx : XK → V → Hp → VK → Prop} {rd : V → Hp → VK → Prop} {m1 : MP} (ho : ∀ E, Passes (L2.CX X.prog X.w) X E → UnR X (unaryOp op) (rx E)) (hx : OkX1 T own rx) (ho2 : UnR X (unaryOp op) rd) (hd : Ok1 T g rd) (h1 : TrP X T e1 m1) :
    TrE X T (.UnaryOp op e1 pos) (op1X own g m1) := fun F W tk => pe_imp (pe_un (unR_or (ho W tk.ps) ho2) (h1 F W tk)) fun _ _ _ => tOf_op1X hx hd
theorem trE_fnXB {id : String} {own : List D → Option OF} {g : List D → Option D} {rx : XK → List V → Hp → VK → Prop} {rd : List V → Hp → VK → Prop} {m : MQ} (hc : ∀ E, Passes (L2.CX X.prog X.w) X E → CallR X (.builtin id) (rx E)) (hx : OkXC T own rx) (hc2 : CallR X (.builtin id) rd) (hd : OkC T g rd) (hg : Gl X x) (hm : X.mg x = none) (hv : bootBuiltins x = some (.builtin id)) (ha : TrQ X T (e :: es) m)
    (hn : x ≠ "__name__" := by decide) (hdb : (x == ("__debug__" : Str)) = false := by decide) (he : starEach (e :: es) X.env = (false, eval e X.env) :: starEach es X.env := by rfl) (hpl : (backTo pos (starEach es X.env)).any (·.1) = false := by rfl) :
    TrE X T (.Call (.Name x p) (e :: es) [] pos) (mFnX own g m) := fun F W tk => pe_imp (pe_callB (callR_or (hc W tk.ps) hc2) hg hm hv (ha F W tk) hn hdb he hpl) fun _ _ _ => tOf_fnX hx hd
theorem trE_fnXT {id : String} {own : List D → Option OF} {g : List D → Option D} {rx : XK → List V → Hp → VK → Prop} {rd : List V → Hp → VK → Prop} {m : MQ} (hc : ∀ E, Passes (L2.CX X.prog X.w) X E → CallR X (.type id) (rx E)) (hx : OkXC T own rx) (hc2 : CallR X (.type id) rd) (hd : OkC T g rd) (hg : Gl X x) (hm : X.mg x = none) (hv : bootBuiltins x = some (.type id)) (ha : TrQ X T (e :: es) m)
    (hn : x ≠ "__name__" := by decide) (hdb : (x == ("__debug__" : Str)) = false := by decide) (he : starEach (e :: es) X.env = (false, eval e X.env) :: starEach es X.env := by rfl) (hpl : (backTo pos (starEach es X.env)).any (·.1) = false := by rfl) :
    TrE X T (.Call (.Name x p) (e :: es) [] pos) (mFnX own g m) := fun F W tk => pe_imp (pe_callTy (callR_or (hc W tk.ps) hc2) hg hm hv (ha F W tk) hn hdb he hpl) fun _ _ _ => tOf_fnX hx hd
end
/-! ### which they are: a class c whose def m keeps its promise -/
section
variable {X : Cx} {T : Tab} {f : Addr} {c k : Nat} {m : List D → OF}
def spM (T : Tab) (n : Nat) (m : List D → OF) : Sp := fun vs H Q E => vs.length = n ∧ spF T none false m vs H Q E
theorem ofW_sp {m : List D → OF} {ds : List D} {vs : List V} {B H : Hp} {Q : VK} {E : XK} {n : Nat} (g : G0 T B H) (i : IsL T ds vs B) (hn : vs.length = n) (q : OfW T (m ds) B H Q E) : spM T n m vs H Q E := by
  refine ⟨hn, B, ds, g, pureAs T i 0, ?_⟩
  cases h : m ds with
  | ok d o =>
    rw [h] at q
    intro v B' H' s _ is
    rw [if_neg (by simp)] at is
    exact q v B' H' s is
  | ex c fs o =>
    rw [h] at q
    intro dd B' H' s _ is
    exact q dd B' H' s is
  | stuck => rw [h] at q; exact q.elim
/-- what may stand on the right of an own operator -/
def okR (cs : List Nat) : D → Bool
  | .non => true
  | .bl _ => true
  | .int _ => true
  | .str _ => true
  | .lst _ => true
  | .tup _ => true
  | .dct _ => true
  | .ins c _ => cs.contains c
  | _ => false
def ownB (c : Nat) (cs : List Nat) (m : List D → OF) : D → D → Option OF := fun a b => match a with
  | .ins k _ => if k == c && okR cs b then some (m [a, b]) else none
  | _ => none
theorem ownB_ok {cs : List Nat} {a b : D} {o : OF} (h : ownB c cs m a b = some o) : (∃ fs, a = .ins c fs) ∧ okR cs b = true ∧ o = m [a, b] := by
  unfold ownB at h
  split at h
  · split at h
    · rename_i k fs hc
      obtain ⟨h1, h2⟩ := Bool.and_eq_true_iff.mp hc
      cases h
      exact ⟨⟨fs, by rw [eq_of_beq h1]⟩, h2, rfl⟩
    · cases h
  · cases h
/-- the type of such a thing -/
def tyOfD (T : Tab) : D → Value
  | .non => .type "NoneType"
  | .bl _ => .type "bool"
  | .int _ => .type "int"
  | .str _ => .type "str"
  | .lst _ => .type "list"
  | .tup _ => .type "tuple"
  | .dct _ => .type "dict"
  | .ins c _ => .ref (T.adr c)
  | _ => .none
theorem tyOfD_ok {K : PySem.W.Frag} {cs : List Nat} {d : D} {v : V} {B H : Hp} (e : Ex B H) (h : okR cs d = true) (i : Is T d v B) : TyR K H v (tyOfD T d) := by
  cases d with
  | non => cases is_non.mp i; rfl
  | bl b => cases is_bl.mp i; rfl
  | int b => cases is_int.mp i; rfl
  | str b => cases is_str.mp i; rfl
  | lst ds => obtain ⟨a, xs, rfl, h1, _⟩ := is_lst.mp i; exact .inl ⟨rfl, xs, .inl (rdX e h1)⟩
  | tup ds => obtain ⟨a, xs, rfl, h1, _⟩ := is_tup.mp i; exact .inr (.inl ⟨rfl, xs, SqT.of (e _ _ h1)⟩)
  | dct ds => obtain ⟨a, xs, rfl, h1, _⟩ := is_dct.mp i; exact .inr (.inr (.inl ⟨rfl, _, e _ _ h1⟩))
  | ins c ds => obtain ⟨a, dx, fs, rfl, h1, _⟩ := is_ins.mp i; exact .inr (.inr (.inr ⟨_, dx, fs, rfl, e _ _ h1⟩))
  | _ => cases h
def farB (nm : String) (T : String) : Bool := match PySem.fastLookup T (PySem.dunder nm), PySem.fastLookup T (dunderR nm) with
  | some fo, some ro => !((fo.isSome && !isSeqSlot fo) || (ro.isSome && !isSeqSlot ro))
  | _, _ => false
def knownB (nm : String) (T : String) : Bool := match PySem.fastLookup T (PySem.dunder nm), PySem.fastLookup T (dunderR nm) with
  | some _, some _ => true
  | _, _ => false
structure BinTy (nm : String) : Prop where
  far : ∀ T ∈ ["list", "tuple", "dict"], farB nm T = true
  kn : ∀ T ∈ ["NoneType", "bool", "int", "str"], knownB nm T = true
theorem binTy_add : BinTy "add" := ⟨by decide +kernel, by decide +kernel⟩
theorem binTy_sub : BinTy "sub" := ⟨by decide +kernel, by decide +kernel⟩
theorem binTy_mul : BinTy "mul" := ⟨by decide +kernel, by decide +kernel⟩
theorem sub_none {K : PySem.W.Frag} {C : Addr} : ∀ {T : String}, T ∈ ["NoneType", "bool", "int", "str", "list", "tuple", "dict"] → PySem.W.subIn K (.type T) (.ref C) = some false := fun {T} h => by
  simp only [List.mem_cons, List.not_mem_nil, or_false] at h
  rcases h with rfl | rfl | rfl | rfl | rfl | rfl | rfl <;> kernel_rfl
theorem okX_bin {nm : String} {K : PySem.W.Frag} (hb : BinTy nm) : OkX2 T (ownB c [c] m) (fun E => rOB K nm (T.adr c) (spM T 2 m) E) := fun a b o x y B H Q E g ia ib h q => by
  obtain ⟨⟨fs, rfl⟩, hr, rfl⟩ := ownB_ok h
  obtain ⟨ad, dx, fl, rfl, h1, h2, h3⟩ := is_ins.mp ia
  refine ⟨ad, dx, fl, tyOfD T b, rfl, g.1 _ _ h1, tyOfD_ok g.1 hr ib, ?_, ofW_sp g (.cons ia (.cons ib .nil)) rfl q⟩
  have far : ∀ Ty : String, Ty ∈ ["list", "tuple", "dict"] → ∃ fo ro, PySem.W.findIn K (.type Ty) (PySem.dunder nm) = some fo ∧ PySem.W.findIn K (.type Ty) (dunderR nm) = some ro ∧ ((fo.isSome && !isSeqSlot fo) || (ro.isSome && !isSeqSlot ro)) = false := fun Ty hT => by
    have z := hb.far Ty hT
    unfold farB at z
    split at z
    · rename_i fo ro h1 h2; exact ⟨fo, ro, h1, h2, by rw [Bool.not_eq_true'] at z; exact z⟩
    · cases z
  have kn : ∀ Ty : String, Ty ∈ ["NoneType", "bool", "int", "str"] → ∃ fo ro, PySem.W.findIn K (.type Ty) (PySem.dunder nm) = some fo ∧ PySem.W.findIn K (.type Ty) (dunderR nm) = some ro := fun Ty hT => by
    have z := hb.kn Ty hT
    unfold knownB at z
    split at z
    · rename_i fo ro h1 h2; exact ⟨fo, ro, h1, h2⟩
    · cases z
  cases b with
  | non => cases is_non.mp ib; obtain ⟨fo, ro, k1, k2⟩ := kn "NoneType" (by simp); exact .inr ⟨_, fo, ro, rfl, k1, k2, .inr ⟨trivial, sub_none (by simp)⟩⟩
  | bl b => cases is_bl.mp ib; obtain ⟨fo, ro, k1, k2⟩ := kn "bool" (by simp); exact .inr ⟨_, fo, ro, rfl, k1, k2, .inr ⟨trivial, sub_none (by simp)⟩⟩
  | int b => cases is_int.mp ib; obtain ⟨fo, ro, k1, k2⟩ := kn "int" (by simp); exact .inr ⟨_, fo, ro, rfl, k1, k2, .inr ⟨trivial, sub_none (by simp)⟩⟩
  | str b => cases is_str.mp ib; obtain ⟨fo, ro, k1, k2⟩ := kn "str" (by simp); exact .inr ⟨_, fo, ro, rfl, k1, k2, .inr ⟨trivial, sub_none (by simp)⟩⟩
  | lst ds => obtain ⟨fo, ro, k1, k2, k3⟩ := far "list" (by simp); exact .inr ⟨_, fo, ro, rfl, k1, k2, .inl k3⟩
  | tup ds => obtain ⟨fo, ro, k1, k2, k3⟩ := far "tuple" (by simp); exact .inr ⟨_, fo, ro, rfl, k1, k2, .inl k3⟩
  | dct ds => obtain ⟨fo, ro, k1, k2, k3⟩ := far "dict" (by simp); exact .inr ⟨_, fo, ro, rfl, k1, k2, .inl k3⟩
  | ins c' ds =>
    have hc : c' = c := by
      have z : ([c].contains c') = true := hr
      simpa using z
    subst hc
    exact .inl rfl
  | _ => cases hr
theorem okX_cmp {K : PySem.W.Frag} {cs : List Nat} (hcs : ∀ c' ∈ cs, PySem.W.notFirst K (T.adr c) (.ref (T.adr c')) = true) : OkX2 T (ownB c cs m) (fun E => rOC K (T.adr c) (spM T 2 m) E) := fun a b o x y B H Q E g ia ib h q => by
  obtain ⟨⟨fs, rfl⟩, hr, rfl⟩ := ownB_ok h
  obtain ⟨ad, dx, fl, rfl, h1, h2, h3⟩ := is_ins.mp ia
  refine ⟨ad, dx, fl, tyOfD T b, rfl, g.1 _ _ h1, tyOfD_ok g.1 hr ib, ?_, ofW_sp g (.cons ia (.cons ib .nil)) rfl q⟩
  have far : ∀ Ty : String, Ty ∈ ["NoneType", "bool", "int", "str", "list", "tuple", "dict"] → PySem.W.notFirst K (T.adr c) (.type Ty) = true := fun Ty hT => by
    unfold PySem.W.notFirst
    rw [sub_none hT]
    simp
  cases b with
  | ins c' ds =>
    have z : (cs.contains c') = true := hr
    exact hcs c' (by simpa using z)
  | cls _ => cases hr
  | ty _ => cases hr
  | fn _ => cases hr
  | xc _ _ _ _ => cases hr
  | rdl _ => cases hr
  | non => exact far "NoneType" (by simp)
  | bl _ => exact far "bool" (by simp)
  | int _ => exact far "int" (by simp)
  | str _ => exact far "str" (by simp)
  | lst _ => exact far "list" (by simp)
  | tup _ => exact far "tuple" (by simp)
  | dct _ => exact far "dict" (by simp)
def ownU (c : Nat) (m : List D → OF) : D → Option OF := fun a => match a with
  | .ins k _ => if k == c then some (m [a]) else none
  | _ => none
theorem ownU_ok {a : D} {o : OF} (h : ownU c m a = some o) : (∃ fs, a = .ins c fs) ∧ o = m [a] := by
  unfold ownU at h
  split at h
  · split at h
    · rename_i k fs hc
      cases h
      exact ⟨⟨fs, by rw [eq_of_beq hc]⟩, rfl⟩
    · cases h
  · cases h
theorem okX_un : OkX1 T (ownU c m) (fun E => rOU (T.adr c) (spM T 1 m) E) := fun a o x B H Q E g ia h q => by
  obtain ⟨⟨fs, rfl⟩, rfl⟩ := ownU_ok h
  obtain ⟨ad, dx, fl, rfl, h1, h2, h3⟩ := is_ins.mp ia
  exact ⟨ad, dx, fl, rfl, g.1 _ _ h1, ofW_sp g (.cons ia .nil) rfl q⟩
def ownC (c : Nat) (m : List D → OF) : List D → Option OF := fun as => match as with
  | [a] => ownU c m a
  | _ => none
theorem okX_call : OkXC T (ownC c m) (fun E => rOCall (T.adr c) (spM T 1 m) E) := fun as o xs B H Q E g ia h q => by
  unfold ownC at h
  split at h
  · obtain ⟨⟨fs, rfl⟩, rfl⟩ := ownU_ok h
    obtain ⟨v, r, rfl, i1, i2⟩ := isL_cons.mp ia
    cases isL_nil.mp i2
    obtain ⟨ad, dx, fl, rfl, h1, h2, h3⟩ := is_ins.mp i1
    exact ⟨ad, dx, fl, rfl, g.1 _ _ h1, ofW_sp g (.cons i1 .nil) rfl q⟩
  · cases h
/-- what comes back is a text, a bool -/
def strOF : OF → OF
  | .ok (.str s) o => .ok (.str s) o
  | .ok _ _ => .stuck
  | r => r
def blOF : OF → OF
  | .ok (.bl s) o => .ok (.bl s) o
  | .ok _ _ => .stuck
  | r => r
def ownS (c : Nat) (m : List D → OF) : List D → Option OF := fun as => (ownC c m as).map strOF
def ownT (c : Nat) (m : List D → OF) : List D → Option OF := fun as => (ownC c m as).map blOF
theorem okX_callS : OkXC T (ownS c m) (fun E => rOCallS (T.adr c) (spM T 1 m) E) := fun as o xs B H Q E g ia h q => by
  obtain ⟨o', h', rfl⟩ := Option.map_eq_some_iff.mp h
  unfold ownC at h'
  split at h'
  · obtain ⟨⟨fs, rfl⟩, rfl⟩ := ownU_ok h'
    obtain ⟨v, r, rfl, i1, i2⟩ := isL_cons.mp ia
    cases isL_nil.mp i2
    obtain ⟨ad, dx, fl, rfl, h1, h2, h3⟩ := is_ins.mp i1
    refine ⟨ad, dx, fl, rfl, g.1 _ _ h1, ofW_sp g (.cons i1 .nil) rfl ?_⟩
    cases hm : m [.ins c fs] with
    | ok d o =>
      rw [hm] at q
      cases d with
      | str s => exact fun v B' H' st i => ⟨s, is_str.mp i, q v B' H' st i⟩
      | _ => exact q.elim
    | ex k fs o => rw [hm] at q; exact q
    | stuck => rw [hm] at q; exact q
  · cases h'
theorem okX_callB : OkXC T (ownT c m) (fun E => rOCallB (T.adr c) (spM T 1 m) E) := fun as o xs B H Q E g ia h q => by
  obtain ⟨o', h', rfl⟩ := Option.map_eq_some_iff.mp h
  unfold ownC at h'
  split at h'
  · obtain ⟨⟨fs, rfl⟩, rfl⟩ := ownU_ok h'
    obtain ⟨v, r, rfl, i1, i2⟩ := isL_cons.mp ia
    cases isL_nil.mp i2
    obtain ⟨ad, dx, fl, rfl, h1, h2, h3⟩ := is_ins.mp i1
    refine ⟨ad, dx, fl, rfl, g.1 _ _ h1, ofW_sp g (.cons i1 .nil) rfl ?_⟩
    cases hm : m [.ins c fs] with
    | ok d o =>
      rw [hm] at q
      cases d with
      | bl s => exact fun v B' H' st i => ⟨s, is_bl.mp i, q v B' H' st i⟩
      | _ => exact q.elim
    | ex k fs o => rw [hm] at q; exact q
    | stuck => rw [hm] at q; exact q
  · cases h'
/-- no class has one of its own -/
def none2 : D → D → Option OF := fun _ _ => none
def noneC : List D → Option OF := fun _ => none
end
end Ml
set_option maxRecDepth 100000
set_option maxHeartbeats 2000000
namespace Ml
open PySem PySem.Spec PyProof.Rows L2
/-! ### a store to a field -/
section
variable {X : Cx} {T : Tab} {e e1 e2 o : Expr} {es : List Expr} {pos p apos : Pos} {x nm : Str}
theorem putF_set {v : V} : ∀ {fs : List (Str × V)} {l : List Str} {i : Nat}, fs.map (·.1) = l → l.Nodup → l[i]? = some nm → (putF nm v fs).map (·.1) = l ∧ (putF nm v fs).map (·.2) = (fs.map (·.2)).set i v
  | [], l, i, h, _, e => by subst h; simp at e
  | (g, y) :: r, l, 0, h, nd, e => by
    subst h
    have e' : g = nm := by simpa using e
    unfold putF
    rw [if_pos e']
    exact ⟨rfl, rfl⟩
  | (g, y) :: r, l, i + 1, h, nd, e => by
    subst h
    rw [List.map_cons] at nd e
    obtain ⟨n1, n2⟩ := List.nodup_cons.mp nd
    have e' : (r.map (·.1))[i]? = some nm := by simpa using e
    have hne : ¬ g = nm := fun z => by subst z; exact n1 (List.mem_of_getElem? e')
    obtain ⟨h1, h2⟩ := putF_set (v := v) (fs := r) rfl n2 e'
    unfold putF
    rw [if_neg hne]
    exact ⟨by rw [List.map_cons, h1]; rfl, by rw [List.map_cons, h2]; rfl⟩
theorem putF_new {v : V} : ∀ {fs : List (Str × V)}, nm ∉ fs.map (·.1) → putF nm v fs = fs ++ [(nm, v)]
  | [], _ => rfl
  | (g, y) :: r, h => by
    rw [List.map_cons, List.mem_cons, not_or] at h
    unfold putF
    rw [if_neg fun z => h.1 z.symm, putF_new h.2]; rfl
def putI (i : Nat) (d : D) (ds : List D) : Option (List D) := if i < ds.length then some (ds.set i d) else if i = ds.length then some (ds ++ [d]) else none
def fSetF (g : Nat → Option Nat) (v : D) : D → Option D
  | .ins c ds => if ds.length < 900 then (g c).bind fun i => (putI i v ds).map (.ins c) else none
  | _ => none
/-- x.f = e, x a slot of its own -/
def sSetF (j : Nat) (g : Nat → Option Nat) (m : ME) : MS := fun env => (m env).bindS fun v env1 => match getOw env1 j with
  | none => .stuck
  | some d => match fSetF g v d with
    | none => .stuck
    | some d' => ofE (putSl j d' env1)
theorem trS_setF {j : Nat} {g : Nat → Option Nat} {m : ME} {pos' npos : Pos} (hK : X.K = T.K) (G : FldOk T.K T nm g) (h : TrE X T e m) (hN : X.N[j]? = some x := by rfl) (hvis : Vis X.env.scope x := by first | exact Or.inl rfl | exact Or.inr (Or.inl rfl) | exact Or.inr (Or.inr rfl)) (hd : (x == ("__debug__" : Str)) = false := by decide)
    (hcd : (x == ("__classdict__" : Str)) = false := by decide) (hs : swapsWith e (some (.Attribute (.Name x npos) nm pos')) pos.line X.env = pure false := by rfl) : TrS X T (.Assign [.Attribute (.Name x npos) nm pos'] e pos) (sSetF j g m) := fun F W tk =>
  ps_imp (ps_fld (pe_var hN hvis hd hcd) (h F W tk) hs) fun D σ H ⟨env, B, R, q⟩ => ⟨env, B, R, Out.wp_mono (Out.wp_bindS.mp q) (fun v env1 z => by
    intro vv B1 H1 R1 e1 iv
    split at z
    · exact z.elim
    · rename_i d hd0
      split at z
      · exact z.elim
      · rename_i d' hf
        obtain ⟨env3, hp, z4⟩ := ofE_wp z
        obtain ⟨a, ha1, ha2, hc⟩ := R1.own hd0
        unfold fSetF at hf
        split at hf
        · rename_i c ds
          split at hf
          · rename_i hl
            obtain ⟨i, hi, hf⟩ := Option.bind_eq_some_iff.mp hf
            obtain ⟨ds', hp', rfl⟩ := Option.map_eq_some_iff.mp hf
            obtain ⟨g1, g2, g3, g4⟩ := G.ok c i hi
            obtain ⟨dx, fs, h1, h2, h3⟩ := hc
            have hlen : fs.length = ds.length := by
              have := h3.length
              rwa [List.length_map] at this
            refine ⟨_, ha1, a, T.adr c, dx, fs, rfl, h1, by rw [hK]; exact g1, by rw [hK]; exact g2, by rw [hlen]; omega, ?_⟩
            have cc : Cell T (.ins c ds') a B1 (L2.upd H1 a (.ins (T.adr c) dx (putF nm vv fs))) := by
              refine ⟨dx, _, upd_same, ?_⟩
              unfold putI at hp'
              split at hp'
              · rename_i hi2
                cases hp'
                have g5 : ((T.fld c).take ds.length)[i]? = some nm := by rw [List.getElem?_take_of_lt hi2]; exact g3
                obtain ⟨p1, p2⟩ := putF_set (v := vv) h2 (g4.sublist (List.take_sublist _ _)) g5
                rw [p1, p2, List.length_set]
                exact ⟨rfl, h3.set i iv⟩
              · split at hp'
                · rename_i hi2 hi3
                  cases hp'
                  have hnew : nm ∉ fs.map (·.1) := fun z => by
                    rw [h2] at z
                    obtain ⟨n, hn⟩ := List.getElem?_of_mem z
                    have hn1 : n < ds.length := by
                      have := (List.getElem?_eq_some_iff.mp hn).1
                      rw [List.length_take] at this; omega
                    rw [List.getElem?_take_of_lt hn1] at hn
                    have hnl : n < (T.fld c).length := (List.getElem?_eq_some_iff.mp hn).1
                    have : n = i := (List.getElem?_inj hnl g4).mp (hn.trans g3.symm)
                    omega
                  rw [putF_new hnew, List.map_append, List.map_append, h2, List.length_append]
                  refine ⟨?_, h3.append (.cons iv .nil)⟩
                  show (T.fld c).take ds.length ++ [nm] = (T.fld c).take (ds.length + 1)
                  rw [List.take_add_one, ← hi3, g3]; rfl
                · cases hp'
            exact z4 σ B1 _ (R1.upd ha1 hd0 ha2 cc hp) e1
          · cases hf
        · cases hf) fun _ _ _ z => exP.to z⟩
end
/-! ### own exceptions: their making -/
/-- what the making of an exception of the text does: its arguments stand as its fields -/
def spX (C : Addr) (fl : List Str) : Sp := fun vs H Q _ => ∃ (a : Addr) (xs : List V), vs = .ref a :: xs ∧ xs.length = fl.length ∧ H a = some (exo a C none) ∧
  ∀ (dx : Addr) (H' : Hp), H dx = none → dx ≠ a → H' a = some (exo a C (some dx)) → H' dx = some (exd dx (fl.zip xs).reverse) → (∀ b, b ≠ a → b ≠ dx → H' b = H b) → Q .non H'
/-- a field, the parameter it takes, the parameter's place -/
structure XF where
  f : Str
  y : Str
  j : Nat
  p1 : Pos
  p2 : Pos
  p3 : Pos
  p4 : Pos
def XF.st (q : XF) : Stmt := .Assign [.Attribute (.Name "self" q.p1) q.f q.p2] (.Name q.y q.p3) q.p4
structure XFok (X : Cx) (q : XF) : Prop where
  n : X.N[q.j]? = some q.y
  v : Vis X.env.scope q.y
  d : (q.y == ("__debug__" : Str)) = false
  c : (q.y == ("__classdict__" : Str)) = false
  s : swapsWith (.Name q.y q.p3) (some (.Attribute (.Name "self" q.p1) q.f q.p2)) q.p4.line X.env = pure false
def tXs (K : PySem.W.Frag) (l : List XF) : TS := fun D σ H => ∃ (a C dx : Addr) (fs : List (Str × V)) (ys : List V), σ[0]? = some (some (.ref a)) ∧ dx ≠ a ∧ OexC K C ∧ (∀ q ∈ l, PySem.W.findIn K (.ref C) q.f = some none) ∧ H a = some (exo a C (some dx)) ∧ H dx = some (exd dx fs) ∧
  fs.length + l.length ≤ 900 ∧ ys.length = l.length ∧ (∀ (i : Nat) (q : XF), l[i]? = some q → σ[q.j]? = some ys[i]?) ∧
  ∀ H' : Hp, H' a = some (exo a C (some dx)) → H' dx = some (exd dx (((l.map XF.f).zip ys).reverse ++ fs)) → (∀ b, b ≠ a → b ≠ dx → H' b = H b) → D.nx σ H'
section
variable {X : Cx} {T : Tab}
theorem pss_xs (hs0 : X.N[0]? = some ("self" : Str)) (hv0 : Vis X.env.scope "self") : ∀ {l : List XF}, (∀ q ∈ l, XFok X q) → ∃ t, PSs X (l.map XF.st) t ∧ ∀ D σ H, tXs X.K l D σ H → t D σ H
  | [], _ => ⟨_, pss_nil, fun D σ H ⟨a, C, dx, fs, ys, h0, hne0, h1, h2, h3, h4, h5, h6, h7, q⟩ => by
    have hy : ys = [] := List.length_eq_zero_iff.mp h6
    subst hy
    exact q H h3 (by simpa using h4) fun _ _ _ => rfl⟩
  | q :: l, hl => by
    obtain ⟨t, ht, hi⟩ := pss_xs hs0 hv0 (l := l) fun q' hq => hl q' (List.mem_cons_of_mem _ hq)
    have ok := hl q List.mem_cons_self
    refine ⟨_, pss_cons (ps_ost (f := q.f) (p' := q.p2) (pe_var (pos := q.p1) hs0 hv0 (by decide) (by decide)) (pe_var (pos := q.p3) ok.n ok.v ok.d ok.c) ok.s) ht, fun D σ H h => ?_⟩
    obtain ⟨a, C, dx, fs, ys, h0, hne0, h1, h2, h3, h4, h5, h6, h7, k⟩ := h
    cases ys with
    | nil => cases h6
    | cons y ys =>
      have hy := h7 0 q rfl
      have hy' : σ[q.j]? = some (some y) := by simpa using hy
      refine ⟨y, hy', .ref a, h0, a, C, rfl, h1, h2 q List.mem_cons_self, .inr ⟨dx, fs, h3, h4, by simp at h5; omega, ?_⟩⟩
      have hne : a ≠ dx := fun z => hne0 z.symm
      refine hi D σ _ ⟨a, C, dx, (q.f, y) :: fs, ys, h0, hne0, h1, fun q' hq => h2 q' (List.mem_cons_of_mem _ hq), by rw [upd_ne hne]; exact h3, upd_same, by simp at h5 ⊢; omega, by simpa using h6, fun i q' hq => by simpa using h7 (i + 1) q' (by simpa using hq), fun H' e1 e2 e3 => ?_⟩
      refine k H' e1 ?_ fun b b1 b2 => by rw [e3 b b1 b2, upd_ne b2]
      rw [e2]
      simp
end
section
variable {P : Program} {w : World} {K : PySem.W.Frag} {mg : Str → Option Value} {base : Heap} {x qual : Str} {params : Arguments} {scope : Scope} {dvs : List V} {kws : List (Str × V)} {f : Addr} {fd : FuncData} {C : Addr}
/-- the promise of an exception's __init__ that keeps its parameters -/
theorem fnX {N ps : List Str} {k : Nat} {CXx : CXT} {q : XF} {l : List XF} {body : List Stmt} (hb : body = (q :: l).map XF.st) (F : FunD K x qual params body scope dvs kws f fd) (S : FnScope N ps scope) (hN : N = ps) (hp : ps = ("self" : Str) :: (q :: l).map XF.y) (hj : ∀ (i : Nat) (z : XF), (q :: l)[i]? = some z → z.j = i + 1)
    (O : OexC K C) (hno : ∀ z ∈ q :: l, PySem.W.findIn K (.ref C) z.f = some none) (hlen : l.length < 100)
    (hok : ∀ (cdv : Value) (A : Around) (outer : List PySem.Env) (s : Shared) (H : Hp) (E : XK), ∀ z ∈ q :: l, XFok (cxOf CXx P w K mg base N qual scope f cdv A outer s H E) z)
    (hs0 : N[0]? = some ("self" : Str) := by rfl) (hv0 : Vis scope "self" := by first | exact Or.inl rfl | exact Or.inr (Or.inl rfl)) : FnOk P w K mg base CXx (k + 1) f fd ps (spX C ((q :: l).map XF.f)) := by
  subst hb
  refine F.ok S (fun vs H Q E h => ?_) fun cdv A outer s H vs Q E hr h => ?_
  · obtain ⟨a, xs, e, h1, _⟩ := h
    rw [e, hp]
    simp at h1 ⊢
    exact h1
  · obtain ⟨a, xs, rfl, h1, h2, h3⟩ := h
    have hok' := hok cdv A outer s H E
    obtain ⟨t, ht, hi⟩ := pss_xs (X := cxOf CXx P w K mg base N qual scope f cdv A outer s H E) (l := l) hs0 hv0 fun z hz => hok' z (List.mem_cons_of_mem _ hz)
    have ok := hok' q List.mem_cons_self
    refine ⟨_, pss_cons (ps_ost (f := q.f) (p' := q.p2) (pe_var (pos := q.p1) hs0 hv0 (by decide) (by decide)) (pe_var (pos := q.p3) ok.n ok.v ok.d ok.c) ok.s) ht, ?_⟩
    cases xs with
    | nil => simp at h1
    | cons y ys =>
      have hyl : ys.length = l.length := by simpa using h1
      have hst : ∀ (i : Nat) (v : V), (V.ref a :: y :: ys)[i]? = some v → (L2.start N (V.ref a :: y :: ys))[i]? = some (some v) := fun i v e => by
        unfold L2.start
        have hi : i < (V.ref a :: y :: ys).length := (List.getElem?_eq_some_iff.mp e).1
        rw [List.getElem?_append_left (by rw [List.length_map]; exact hi), List.getElem?_map, e]; rfl
      have hq := hj 0 q rfl
      refine ⟨y, hst q.j y (by rw [hq]; rfl), .ref a, hst 0 _ rfl, a, C, rfl, O, hno q List.mem_cons_self, .inl ⟨h2, fun dx hdx hne => ?_⟩⟩
      refine hi _ _ _ ⟨a, C, dx, [(q.f, y)], ys, hst 0 _ rfl, hne, O, fun z hz => hno z (List.mem_cons_of_mem _ hz), upd_same, by rw [upd_ne hne]; exact upd_same, by simp; omega, hyl, fun i z hz => ?_, fun H' e1 e2 e3 => ?_⟩
      · have hzj := hj (i + 1) z (by simpa using hz)
        have hil : i < ys.length := by rw [hyl]; exact (List.getElem?_eq_some_iff.mp hz).1
        rw [List.getElem?_eq_getElem hil]
        exact hst z.j _ (by rw [hzj]; simp)
      · refine h3 dx H' hdx hne e1 (by rw [e2]; simp) fun b b1 b2 => ?_
        rw [e3 b b1 b2, upd_ne b1, upd_ne b2]
end
/-! ### raise -/
def sRaise (c n : Nat) (ma : MA) : MS := fun env => (ma env).bindS fun ds env1 => if ds.length = n then .ex c ds env1 else .stuck
section
variable {X : Cx} {T : Tab} {e : Expr} {es : List Expr} {pos p cpos : Pos} {x : Str} {c : Nat} {f : Addr} {fd : FuncData} {k : Nat} {ps : List Str}
theorem zip_lookup : ∀ {fl : List Str} {xs : List V} {i : Nat} {g : Str} {v : V}, fl.Nodup → fl[i]? = some g → xs[i]? = some v → (fl.zip xs).lookup g = some v
  | [], xs, i, g, v, _, h, _ => by simp at h
  | a :: fl, [], i, g, v, _, _, h => by simp at h
  | a :: fl, y :: xs, 0, g, v, nd, h, h2 => by simp at h h2; subst h; subst h2; simp [List.lookup_cons]
  | a :: fl, y :: xs, i + 1, g, v, nd, h, h2 => by
    obtain ⟨n1, n2⟩ := List.nodup_cons.mp nd
    have h' : fl[i]? = some g := by simpa using h
    have hne : (g == a) = false := beq_false_of_ne fun z => by subst z; exact n1 (List.mem_of_getElem? h')
    rw [List.zip_cons_cons, List.lookup_cons, hne]
    exact zip_lookup n2 h' (by simpa using h2)
theorem lookup_nodup : ∀ {l : List (Str × V)} {g : Str} {v : V}, (l.map (·.1)).Nodup → l.lookup g = some v → (g, v) ∈ l
  | [], g, v, _, h => by simp at h
  | (a, y) :: l, g, v, nd, h => by
    rw [List.map_cons] at nd
    obtain ⟨n1, n2⟩ := List.nodup_cons.mp nd
    rw [List.lookup_cons] at h
    cases q : g == a with
    | true => rw [q] at h; cases h; rw [eq_of_beq q]; exact List.mem_cons_self
    | false => rw [q] at h; exact List.mem_cons_of_mem _ (lookup_nodup n2 h)
theorem lookup_mem : ∀ {l : List (Str × V)} {g : Str} {v : V}, (l.map (·.1)).Nodup → (g, v) ∈ l → l.lookup g = some v
  | (a, y) :: l, g, v, nd, h => by
    rw [List.map_cons] at nd
    obtain ⟨n1, n2⟩ := List.nodup_cons.mp nd
    rw [List.lookup_cons]
    rcases List.mem_cons.mp h with e | h
    · cases e; simp
    · have hm : g ∈ l.map (·.1) := List.mem_map.mpr ⟨(g, v), h, rfl⟩
      have hne : (g == a) = false := beq_false_of_ne fun z => by subst z; exact n1 hm
      rw [hne]; exact lookup_mem n2 h
theorem rev_lookup {fl : List Str} {xs : List V} {i : Nat} {g : Str} {v : V} (nd : fl.Nodup) (hl : xs.length = fl.length) (h : fl[i]? = some g) (h2 : xs[i]? = some v) : (fl.zip xs).reverse.lookup g = some v := by
  have e : (fl.zip xs).map (·.1) = fl := List.map_fst_zip (by omega)
  have nd' : ((fl.zip xs).map (·.1)).Nodup := by rw [e]; exact nd
  refine lookup_mem ?_ (List.mem_reverse.mpr (lookup_nodup nd' (zip_lookup nd h h2)))
  rw [List.map_reverse]
  unfold List.Nodup at nd' ⊢
  rw [List.pairwise_reverse]
  exact nd'.imp fun h => Ne.symm h
theorem trS_raise {n : Nat} {ma : MA} {fl : List Str} (hc : X.calm = true) (O : OexC X.K (T.adr c)) (hi : PySem.W.findIn X.K (.ref (T.adr c)) "__init__" = some (some (.ref f))) (hf : PySem.W.typeIn X.K (.ref f) = some (.type "function")) (G : FnOk X.prog X.w X.K X.mg X.base (L2.CX X.prog X.w) k f fd ps (spX (T.adr c) fl)) (hr : Room (k + 1) X.A)
    (hb : Binds X.K fd ps []) (hg : Gl X x) (hm : X.mg x = some (.ref (T.adr c))) (ha : TrA X T (e :: es) ma) (hfl : fl = T.fld c) (nd : fl.Nodup) (hn : n = fl.length := by rfl) (hsm : n < 1000 := by decide) (hdb : (x == ("__debug__" : Str)) = false := by decide)
    (he : starEach (e :: es) X.env = (false, eval e X.env) :: starEach es X.env := by rfl) (hpl : (backTo cpos (starEach es X.env)).any (·.1) = false := by rfl) :
    TrS X T (.Raise (some (.Call (.Name x p) (e :: es) [] cpos)) none pos) (sRaise c n ma) := fun F W tk =>
  ps_imp (ps_raise hc tk.tk (pmk_oex O hi hf G hr hb .nil (passes_call (tk.tk.imp fun _ _ _ _ h => (show False from h).elim) fun _ _ _ _ h => h) hg hm (ha F W tk) hdb he hpl)) fun D σ H ⟨env, B, R, q⟩ => ⟨env, B, R, Out.wp_mono (Out.wp_bindS.mp q) (fun ds env1 z vs B1 H1 R1 e1 is => by
    split at z
    · rename_i l
      have hvl : vs.length = fl.length := by rw [is.length, l, hn]
      refine ⟨by rw [hvl]; omega, fun a ha => ⟨a, vs, by rw [List.append_nil], hvl, upd_same, fun dx H' hdx hne h1 h2 h3 => ⟨rfl, dx, _, h1, h2, ?_, ?_⟩⟩⟩
      · rw [upd_ne hne] at hdx; exact hdx
      · have hdx' : H1 dx = none := by rw [upd_ne hne] at hdx; exact hdx
        have hb : B1 dx = none := ex_none R1.exB hdx'
        have hb2 : B1 a = none := ex_none R1.exB ha
        have same : ∀ b, b ≠ dx → upd (del H' a) dx (.xd (fl.zip vs).reverse) b = H1 b := fun b b2 => by
          rw [upd_ne b2]
          by_cases ba : b = a
          · subst ba; rw [del_same, ha]
          · rw [del_ne ba, h3 b ba b2, upd_ne ba]
        have eH : upd (del H' a) dx (.xd (fl.zip vs).reverse) = upd H1 dx (.xd (fl.zip vs).reverse) := by
          funext b
          by_cases bd : b = dx
          · subst bd; rw [upd_same, upd_same]
          · rw [same b bd, upd_ne bd]
        rw [eH]
        have s := Stp.new (T := T) (o := HO.xd (fl.zip vs).reverse) R1.exB hdx'
        refine z dx σ _ _ (R1.step s) (e1.trans s.b) ⟨_, vs, upd_same, by rw [l, hn, hfl], fun i g w hgi hwi => ?_, is.mono s.b⟩
        exact rev_lookup nd hvl (by rw [hfl]; exact hgi) hwi
    · exact z.elim) fun _ _ _ z => exP.to z⟩
end
end Ml
set_option maxRecDepth 100000
set_option maxHeartbeats 2000000
namespace Ml
open PySem PySem.Spec PyProof.Rows L2 LamX
/-! ### lambdas -/
section
variable {X : Cx} {pins : List (Addr × Obj)} {σ : L2.St} {H : Hp} {s : Shared}
/-- all but the tables stay, and nothing goes away -/
def ExtD (H H1 : Hp) : Prop := ExtN H H1 ∧ ∀ b, H b ≠ none → H1 b ≠ none
abbrev lamO (X : Cx) (ar : Arguments) (bd : Expr) (sc : Scope) (pm : Value) (k : Addr) (ct : Value) : Obj := PySem.W.kla_obj "<lambda>" (X.env.qual ++ "<lambda>") ar bd sc (cloFrom X.env.cells sc.names []) pm k ct
/-- the making of a lambda -/
theorem lam_made {L : List (Addr × Str)} {cd tb : Addr} {ar : Arguments} {bd : Expr} {sc : Scope} {lp : Pos} {E : Value → Shared → Prop} {Q : Value → Shared → Prop} (I : Inv X pins σ H s) (B : TabB X.base X.mg cd tb) (hcd : X.env.code = .ref cd)
    (m : (tb, X.env.qual ++ "<lambda>") ∈ L) (u : ∀ p ∈ L, p.1 = tb → p.2 = X.env.qual ++ "<lambda>") (t : Tabs L H) (df : defaultsOf ar X.env = ([], [])) (fr : ∀ y ∈ sc.names, y.2 = .free → ∃ c, X.env.cells.lookup y.1 = some c)
    (k : ∀ (g cc : Addr) (pm ct : Value) (H1 : Hp) (s1 : Shared), Inv X pins σ H1 s1 → ExtD H H1 → Tabs L H1 → s1.heap.get? g = some (lamO X ar bd sc pm cc ct) → H1 g = none → g ∉ frs X.stack → H1 cc = some (CodeO cc (X.env.qual ++ "<lambda>")) → Q (.ref g) s1) :
    wpAny (model X.prog X.w) X.A (eval (.Lambda ar bd sc lp) X.env) Q E s := by
  obtain ⟨rows, hrow, trip, among⟩ := t _ m
  have off : ∀ g, s.heap.objs.size ≤ g → g ∉ frs X.stack := fun g hg z => (List.mem_cons.mp (I.stkSub _ z)).elim (fun e => absurd (Nat.lt_of_lt_of_le I.lt hg) (by rw [← e]; exact Nat.lt_irrefl _)) (I.nofs hg)
  have at_ : s.heap.get? tb = some { cls := .none, data := .fields rows } := I.hok tb _ hrow
  have blt : s.heap.BuiltinsAt X.mg tb := B.bm.keeps I.bk
  refine PySem.W.kla_eval df ?_
  cases seen : codeAmong lp rows.toList with
  | some cv =>
    obtain ⟨cc, ecv, hcc⟩ := among lp cv seen
    subst ecv
    refine PySem.W.kla_makeFunctionHit (mg := X.mg) (closure_ok fr) I.ok.glob (I.mod.glob.keeps I.bk) hcd (B.code.keeps I.bk) at_ trip seen blt fun ct h1 tk ext sz => ?_
    exact k h1.objs.size cc _ ct H _ (I.kept (t' := tk) fun b o e => Heap.get?_push_of_some _ (ext b o e)) ⟨ExtN.refl H, fun _ z => z⟩ t (Heap.get?_push_size _ rfl) (I.hok.fresh sz) (off _ sz) hcc
  | none =>
    refine PySem.W.kla_makeFunction (mg := X.mg) (closure_ok fr) I.ok.glob (I.mod.glob.keeps I.bk) hcd (B.code.keeps I.bk) at_ trip seen B.gP blt fun cc ct h1 tk ext ge lt rec_ tb1 => ?_
    obtain ⟨c2, oc, fs, tok, ecc, o1, o2, o3⟩ := rec_
    cases ecc
    have free_cc : H cc = none := I.hok.fresh ge
    have size : s.heap.objs.size ≤ h1.objs.size := Nat.le_trans ge (Nat.le_of_lt lt)
    have J := inv_table (t' := tk) (more := #[rawInt lp.line, rawInt lp.col, .ref cc]) (h' := h1.push (lamO X ar bd sc ((X.mg "__name__").getD .none) cc ct)) I hrow (fun b o hb e => Heap.get?_push_of_some _ (ext b o hb e)) (Heap.get?_push_of_some _ tb1) ge ⟨oc, fs, tok, Heap.get?_push_of_some _ o1, o2, o3⟩
    have keep : ExtN H (upd (upd H tb (.tbl (rows ++ #[rawInt lp.line, rawInt lp.col, .ref cc]))) cc (CodeO cc (X.env.qual ++ "<lambda>"))) := fun b o hb nt => by
      have n1 : b ≠ cc := ne_of_none hb free_cc
      have n2 : b ≠ tb := fun z => by rw [z, hrow] at hb; exact nt rows (Option.some.inj hb.symm)
      rw [upd_ne n1, upd_ne n2, hb]
    have rowsL : (rows ++ #[rawInt lp.line, rawInt lp.col, .ref cc]).toList = rows.toList ++ [rawInt lp.line, rawInt lp.col, .ref cc] := by simp
    have tb_cc : tb ≠ cc := ne_of_none hrow free_cc
    refine k h1.objs.size cc _ ct _ _ J ⟨keep, fun b hb => upd_dom (upd_dom hb)⟩ (fun p hp => ?_) (Heap.get?_push_size _ rfl) ?_ (off _ size) upd_same
    · by_cases e : p.1 = tb
      · rw [u p hp e, e]
        refine ⟨_, by rw [upd_ne tb_cc, upd_same], by rw [rowsL]; exact PySem.TriplesOk_snoc _ _ _ _ trip, fun p2 cv hcv => ?_⟩
        rw [rowsL] at hcv
        rcases among_app _ trip hcv with z | z
        · obtain ⟨c0, z1, z2⟩ := among p2 cv z
          exact ⟨c0, z1, keep _ _ z2 codeO_ne⟩
        · exact ⟨cc, z, upd_same⟩
      · obtain ⟨rows2, z1, z2, z3⟩ := t p hp
        refine ⟨rows2, by rw [upd_ne (ne_of_none z1 free_cc), upd_ne e, z1], z2, fun p2 cv hcv => ?_⟩
        obtain ⟨c0, z4, z5⟩ := z3 p2 cv hcv
        exact ⟨c0, z4, keep _ _ z5 codeO_ne⟩
    · have ne1 : h1.objs.size ≠ cc := Nat.ne_of_gt lt
      have ne2 : h1.objs.size ≠ tb := fun z => absurd (Nat.lt_of_lt_of_le (Heap.lt_size at_) size) (by rw [z]; exact Nat.lt_irrefl _)
      rw [upd_ne ne1, upd_ne ne2]
      exact I.hok.fresh size
end
theorem Rel.extD {T : Tab} {F : Fr0} {env : Env} {σ : L2.St} {B H H1 : Hp} (R : Rel T F env σ B H) (e : ExtD H H1) (t : Tabs T.tabs H1) : Rel T F env σ B H1 :=
  R.step ⟨Evl.Ex.refl _, fun x o h _ n => e.1 x o h n, fun x o h => e.1 x o (R.exB x o h) (R.bN x o h), fun _ h => .inl h, e.2, fun _ => t, id⟩
end Ml
set_option maxRecDepth 100000
set_option maxHeartbeats 2000000
namespace Ml
open PySem PySem.Spec PyProof.Rows L2 LamX
/-- a() in the def that got the lambda: what is wished of an exception hangs on the state there -/
theorem pe_actS {X : Cx} {pins : List (Addr × Obj)} {σ : L2.St} {H : Hp} {s : Shared} {Ng : List Str} {qg : Str} {sg : Scope} {g f cc : Addr} {cdg pm ct : Value} {ar : Arguments} {bd : Expr} {sc : Scope} {k : Nat} {a : Str} {pn : List (Addr × Obj)} {xe : Value → Shared → Prop} {W : WX} {tb : XK → TE} {p1 p2 : Pos}
    (I : Inv X pins σ H s) (S : LamS X.env.scope sc) (hf : s.heap.get? f = some (lamO X ar bd sc pm cc ct)) (hfn : H f = none) (hfr : f ∉ frs X.stack)
    (hbind : bindArgs (PySem.W.kla_fn "<lambda>" (X.env.qual ++ "<lambda>") ar bd sc (cloFrom X.env.cells sc.names []) pm (.ref cc) ct) ⟨[], []⟩ = pure [])
    (tk : Takes ((cxOf C8.CX0 X.prog X.w X.K X.mg X.base Ng qg sg g cdg X.A X.stack s H C8.E0).tr pn xe) W) (hr : Room (k + 1) (X.A.deeper (envOfC qg sg s.heap.objs.size g cdg)))
    (hbody : ∀ (A : Around) (outer : List PySem.Env) (s : Shared) (H : Hp) (E : XK), Room k (A.deeper (lamEnv X sc s.heap.objs.size f cc)) → PE (lamCx X A outer s H E sc f cc) bd (tb E))
    (hN : Ng[0]? = some a) (hv : Vis sg a) (hd : (a == ("__debug__" : Str)) = false := by decide) (hcd : (a == ("__classdict__" : Str)) = false := by decide) :
    PE ((cxOf C8.CX0 X.prog X.w X.K X.mg X.base Ng qg sg g cdg X.A X.stack s H C8.E0).tr pn xe) (.Call (.Name a p1) [] [] p2)
      (fun τ K Q => τ[0]? = some (some (.ref f)) ∧ K cc = some (CodeO cc (X.env.qual ++ "<lambda>")) ∧ tb (WE W τ) σ K Q) := by
  refine ⟨fun pz sz τ K Q J hyp => ?_⟩
  obtain ⟨at0, codeK, wish⟩ := hyp
  refine wpAny_Call_Name_kw (thn ((pe_var (pos := p1) (i := 0) hN hv hd hcd).run pz sz τ K (fun v K1 => v = .ref f ∧ K1 = K) J ⟨.ref f, at0, rfl, rfl⟩) fun u s1 hh => ?_)
  obtain ⟨v, K1, J1, rv, ev, eK⟩ := hh
  subst ev
  rw [eK] at J1
  obtain rfl : u = Value.ref f := rv
  have fo : s1.heap.get? f = some (lamO X ar bd sc pm cc ct) := J1.base.keep f _ hf hfn hfr (fun z => nomatch (show f ∈ ([] : List Addr) from z))
  refine PySem.W.callWith_F0 ⟨_, _, _, _, fo⟩ ?_
  have un : Un (frs X.stack) [] H K s.heap s1.heap := J1.base
  obtain ⟨⟨oc, fs, tok, o1, o2, o3⟩, _, _⟩ := J1.hok cc _ codeK
  let Z := envOfC qg sg s.heap.objs.size g cdg
  have run : codeAny (model X.prog X.w) (X.A.deeper Z) (.call (.ref f) ⟨[], []⟩) (CR (L2.CX X.prog X.w) (Z :: X.stack) X.prog X.w K s1 Q (WE W τ)) s1 := by
    refine PySem.W.kla_callFunE hr.depth fo rfl S.co S.gen rfl ⟨cc, oc, fs, tok, rfl, o1, o2, o3⟩ ?_
    rw [hbind]
    refine wpAny_pure (wpAny_newFunctionEnv (fun y hy => (S.own y hy).2) (fun y hy => absurd hy (by simp)) (fun h1 ns sb => ⟨J1.nolimit.fresh _ sb, ?_⟩) S.kind)
    show codeAny _ _ (.expr bd (lamEnv X sc s1.heap.objs.size f cc)) _ _
    have ext : ∀ b o, s1.heap.get? b = some o → h1.get? b = some o := fun b o e => sb.extBut b o (Nat.ne_of_lt (Heap.lt_size e)) (Heap.get?_push_of_some _ e)
    have start : Inv (lamCx X (X.A.deeper Z) (Z :: X.stack) s1 K (WE W τ) sc f cc) [] σ K { s1 with heap := h1, toks := s1.toks + ([] : List (Str × Value)).length } := lam_start2 I S J1.env0 hr.hd un ns ext
    refine PySem.W.kla_codeExpr (wpAny_mono ((hbody _ _ s1 K (WE W τ) (hr.deeper _)).run [] _ _ K Q start wish) (fun v s' hq => ?_) fun e s' hq => hq)
    obtain ⟨w', K', J', rv', q⟩ := hq
    exact ⟨w', K', J'.os, J'.bare, J'.base, J'.hok, rv', q⟩
  refine wpAny_call (codeAny_mono run fun r s' hq => ?_)
  cases r with
  | ok fl =>
    cases fl with
    | ret u => exact J1.after hq
    | next => exact False.elim hq
    | brk => exact False.elim hq
    | cont => exact False.elim hq
  | error e => exact passAt tk τ pz K s1 e s' J1 hq
def TlMono (tl : XK → Hp → VK → Prop) : Prop := ∀ (E E' : XK) (H : Hp) (Q Q' : VK), (∀ cls d H1, E cls d H1 → E' cls d H1) → (∀ v H1, Q v H1 → Q' v H1) → tl E H Q → tl E' H Q'
/-- a def that calls what it was handed -/
def GivesM (X : Cx) (Ng : List Str) (x : Str) (sg : Scope) (g : Addr) (cdg : Value) (bg : List Stmt) (a : Str) (q : Str) (TT : List V → (XK → Hp → VK → Prop) → Hp → VK → Prop) : Prop :=
  ∀ (f c' : Addr) (s : Shared) (H : Hp) (Q : VK) (vs : List V) (tl : XK → Hp → VK → Prop), TlMono tl →
    (∀ (W : WX) (pn : List (Addr × Obj)) (xe : Value → Shared → Prop) (p1 p2 : Pos), Takes ((cxOf C8.CX0 X.prog X.w X.K X.mg X.base Ng x sg g cdg X.A X.stack s H C8.E0).tr pn xe) W →
      PE ((cxOf C8.CX0 X.prog X.w X.K X.mg X.base Ng x sg g cdg X.A X.stack s H C8.E0).tr pn xe) (.Call (.Name a p1) [] [] p2) (fun σZ HZ Q => σZ[0]? = some (some (.ref f)) ∧ HZ c' = some (CodeO c' q) ∧ tl (WE W σZ) HZ Q)) →
    H c' = some (CodeO c' q) → TT vs tl H Q →
    ∃ t, PSs (cxOf C8.CX0 X.prog X.w X.K X.mg X.base Ng x sg g cdg X.A X.stack s H C8.E0).nox bg t ∧ t { nx := fun _ H' => Q .non H', rt := Q } (L2.start Ng (.ref f :: vs)) H
/-- x(lambda: body), x(lambda: body, 'text') -/
def tLamN (L : List (Addr × Str)) (TT : List V → (XK → Hp → VK → Prop) → Hp → VK → Prop) (vs : List V) (t : XK → TE) : TE := fun σ H Q => Tabs L H ∧ ∀ H1, ExtD H H1 → Tabs L H1 → TT vs (fun E H' Q' => t E σ H' Q') H1 Q
section
variable {X : Cx}
theorem pe_lam1 {L : List (Addr × Str)} {TT : List V → (XK → Hp → VK → Prop) → Hp → VK → Prop} {x a b : Str} {g c P : Addr} {k : Nat} {pg : Arguments} {bg : List Stmt} {sg : Scope} {dV kV doc pm cdv ct oc : Value} {an od : Option Addr} {osl : Array (Option Value)} {Ng : List Str}
    {ar : Arguments} {body : Expr} {scope : Scope} {t : XK → TE} {p lpos pos cp : Pos} {z : Str} {zj : Nat} (hg : Gl X x) (hm : X.mg x = some (.ref g)) (hk : PySem.W.keepIn X.K (.ref g) = true)
    (lk : X.K.lookup g = some ⟨oc, od, .func (PySem.W.fnOf x x pg bg sg dV kV doc pm an cdv ct), osl⟩) (hcg : PySem.W.codeIn X.K cdv x = true) (hb : L2.Binds X.K (PySem.W.fnOf x x pg bg sg dV kV doc pm an cdv ct) [a, b] []) (Sg : FnScope Ng [a, b] sg) (hNg : Ng[0]? = some a) (hva : Vis sg a)
    (hG : GivesM X Ng x sg g cdv bg a (X.env.qual ++ "<lambda>") TT) (hmono : ∀ σ, TlMono fun E H Q => t E σ H Q)
    (TB : TabB X.base X.mg c P) (hcode : X.env.code = .ref c) (hmT : (P, X.env.qual ++ "<lambda>") ∈ L) (hu : ∀ p ∈ L, p.1 = P → p.2 = X.env.qual ++ "<lambda>") (hr : Room (k + 2) X.A) (S : LamS X.env.scope scope) (hdef : defaultsOf ar X.env = ([], []))
    (hbind : ∀ (q : Str) (cl : List (Str × Addr)) (pm cv ctv : Value), bindArgs (PySem.W.kla_fn "<lambda>" q ar body scope cl pm cv ctv) ⟨[], []⟩ = pure [])
    (hbody : ∀ (A : Around) (outer : List PySem.Env) (s : Shared) (H : Hp) (E : XK) (f c' : Addr), Room k (A.deeper (lamEnv X scope s.heap.objs.size f c')) → PE (lamCx X A outer s H E scope f c') body (t E))
    (hdb : (x == ("__debug__" : Str)) = false := by decide) (hd : (a == ("__debug__" : Str)) = false := by decide) (hcd : (a == ("__classdict__" : Str)) = false := by decide) :
    PE X (.Call (.Name x p) [.Lambda ar body scope lpos, .Constant (.str z) zj cp] [] pos) (tLamN L TT [.str z] t) := by
  refine ⟨fun pins s σ H Q I h => ?_⟩
  obtain ⟨hT, h⟩ := h
  refine wpAny_Call_Name_kw (ld_glob I hg hm ?_ hdb)
  refine PySem.W.callWith_K (h₀ := X.base) I.ok.mod.kin hk ?_ (by rfl) (by rfl)
  show wpAny _ _ (spliced [(false, eval (.Lambda ar body scope lpos) X.env), (false, eval (.Constant (.str z) zj cp) X.env)]) _ _ s
  refine Calls.spliced_cons (lam_made I TB hcode hmT hu hT hdef (S.has I.ok) fun f c' pm' ctv H1 s1 I1 eN T1 hf hfn hfr hco => ?_)
  refine Calls.spliced_cons (Calls.Constant_str ?_)
  have I2 := I1.tok (s1.toks + 1)
  refine Calls.spliced_nil ⟨I2.kIn, ?_⟩
  have rz : Vals [V.ref f, V.str z] [Value.ref f, Value.str z s1.toks] := .cons rfl (.cons ⟨_, rfl⟩ .nil)
  have rc : codeAny (model X.prog X.w) X.A (.call (.ref g) ⟨[.ref f, .str z s1.toks], []⟩) (CR C8.CX0 X.stack X.prog X.w H1 { s1 with toks := s1.toks + 1 } Q C8.E0) { s1 with toks := s1.toks + 1 } := by
    refine run_ofS (N := Ng) (ps := [a, b]) (us := [.ref f, .str z s1.toks]) (vs := [.ref f, .str z]) lk hcg Sg hr I2.env0 (hb _ [.ref f, .str z s1.toks] I2.kIn rfl) rz rfl fun hr' => ?_
    obtain ⟨t1, ht1, hq1⟩ := hG f c' { s1 with toks := s1.toks + 1 } H1 Q [.str z] (fun E H' Q' => t E σ H' Q') (hmono σ) (fun W pn xe p1 p2 tk => pe_actS I2 S hf hfn hfr (hbind _ _ _ _ _) tk hr' (fun A outer s H E hr2 => hbody A outer s H E f c' hr2) hNg hva hd hcd) hco (h H1 eN T1)
    exact ⟨t1, ht1.nox, hq1⟩
  refine wpAny_call (codeAny_mono rc fun r s2 hq => ?_)
  cases r with
  | error e => exact (show False from hq).elim
  | ok fl =>
    cases fl with
    | ret u => exact I2.after hq
    | next => exact False.elim hq
    | brk => exact False.elim hq
    | cont => exact False.elim hq
end
end Ml
set_option maxRecDepth 100000
set_option maxHeartbeats 2000000
namespace Ml
open PySem PySem.Spec PyProof.Rows L2 LamX
/-! ### a def that calls what it was handed in a try -/
def Okw (T : Tab) (B H : Hp) (Q : VK) : D → Option D → Prop := fun r _ => ∀ v B2 H2, Stp T [] B H B2 H2 → Is T r v B2 → Q v H2
def noX : Nat → List D → Option D → Prop := fun _ _ _ => False
/-- hOk: what it answers where the call comes back; hEx: where an exception of class c with fields fs is let out -/
def TTm (T : Tab) (kf : Nat → Option Bool) (hOk : List D → OF) (hEx : Nat → List D → Addr → Addr → List D → OF) : List V → (XK → Hp → VK → Prop) → Hp → VK → Prop := fun vs tl H Q => ∃ ds,
  tl (fun cls d H1 => ∃ c fs dd B1, cls = .ref (T.adr c) ∧ d = some dd ∧ kf c = some true ∧ G0 T B1 H1 ∧ IsL T ds vs B1 ∧ IsX T c fs dd B1 ∧ ∀ a, H1 a = none → (hEx c fs a dd ds).wp (Okw T B1 H1 Q) noX) H
    fun _ H1 => ∃ B1, G0 T B1 H1 ∧ IsL T ds vs B1 ∧ (hOk ds).wp (Okw T B1 H1 Q) noX
def lamE (n : Nat) (ds : List D) : Env := .no :: (ds.map .im ++ List.replicate (n - ds.length - 1) .no)
def endOF : OS → OF
  | .rt d _ => .ok d none
  | .nx _ => .ok .non none
  | _ => .stuck
def endEx : OS → OF
  | .rt d _ => .ok d none
  | _ => .stuck
def tryOk (n : Nat) (restM : MS) : List D → OF := fun ds => if ds.length < n then endOF (restM (lamE n ds)) else .stuck
def tryEx (n i : Nat) (kf : Nat → Option Bool) (suiteM : Addr → Addr → Nat → MS) : Nat → List D → Addr → Addr → List D → OF := fun c fs a dd ds => if ds.length < n then match kf c with
  | some true => match putIm i (.xc c fs a dd) (lamE n ds) with
    | some env => endEx (suiteM a dd c env)
    | none => .stuck
  | _ => .stuck
  else .stuck
section
variable {T : Tab} {B H : Hp}
theorem rel_lam {N : List Str} {ds : List D} {vs : List V} {f : Addr} (g : G0 T B H) (i : IsL T ds vs B) (hn : ds.length < N.length) : Rel T (fr0 none [] B H) (lamE N.length ds) (L2.start N (.ref f :: vs)) B H := by
  have hl := i.length
  have hs : (lamE N.length ds).length = N.length := by
    unfold lamE
    rw [List.length_cons, List.length_append, List.length_map, List.length_replicate]; omega
  have hσ : (L2.start N (V.ref f :: vs)).length = N.length := by
    unfold L2.start
    rw [List.length_append, List.length_map, List.length_replicate, List.length_cons]; omega
  have at_ : ∀ (j : Nat) (sl : Sl), (lamE N.length ds)[j]? = some sl → sl = .no ∨ ∃ d v, sl = .im d ∧ (L2.start N (V.ref f :: vs))[j]? = some (some v) ∧ Is T d v B := fun j sl q => by
    unfold lamE at q
    cases j with
    | zero => left; simpa using q.symm
    | succ j =>
      rw [List.getElem?_cons_succ] at q
      by_cases hj : j < ds.length
      · rw [List.getElem?_append_left (by rw [List.length_map]; exact hj), List.getElem?_map] at q
        obtain ⟨d, hd, rfl⟩ := Option.map_eq_some_iff.mp q
        obtain ⟨v, hv, iv⟩ := i.get hd
        refine .inr ⟨d, v, rfl, ?_, iv⟩
        unfold L2.start
        rw [List.getElem?_append_left (by rw [List.length_map, List.length_cons]; omega), List.getElem?_map, List.getElem?_cons_succ, hv]; rfl
      · rw [List.getElem?_append_right (by rw [List.length_map]; omega)] at q
        exact .inl (List.eq_of_mem_replicate (List.mem_of_getElem? q))
  refine ⟨hs.trans hσ.symm, g.1, g.2.1, g.2.2, Evl.Ex.refl _, fun _ _ _ q _ => q, fun _ q => q, fun _ q => .inl q, fun j sl q => ?_, fun j k sj sk a ej ek oj ok cj ck => ?_⟩
  · rcases at_ j sl q with rfl | ⟨d, v, rfl, h1, h2⟩
    · trivial
    · exact ⟨v, h1, h2⟩
  · rcases at_ j sj ej with rfl | ⟨d, v, rfl, _⟩ <;> cases oj
end
section
variable {X : Cx} {T : Tab} {Ng : List Str} {x a ec n q : Str} {sg : Scope} {g CS : Addr} {cdg : Value} {b0 : Stmt} {suite rest : List Stmt} {p1 p2 p3 np hp tp : Pos} {i : Nat} {kf : Nat → Option Bool} {suiteM : Addr → Addr → Nat → MS} {restM : MS}
theorem gives_try (hN : Ng.Nodup) (hi : Ng[i]? = some n) (hln : ∀ (s : Shared) (H : Hp), (cxOf C8.CX0 X.prog X.w X.K X.mg X.base Ng x sg g cdg X.A X.stack s H C8.E0).env.kindOf n = some .local) (hec : ∀ (s : Shared) (H : Hp), Names (cxOf C8.CX0 X.prog X.w X.K X.mg X.base Ng x sg g cdg X.A X.stack s H C8.E0).nox ec (.ref CS))
    (hkf : ∀ c b, kf c = some b → PySem.W.exmOne X.K (.ref (T.adr c)) (.ref CS) = some b)
    (hrest : ∀ (s : Shared) (H : Hp), TrB (cxOf C8.CX0 X.prog X.w X.K X.mg X.base Ng x sg g cdg X.A X.stack s H C8.E0).nox T rest restM)
    (hsuite : ∀ (s : Shared) (H : Hp) (a : Addr) (oe : Obj) (c : Nat) (dd : Addr) (pn : List (Addr × Obj)), kf c = some true → Zc (.ref (T.adr c)) (some dd) oe → (∃ vs, oe.data = .fields vs) → TrB ((cxOf C8.CX0 X.prog X.w X.K X.mg X.base Ng x sg g cdg X.A X.stack s H C8.E0).nox.suite a ((a, oe) :: pn)) T (b0 :: suite) (suiteM a dd c))
    :
    GivesM X Ng x sg g cdg (.Try [.Expr (.Call (.Name a p1) [] [] p2) p3] [.ExceptHandler (some (.Name ec np)) (some n) (b0 :: suite) hp] [] [] tp :: rest) a q (TTm T kf (tryOk Ng.length restM) (tryEx Ng.length i kf suiteM)) := by
  intro f c' s H Q vs tl mono act hco hTT
  let Z := (cxOf C8.CX0 X.prog X.w X.K X.mg X.base Ng x sg g cdg X.A X.stack s H C8.E0).nox
  have letsZ : Lets Z (fun _ _ _ => False) := .of LamX.takes0 PassesOwn.never
  have hR : PSs Z rest (fun D σ H => ∃ F, tOfS T F (fun _ _ _ => False) restM D σ H) := ⟨fun pins s1 σ H1 D I ⟨F, h⟩ => (hrest s H F _ letsZ).run pins s1 σ H1 D I h⟩
  have hS : ∀ (a : Addr) (oe : Obj) (cls : Value) (d : Option Addr) (pn : List (Addr × Obj)), Zc cls d oe → (∃ vs, oe.data = .fields vs) → PSs (Z.suite a ((a, oe) :: pn)) (b0 :: suite) (fun D σ H => ∃ (c : Nat) (dd : Addr) (F : Fr0), cls = .ref (T.adr c) ∧ d = some dd ∧ kf c = some true ∧ tOfS T F (fun _ _ _ => False) (suiteM a dd c) D σ H) :=
    fun a oe cls d pn hz hf => ⟨fun pins s1 σ H1 D I hh => by
      obtain ⟨c, dd, F, e1, e2, hk, h⟩ := hh
      subst e1 e2
      exact (hsuite s H a oe c dd pn hk hz hf F _ (.of LamX.takes0 PassesOwn.never)).run pins s1 σ H1 D I h⟩
  refine ⟨_, pss_cons (ps_try_as (X := Z) (c := .ref CS) (i := i) (tb := fun W D σ H => σ[0]? = some (some (.ref f)) ∧ H c' = some (CodeO c' q) ∧ tl (WE W σ) H (fun _ H1 => D.nx σ H1))
    rfl rfl hN hi (hln s H) (hec s H) LamX.takes0 (fun W pn xe tk _ => pss_imp (pss_one (ps_expr (act W pn xe p1 p2 tk))) fun D σ H h => by unfold tDrop; exact h) hS) hR, ?_⟩
  obtain ⟨ds, h⟩ := hTT
  have h0 : (L2.start Ng (V.ref f :: vs))[0]? = some (some (V.ref f)) := rfl
  refine ⟨h0, hco, mono _ _ H _ _ (fun cls d H1 hh => ?_) (fun v H1 hh => ?_) h⟩
  · obtain ⟨c, fs, dd, B1, e1, e2, hk, g0, is, ix, w⟩ := hh
    · refine ⟨true, by rw [e1]; exact hkf c true hk, fun hb a ha => ?_, fun hb => (by cases hb)⟩
      · have w1 := w a ha
        unfold tryEx at w1
        split at w1
        · rename_i hlen
          rw [hk] at w1
          simp only at w1
          split at w1
          · rename_i env he
            have R := rel_lam (f := f) g0 is hlen
            obtain ⟨n1, n2, rfl⟩ := putIm_ok he
            have isx : Is T (.xc c fs a dd) (V.ref a) B1 := is_xc.mpr ⟨rfl, ix⟩
            have R2 := R.set isx n1 n2
            refine ⟨c, dd, _, e1, e2, hk, _, B1, R2, ?_⟩
            cases hm : suiteM a dd c ((lamE Ng.length ds).set i (.im (.xc c fs a dd))) with
            | rt d e =>
              rw [hm] at w1
              intro v σ' B2 H2 R3 e3 iv
              exact w1 v B2 H2 R3.stp iv
            | nx e => rw [hm] at w1; exact w1.elim
            | rn d e => rw [hm] at w1; exact w1.elim
            | bk e => rw [hm] at w1; exact w1.elim
            | ct e => rw [hm] at w1; exact w1.elim
            | ex c fs e => rw [hm] at w1; exact w1.elim
            | stuck => rw [hm] at w1; exact w1.elim
          · exact w1.elim
        · exact w1.elim
  · obtain ⟨B1, g0, is, w⟩ := hh
    unfold tryOk at w
    split at w
    · rename_i hlen
      have R := rel_lam (f := f) g0 is hlen
      refine ⟨_, _, B1, R, ?_⟩
      cases hm : restM (lamE Ng.length ds) with
      | rt d e =>
        rw [hm] at w
        intro v σ' B2 H2 R3 e3 iv
        exact w v B2 H2 R3.stp iv
      | nx e =>
        rw [hm] at w
        intro σ' B2 H2 R3 e3
        exact w .non B2 H2 R3.stp (is_non.mpr rfl)
      | rn d e => rw [hm] at w; exact w.elim
      | bk e => rw [hm] at w; exact w.elim
      | ct e => rw [hm] at w; exact w.elim
      | ex c fs e => rw [hm] at w; exact w.elim
      | stuck => rw [hm] at w; exact w.elim
    · exact w.elim
end
end Ml
namespace Ml
open PySem PySem.Spec PyProof.Rows L2 LamX
def okOut : OF → Env → Out D
  | .ok d _, env => .ok d env
  | _, _ => .stuck
/-- x(lambda: body, 'text') -/
def mLam1 (kf : Nat → Option Bool) (hOk : List D → OF) (hEx : Nat → List D → Addr → Addr → List D → OF) (mb : ME) (z : Str) : ME := fun env => match mb env with
  | .ok _ env2 => okOut (hOk [.str z]) env2
  | .ex c fs env2 => if kf c = some true then okOut (hEx c fs 0 0 [.str z]) env2 else .stuck
  | .stuck => .stuck
section
variable {X : Cx} {T : Tab}
theorem tl_mono {F : Fr0} {mb : ME} (σ : L2.St) : TlMono fun E H Q => tOf T F E mb σ H Q := fun E E' H Q Q' hE hQ h => by
  obtain ⟨env, B, R, q⟩ := h
  exact ⟨env, B, R, Out.wp_mono q (fun d env1 z v B1 H1 R1 e1 i => hQ _ _ (z v B1 H1 R1 e1 i)) fun c fs env1 z dd B1 H1 R1 e1 i => hE _ _ _ (z dd B1 H1 R1 e1 i)⟩
theorem okOut_wp {r : OF} {env : Env} {φ : D → Env → Prop} {ψ : Nat → List D → Env → Prop} (h : (okOut r env).wp φ ψ) : ∃ d o, r = .ok d o ∧ φ d env := by
  cases r with
  | ok d o => exact ⟨d, o, rfl, h⟩
  | ex c fs o => exact h.elim
  | stuck => exact h.elim
theorem trE_lam1 {kf : Nat → Option Bool} {hOk : List D → OF} {hEx : Nat → List D → Addr → Addr → List D → OF} {mb : ME} {x a b : Str} {g c P : Addr} {k : Nat} {pg : Arguments} {bg : List Stmt} {sg : Scope} {dV kV doc pm cdv ct oc : Value} {an od : Option Addr} {osl : Array (Option Value)} {Ng : List Str}
    {ar : Arguments} {body : Expr} {scope : Scope} {p lpos pos cp : Pos} {z : Str} {zj : Nat} (hg : Gl X x) (hm : X.mg x = some (.ref g)) (hk : PySem.W.keepIn X.K (.ref g) = true)
    (lk : X.K.lookup g = some ⟨oc, od, .func (PySem.W.fnOf x x pg bg sg dV kV doc pm an cdv ct), osl⟩) (hcg : PySem.W.codeIn X.K cdv x = true) (hb : L2.Binds X.K (PySem.W.fnOf x x pg bg sg dV kV doc pm an cdv ct) [a, b] []) (Sg : FnScope Ng [a, b] sg) (hNg : Ng[0]? = some a) (hva : Vis sg a)
    (hG : GivesM X Ng x sg g cdv bg a (X.env.qual ++ "<lambda>") (TTm T kf hOk hEx)) (hind : ∀ c fs a dd ds, hEx c fs a dd ds = hEx c fs 0 0 ds)
    (TB : TabB X.base X.mg c P) (hcode : X.env.code = .ref c) (hmT : (P, X.env.qual ++ "<lambda>") ∈ T.tabs) (hu : ∀ p ∈ T.tabs, p.1 = P → p.2 = X.env.qual ++ "<lambda>") (hr : Room (k + 2) X.A) (S : LamS X.env.scope scope) (hdef : defaultsOf ar X.env = ([], []))
    (hbind : ∀ (q : Str) (cl : List (Str × Addr)) (pm cv ctv : Value), bindArgs (PySem.W.kla_fn "<lambda>" q ar body scope cl pm cv ctv) ⟨[], []⟩ = pure [])
    (hbody : ∀ (A : Around) (outer : List PySem.Env) (s : Shared) (H : Hp) (E : XK) (f c' : Addr), Room k (A.deeper (lamEnv X scope s.heap.objs.size f c')) → TrE (lamCx X A outer s H E scope f c') T body mb)
    (hdb : (x == ("__debug__" : Str)) = false := by decide) (hd : (a == ("__debug__" : Str)) = false := by decide) (hcd : (a == ("__classdict__" : Str)) = false := by decide) :
    TrE X T (.Call (.Name x p) [.Lambda ar body scope lpos, .Constant (.str z) zj cp] [] pos) (mLam1 kf hOk hEx mb z) := fun F W tk =>
  pe_imp (pe_lam1 (t := fun E => tOf T F E mb) hg hm hk lk hcg hb Sg hNg hva hG (fun σ => tl_mono σ) TB hcode hmT hu hr S hdef hbind (fun A outer s H E f c' hr' => hbody A outer s H E f c' hr' F E (.of (takes_of rfl rfl rfl rfl) (passes_of rfl))) hdb hd hcd) fun σ H Q ⟨env, B, R, q⟩ => ⟨R.tb, fun H1 e1 t1 => by
    have R1 := R.extD e1 t1
    have lz : ∀ B, IsL T [.str z] [V.str z] B := fun B => .cons (is_str.mpr rfl) .nil
    refine ⟨[.str z], env, B, R1, ?_⟩
    unfold mLam1 at q
    cases hm : mb env with
    | ok d env2 =>
      rw [hm] at q
      obtain ⟨r, o, hr, q⟩ := okOut_wp q
      intro v B2 H2 R2 e2 i
      refine ⟨B2, R2.g0, lz B2, ?_⟩
      rw [hr]
      exact fun v3 B3 H3 s i3 => q v3 B3 H3 (R2.step s) (e2.trans s.b) i3
    | ex c fs env2 =>
      rw [hm] at q
      simp only at q
      split at q
      · rename_i hkf
        obtain ⟨r, o, hr, q⟩ := okOut_wp q
        intro dd B2 H2 R2 e2 ix
        refine ⟨c, fs, dd, B2, rfl, rfl, hkf, R2.g0, lz B2, ix, fun a ha => ?_⟩
        rw [hind, hr]
        exact fun v3 B3 H3 s i3 => q v3 B3 H3 (R2.step s) (e2.trans s.b) i3
      · exact q.elim
    | stuck => rw [hm] at q; exact q.elim⟩
end
end Ml
set_option maxRecDepth 100000
set_option maxHeartbeats 2000000
namespace Ml
open PySem PySem.Spec PyProof.Rows L2
/-! ### the field of a caught exception -/
def fXf (a dd : Addr) (cl : Nat) (g : Nat → Option Nat) : D → Option D
  | .xc c fs a' d' => if a' = a ∧ d' = dd ∧ c = cl then (g c).bind (fs[·]?) else none
  | _ => none
section
variable {X : Cx} {T : Tab} {e e1 e2 e3 o : Expr} {es : List Expr} {pos p apos : Pos} {x nm : Str} {sts : List Stmt}
theorem trE_xf {a dd : Addr} {oe : Obj} {cl : Nat} {g : Nat → Option Nat} {pn : List (Addr × Obj)} {mp : ME} (hX : XfC X.K (T.adr cl)) (hno : PySem.W.findIn X.K (.ref (T.adr cl)) nm = some none) (hz : Zc (.ref (T.adr cl)) (some dd) oe) (hf : ∃ vs, oe.data = .fields vs)
    (hg : ∀ c i, g c = some i → (T.fld c)[i]? = some nm) (h : TrE (X.suite a ((a, oe) :: pn)) T e mp) (hb : attributeBase e nm X.env (eval e X.env) = eval e X.env := by rfl) :
    TrE (X.suite a ((a, oe) :: pn)) T (.Attribute e nm pos) (op1 (fXf a dd cl g) (mP mp)) := fun F W tk =>
  pe_imp (pe_xf hX hno hz hf (h F W tk) hb) fun σ H Q ⟨env, B, R, q⟩ => ⟨env, B, R, by
    have q2 := Out.wp_bind.mp q
    have q3 := Out.wp_bind.mp q2
    refine Out.wp_mono q3 (fun d env1 z v B1 H1 R1 e1 i => ?_) fun _ _ _ z => z
    obtain ⟨r, hr, z2⟩ := ofO_wp z
    obtain ⟨d0, h0, hr⟩ := Option.bind_eq_some_iff.mp hr
    cases h0
    unfold fXf at hr
    split at hr
    · rename_i c fs a' d'
      split at hr
      · rename_i hc
        obtain ⟨rfl, rfl, rfl⟩ := hc
        obtain ⟨k, hk, hr⟩ := Option.bind_eq_some_iff.mp hr
        obtain ⟨rfl, ws, vs, h1, h2, h3, h4⟩ := is_xc.mp i
        obtain ⟨w, hw, iw⟩ := h4.get hr
        exact ⟨rfl, rfl, _, ws, w, rfl, R1.exB _ _ h1, h3 k nm w (hg _ _ hk) hw, z2 w B1 H1 R1 e1 iw⟩
      · cases hr
    · cases hr⟩
/-! ### division by any divisor -/
def CDivA (_ j : Int) : Prop := j ≠ 0 ∧ j.natAbs.log2 < 9000
theorem op_fdivA : OpR X (binaryOp .FloorDiv) (rI CDivA fun i j => .int (i.fdiv j)) := opI fun _ _ _ _ _ _ _ hc q => floordiv_int hc.1 q (.inl (PyProof.noPylong_of_log2 hc.2))
abbrev fDivA := fI (fun _ j => decide (j ≠ 0) && decide (j.natAbs.log2 < 9000)) fun i j => .int (i.fdiv j)
theorem ok_divA : Ok2 T fDivA (rI CDivA fun i j => .int (i.fdiv j)) := ok2_I (fun _ _ h => by
  obtain ⟨a, b⟩ := Bool.and_eq_true_iff.mp h
  exact ⟨of_decide_eq_true a, of_decide_eq_true b⟩) fun _ _ _ => is_int.mpr rfl
/-! ### texts: +, join, split, f'..' -/
theorem ok_addS : Ok2 T fAddS (fun x y H Q => ∃ i j, x = .str i ∧ y = .str j ∧ i.length + j.length ≤ sizeLine ∧ Q (.str (i ++ j)) H) := fun a b d x y B H Q e ta tb hf q => by
  unfold fAddS at hf
  split at hf
  · split at hf
    · rename_i c
      cases hf
      exact ⟨_, _, top_str ta, top_str tb, c, q _ B H (Stp.refl e) (is_str.mpr rfl)⟩
    · cases hf
  · cases hf
def strsD : List D → Option (List Str)
  | [] => some []
  | .str s :: ds => (strsD ds).map (s :: ·)
  | _ => none
theorem strsD_ok {H : Hp} : ∀ {ds : List D} {ns : List Str} {vs : List V}, strsD ds = some ns → IsL T ds vs H → vs = ns.map V.str
  | [], ns, vs, h, i => by unfold strsD at h; cases h; exact isL_nil.mp i
  | d :: ds, ns, vs, h, i => by
    cases d with
    | str k =>
      unfold strsD at h
      obtain ⟨r, hr, rfl⟩ := Option.map_eq_some_iff.mp h
      obtain ⟨v, w, rfl, h1, h2⟩ := isL_cons.mp i
      rw [is_str.mp h1, strsD_ok hr h2]; rfl
    | _ => simp [strsD] at h
def fJoin : D → D → Option D := fun a b => match a with
  | .str s => match b with
    | .lst ds => (strsD ds).bind fun ys => if (ys.map (·.length)).sum + ys.length * s.length ≤ 16777216 then some (.str (Txt.join s ys)) else none
    | .tup ds => (strsD ds).bind fun ys => if (ys.map (·.length)).sum + ys.length * s.length ≤ 16777216 then some (.str (Txt.join s ys)) else none
    | _ => none
  | _ => none
def isStrD : D → Bool
  | .str _ => true
  | _ => false
def mJoin (m1 m2 : ME) : ME := fun env => (m1 env).bind fun a env1 => if isStrD a then (m2 env1).bind fun b env2 => ofO (fJoin a b) env2 else .stuck
theorem trE_join {m1 m2 : ME} (hK : X.K = T.K) (h1 : TrE X T o m1) (h2 : TrE X T e m2) (hs : starEach [e] X.env = [(false, eval e X.env)] := by rfl) (hbase : attributeBase o "join" X.env (eval o X.env) = eval o X.env := by rfl) (hline : (apos.endLine == pos.line) = true := by rfl) :
    TrE X T (.Call (.Attribute o "join" apos) [e] [] pos) (mJoin m1 m2) := fun F W tk =>
  pe_imp (pe_join (h1 F W tk) (h2 F W tk) hs hbase hline) fun σ H Q ⟨env, B, R, q⟩ => ⟨env, B, R, Out.wp_mono (Out.wp_bind.mp q) (fun a env1 z v B1 H1 R1 e1 i => by
    split at z
    · rename_i hs
      cases a with
      | str s =>
        cases is_str.mp i
        refine ⟨⟨s, rfl⟩, env1, B1, R1, Out.wp_mono (Out.wp_bind.mp z) (fun b env2 z v2 B2 H2 R2 e2 i2 => ?_) fun _ _ _ x => x.mono e1⟩
        obtain ⟨r, hr, z⟩ := ofO_wp z
        unfold fJoin at hr
        cases b with
        | lst ds =>
          obtain ⟨ys, hy, hr⟩ := Option.bind_eq_some_iff.mp hr
          split at hr
          · rename_i c
            cases hr
            obtain ⟨ad, xs, rfl, g1, g2⟩ := is_lst.mp i2
            have := strsD_ok hy g2
            subst this
            rw [hK]
            exact ⟨s, ad, ys, rfl, rfl, .inl (.inl (rdX R2.exB g1)), c, z _ B2 H2 R2 (e1.trans e2) (is_str.mpr rfl)⟩
          · cases hr
        | tup ds =>
          obtain ⟨ys, hy, hr⟩ := Option.bind_eq_some_iff.mp hr
          split at hr
          · rename_i c
            cases hr
            obtain ⟨ad, xs, rfl, g1, g2⟩ := is_tup.mp i2
            have := strsD_ok hy g2
            subst this
            rw [hK]
            exact ⟨s, ad, ys, rfl, rfl, .inr (SqT.of (R2.exB _ _ g1)), c, z _ B2 H2 R2 (e1.trans e2) (is_str.mpr rfl)⟩
          · cases hr
        | _ => cases hr
      | _ => cases hs
    · exact z.elim) fun _ _ _ z => z⟩
def fSplit : D → D → Option D := fun a b => match a with
  | .str s => match b with
    | .str t => if (t.length == 0) = false ∧ s.length + 2 ≤ sizeLine then some (.lst ((Txt.split s t).map .str)) else none
    | _ => none
  | _ => none
def mSplit (m1 m2 : ME) : ME := fun env => (m1 env).bind fun a env1 => if isStrD a then (m2 env1).bind fun b env2 => ofO (fSplit a b) env2 else .stuck
theorem isL_strs {H : Hp} : ∀ ys : List Str, IsL T (ys.map D.str) (ys.map V.str) H
  | [] => .nil
  | y :: ys => .cons (is_str.mpr rfl) (isL_strs ys)
theorem trN_split {m1 m2 : ME} (h1 : TrE X T o m1) (h2 : TrE X T e m2) (hs : starEach [e] X.env = [(false, eval e X.env)] := by rfl) (hbase : attributeBase o "split" X.env (eval o X.env) = eval o X.env := by rfl) (hline : (apos.endLine == pos.line) = true := by rfl) :
    TrN X T (.Call (.Attribute o "split" apos) [e] [] pos) (mSplit m1 m2) := fun F W tk =>
  pe_imp (pe_split (h1 F W tk) (h2 F W tk) hs hbase hline) fun σ H Q ⟨env, B, R, q⟩ => ⟨env, B, R, Out.wp_mono (Out.wp_bind.mp q) (fun a env1 z v B1 H1 R1 e1 i => by
    split at z
    · rename_i hs
      cases a with
      | str s =>
        cases is_str.mp i
        refine ⟨⟨s, rfl⟩, env1, B1, R1, Out.wp_mono (Out.wp_bind.mp z) (fun b env2 z v2 B2 H2 R2 e2 i2 => ?_) fun _ _ _ x => x.mono e1⟩
        obtain ⟨r, hr, z⟩ := ofO_wp z
        unfold fSplit at hr
        cases b with
        | str t =>
          simp only at hr
          split at hr
          · rename_i c
            cases hr
            refine ⟨s, t, rfl, by rw [is_str.mp i2], c.1, c.2, fun p hp => ?_⟩
            have st := Stp.junk (T := T) (o := HO.lst ((Txt.split s t).map V.str)) R2.exB hp
            exact z p _ _ (R2.step st) (e1.trans e2) (ex_none R2.exB hp) (R2.freeF hp) (R2.notIn hp) ⟨_, upd_same, isL_strs _⟩
          · cases hr
        | _ => cases hr
      | _ => cases hs
    · exact z.elim) fun _ _ _ z => z⟩
/-- one part of an f-text: a text, an int -/
def fFmt : D → Option D
  | .str s => if s.length ≤ sizeLine then some (.str s) else none
  | .int i => if i.natAbs.log2 < 1920 then some (.str (toString i)) else none
  | _ => none
theorem trE_fmt {mp : MP} (h : TrP X T e mp) : TrE X T (.FormattedValue e (-1) none pos) (op1 fFmt mp) := fun F W tk => pe_imp (pe_fmt (h F W tk)) fun σ H Q q => by
  refine tOf_op1 (r := fun x H1 Q => (∃ y : Str, x = .str y ∧ y.length ≤ sizeLine ∧ Q (.str y) H1) ∨ ∃ i : Int, x = .int i ∧ i.natAbs.log2 < 1920 ∧ Q (.str (toString i)) H1) (fun a d x B H Q e ta hf q => ?_) q
  unfold fFmt at hf
  split at hf
  · split at hf
    · rename_i c; cases hf; exact .inl ⟨_, top_str ta, c, q _ B H (Stp.refl e) (is_str.mpr rfl)⟩
    · cases hf
  · split at hf
    · rename_i c; cases hf; exact .inr ⟨_, top_int ta, c, q _ B H (Stp.refl e) (is_str.mpr rfl)⟩
    · cases hf
  · cases hf
inductive TrJ (X : Cx) (T : Tab) : List Expr → List ME → Prop
  | nil : TrJ X T [] []
  | cons {e : Expr} {m : ME} {es : List Expr} {ms : List ME} (h : TrE X T e m) (r : TrJ X T es ms) : TrJ X T (e :: es) (m :: ms)
def fJs : List ME → Str → ME
  | [], acc => fun env => .ok (.str acc) env
  | m :: ms, acc => fun env => (m env).bind fun d env1 => match d with
    | .str y => if (acc ++ y).length ≤ sizeLine then fJs ms (acc ++ y) env1 else .stuck
    | _ => .stuck
theorem trj_pj {F : Fr0} {W : XK} {ms : List ME} (tk : Lets X W) (h : TrJ X T es ms) : PJ X es (ms.map (tOf T F W)) := by
  induction h with
  | nil => exact .nil
  | cons h _ ih => exact .cons (h F W tk) ih
theorem js_wp {F : Fr0} {W : XK} {σ : L2.St} {Q : VK} {B0 : Hp} : ∀ {ms : List ME} {acc : Str} {env : Env} {B H : Hp}, Rel T F env σ B H → Ex B0 B → (fJs ms acc env).wp (fun d env' => ∀ v B' H', Rel T F env' σ B' H' → Ex B0 B' → Is T d v B' → Q v H') (exPs T F W B0 σ) → tJs (ms.map (tOf T F W)) acc σ H fun out H1 => Q (.str out) H1
  | [], acc, env, B, H, R, e, q => q (.str acc) B H R e (is_str.mpr rfl)
  | m :: ms, acc, env, B, H, R, e, q => by
    unfold fJs at q
    refine ⟨env, B, R, Out.wp_mono (Out.wp_bind.mp q) (fun d env1 z v B1 H1 R1 e1 i => ?_) fun _ _ _ x => x.mono e⟩
    cases d with
    | str y =>
      simp only at z
      split at z
      · rename_i c
        exact ⟨y, is_str.mp i, c, js_wp R1 (e.trans e1) z⟩
      · exact z.elim
    | _ => exact z.elim
theorem trE_joined {ms : List ME} (h : TrJ X T (e1 :: e2 :: es) ms) : TrE X T (.JoinedStr (e1 :: e2 :: es) pos) (fJs ms Str.empty) := fun F W tk =>
  pe_imp (pe_joined (trj_pj tk h)) fun σ H Q ⟨env, B, R, q⟩ => js_wp R (Evl.Ex.refl _) q
/-! ### a < b < c -/
def mChain (f g : D → D → Option D) (m1 m2 m3 : ME) : ME := fun env => (m1 env).bind fun a env1 => (m2 env1).bind fun b env2 => (ofO (f a b) env2).bind fun d env3 => match d with
  | .bl true => (m3 env3).bind fun c env4 => ofO (g b c) env4
  | .bl false => .ok (.bl false) env3
  | _ => .stuck
theorem tOf_chain {F : Fr0} {W : XK} {σ : L2.St} {H : Hp} {Q : VK} {f g : D → D → Option D} {r s : R2} {m1 m2 m3 : ME} (hr : Ok2 T f r) (hs : Ok2 T g s) (h : tOf T F W (mChain f g m1 m2 m3) σ H Q) : tChain r s (tOf T F W m1) (tOf T F W m2) (tOf T F W m3) σ H Q := by
  obtain ⟨env, B, R, q⟩ := h
  refine ⟨env, B, R, Out.wp_mono (Out.wp_bind.mp q) (fun a env1 z v1 B1 H1 R1 e1 i1 => ?_) fun _ _ _ z => z⟩
  refine ⟨env1, B1, R1, Out.wp_mono (Out.wp_bind.mp z) (fun b env2 z v2 B2 H2 R2 e2 i2 => ?_) fun _ _ _ z => z.mono e1⟩
  obtain ⟨d, hd, z⟩ := ofO_wp (Out.wp_bind.mp z)
  refine hr a b d v1 v2 B2 H2 _ R2.exB (.inl (i1.mono e2)) (.inl i2) hd fun v3 B3 H3 st i3 => ?_
  have R3 := R2.step st
  cases d with
  | bl k =>
    refine ⟨k, is_bl.mp i3, ?_⟩
    cases k with
    | true =>
      rw [if_pos rfl]
      refine ⟨env2, B3, R3, Out.wp_mono (Out.wp_bind.mp z) (fun c env4 z v4 B4 H4 R4 e4 i4 => ?_) fun _ _ _ z => z.mono ((e1.trans e2).trans st.b)⟩
      obtain ⟨d2, hd2, z⟩ := ofO_wp z
      exact hs b c d2 v2 v4 B4 H4 Q R4.exB (.inl (i2.mono (st.b.trans e4))) (.inl i4) hd2 fun v5 B5 H5 st5 i5 => z v5 B5 H5 (R4.step st5) ((((e1.trans e2).trans st.b).trans e4).trans st5.b) i5
    | false =>
      rw [if_neg Bool.false_ne_true]
      exact z _ B3 H3 R3 ((e1.trans e2).trans st.b) (is_bl.mpr rfl)
  | _ => exact z.elim
theorem trE_chain {op op' : CmpOp} {f g : D → D → Option D} {r s : R2} {m1 m2 m3 : ME} (ho : OpR X (compareOp op) r) (ho' : OpR X (compareOp op') s) (hr : Ok2 T f r) (hs : Ok2 T g s) (h1 : TrE X T e1 m1) (h2 : TrE X T e2 m2) (h3 : TrE X T e3 m3)
    (hm : lastMarks [op, op'] [e2, e3] = false := by with_unfolding_all rfl) : TrE X T (.Compare e1 [op, op'] [e2, e3] pos) (mChain f g m1 m2 m3) := fun F W tk => pe_imp (pe_chain ho ho' (h1 F W tk) (h2 F W tk) (h3 F W tk) hm) fun σ H Q q => tOf_chain hr hs q
theorem trT_chain {op op' : CmpOp} {f g : D → D → Option D} {r s : R2} {m1 m2 m3 : ME} (ho : OpR X (compareOp op) r) (ho' : OpR X (compareOp op') s) (hr : Ok2 T f r) (hs : Ok2 T g s) (h1 : TrE X T e1 m1) (h2 : TrE X T e2 m2) (h3 : TrE X T e3 m3)
    (hm : lastMarks [op, op'] [e2, e3] = false := by with_unfolding_all rfl) : TrT X T (.Compare e1 [op, op'] [e2, e3] pos) (tB1 (mChain f g m1 m2 m3)) := fun F W tk => pt_imp (pt_chain ho ho' (h1 F W tk) (h2 F W tk) (h3 F W tk) hm) fun σ H Q ⟨env, B, R, q⟩ => tOf_chain (Q := fun x H' => ∃ k, x = .bl k ∧ Q k H') hr hs ⟨env, B, R, Out.wp_mono (Out.wp_bind.mp q) (fun d env1 z v B1 H1 R1 e1 i => by
    cases d with
    | bl b => exact ⟨b, is_bl.mp i, z B1 H1 R1 e1⟩
    | _ => exact z.elim) fun _ _ _ z => z⟩
/-! ### x, y = a, b -/
def putL : List Nat → List D → Env → Option Env
  | [], [], env => some env
  | i :: is, d :: ds, env => (putIm i d env).bind (putL is ds)
  | _, _, _ => none
def sPar (is : List Nat) (ma : MA) : MS := fun env => (ma env).bindS fun ds env1 => ofE (putL is ds env1)
theorem trS_par2 {i j : Nat} {x y : Str} {ma : MA} {px py pt : Pos} {kt k2 : Nat} {pt2 : Pos} (hc : X.calm = true) (hN : X.N.Nodup) (ha : TrA X T [e1, e2] ma)
    (hw : swappedStores [.Tuple [.Name x px, .Name y py] kt pt] (.Tuple [e1, e2] k2 pt2) X.env = pure (some [x, y])) (hi : X.N[i]? = some x := by rfl) (hj : X.N[j]? = some y := by rfl) (hij : i ≠ j := by decide)
    (hx : X.env.scope.names.lookup x = some .local := by rfl) (hy : X.env.scope.names.lookup y = some .local := by rfl) (hs : swapsWithSole [.Tuple [.Name x px, .Name y py] kt pt] (.Tuple [e1, e2] k2 pt2) pos.line X.env = pure false := by rfl) :
    TrS X T (.Assign [.Tuple [.Name x px, .Name y py] kt pt] (.Tuple [e1, e2] k2 pt2) pos) (sPar [i, j] ma) := fun F W tk =>
  ps_imp (ps_par hc hN hi hj hij hx hy (ha F W tk) hw hs) fun D σ H ⟨env, B, R, q⟩ => ⟨env, B, R, Out.wp_mono (Out.wp_bindS.mp q) (fun ds env1 z vs B1 H1 R1 e1 is => by
    obtain ⟨env2, h2, z⟩ := ofE_wp z
    cases ds with
    | nil => cases h2
    | cons d1 ds =>
      obtain ⟨env3, h3, h2⟩ := Option.bind_eq_some_iff.mp h2
      cases ds with
      | nil => cases h2
      | cons d2 ds =>
        obtain ⟨env4, h4, h2⟩ := Option.bind_eq_some_iff.mp h2
        cases ds with
        | nil =>
          cases h2
          obtain ⟨v, r, rfl, i1, i2⟩ := isL_cons.mp is
          obtain ⟨w, r2, rfl, i3, i4⟩ := isL_cons.mp i2
          cases isL_nil.mp i4
          obtain ⟨a1, a2, rfl⟩ := putIm_ok h3
          obtain ⟨b1, b2, rfl⟩ := putIm_ok h4
          exact ⟨v, w, rfl, z _ B1 H1 ((R1.set i1 a1 a2).set i3 b1 b2) e1⟩
        | cons _ _ => cases h2) fun _ _ _ z => exP.to z⟩
theorem trS_par3 {i j l : Nat} {x y z : Str} {ma : MA} {px py pz pt : Pos} {kt k2 : Nat} {pt2 : Pos} (hc : X.calm = true) (hN : X.N.Nodup) (ha : TrA X T [e1, e2, e3] ma)
    (hw : swappedStores [.Tuple [.Name x px, .Name y py, .Name z pz] kt pt] (.Tuple [e1, e2, e3] k2 pt2) X.env = pure (some [x, y, z])) (hi : X.N[i]? = some x := by rfl) (hj : X.N[j]? = some y := by rfl) (hl : X.N[l]? = some z := by rfl) (hij : i ≠ j := by decide) (hil : i ≠ l := by decide) (hjl : j ≠ l := by decide)
    (hx : X.env.scope.names.lookup x = some .local := by rfl) (hy : X.env.scope.names.lookup y = some .local := by rfl) (hz : X.env.scope.names.lookup z = some .local := by rfl) (hs : swapsWithSole [.Tuple [.Name x px, .Name y py, .Name z pz] kt pt] (.Tuple [e1, e2, e3] k2 pt2) pos.line X.env = pure false := by rfl) :
    TrS X T (.Assign [.Tuple [.Name x px, .Name y py, .Name z pz] kt pt] (.Tuple [e1, e2, e3] k2 pt2) pos) (sPar [i, j, l] ma) := fun F W tk =>
  ps_imp (ps_par3 hc hN hi hj hl hij hil hjl hx hy hz (ha F W tk) hw hs) fun D σ H ⟨env, B, R, q⟩ => ⟨env, B, R, Out.wp_mono (Out.wp_bindS.mp q) (fun ds env1 z vs B1 H1 R1 e1 is => by
    obtain ⟨env2, h2, z⟩ := ofE_wp z
    cases ds with
    | nil => cases h2
    | cons d1 ds =>
      obtain ⟨env3, h3, h2⟩ := Option.bind_eq_some_iff.mp h2
      cases ds with
      | nil => cases h2
      | cons d2 ds =>
        obtain ⟨env4, h4, h2⟩ := Option.bind_eq_some_iff.mp h2
        cases ds with
        | nil => cases h2
        | cons d3 ds =>
          obtain ⟨env5, h5, h2⟩ := Option.bind_eq_some_iff.mp h2
          cases ds with
          | nil =>
            cases h2
            obtain ⟨v, r, rfl, i1, i2⟩ := isL_cons.mp is
            obtain ⟨w, r2, rfl, i3, i4⟩ := isL_cons.mp i2
            obtain ⟨u, r3, rfl, i5, i6⟩ := isL_cons.mp i4
            cases isL_nil.mp i6
            obtain ⟨a1, a2, rfl⟩ := putIm_ok h3
            obtain ⟨b1, b2, rfl⟩ := putIm_ok h4
            obtain ⟨c1, c2, rfl⟩ := putIm_ok h5
            exact ⟨v, w, u, rfl, z _ B1 H1 (((R1.set i1 a1 a2).set i3 b1 b2).set i5 c1 c2) e1⟩
          | cons _ _ => cases h2) fun _ _ _ z => exP.to z⟩
end
end Ml
set_option maxRecDepth 100000
set_option maxHeartbeats 2000000
namespace Ml
open PySem PySem.Spec PyProof.Rows L2
section
variable {X : Cx} {T : Tab} {e e1 e2 e3 o : Expr} {es : List Expr} {pos p apos : Pos} {x nm : Str} {sts : List Stmt}
/-! ### lists: +, * -/
theorem ok_addL : Ok2 T fAddL rCat := fun a b d x y B H Q e ta tb hf q => by
  unfold fAddL at hf
  split at hf
  · split at hf
    · rename_i c
      cases hf
      obtain ⟨a, xs, rfl, h1, h2⟩ := top_lstX e ta
      obtain ⟨b, ys, rfl, h3, h4⟩ := top_lstX e tb
      refine ⟨a, b, xs, ys, rfl, rfl, h1, h3, by rw [h2.length, h4.length]; exact c, fun p hp => ?_⟩
      have s := Stp.new (T := T) (o := HO.lst (xs ++ ys)) e hp
      exact q (.ref p) _ _ s (is_lst.mpr ⟨p, _, rfl, upd_same, (h2.append h4).mono s.b⟩)
    · cases hf
  · cases hf
def repD (k : Nat) (ds : List D) : List D := (List.replicate k ds).flatten
theorem IsL.rep {H : Hp} {ds : List D} {vs : List V} (h : IsL T ds vs H) : ∀ k : Nat, IsL T (repD k ds) (List.replicate k vs).flatten H
  | 0 => .nil
  | k + 1 => by
    unfold repD
    rw [List.replicate_succ, List.replicate_succ, List.flatten_cons, List.flatten_cons]
    exact h.append (IsL.rep h k)
def fRepL : D → D → Option D
  | .lst ds, .int k => if decide (-(2 ^ 63) ≤ k) && decide (k < 2 ^ 63) && decide (ds.length * k.toNat ≤ sizeLine) then some (.lst (repD k.toNat ds)) else none
  | _, _ => none
theorem ok_repL : Ok2 T fRepL rRep := fun a b d x y B H Q e ta tb hf q => by
  unfold fRepL at hf
  split at hf
  · rename_i ds k
    split at hf
    · rename_i c
      cases hf
      obtain ⟨c1, c3⟩ := Bool.and_eq_true_iff.mp c
      obtain ⟨c1, c2⟩ := Bool.and_eq_true_iff.mp c1
      obtain ⟨a, xs, rfl, h1, h2⟩ := top_lstX e ta
      refine ⟨a, k, xs, rfl, top_int tb, h1, of_decide_eq_true c1, of_decide_eq_true c2, by rw [h2.length]; exact of_decide_eq_true c3, fun p hp => ?_⟩
      have s := Stp.new (T := T) (o := HO.lst (List.replicate k.toNat xs).flatten) e hp
      exact q (.ref p) _ _ s (is_lst.mpr ⟨p, _, rfl, upd_same, (h2.rep k.toNat).mono s.b⟩)
    · cases hf
  · cases hf
/-! ### dict displays -/
theorem trN_dict0 : TrN X T (.Dict [] [] pos) (mC (.dct [])) := fun F W tk => pe_imp pe_dnewK fun σ H Q ⟨env, B, R, q⟩ p hp => by
  have st := Stp.junk (T := T) (o := HO.dK []) R.exB hp
  exact q p _ _ (R.step st) (Evl.Ex.refl _) (ex_none R.exB hp) (R.freeF hp) (R.notIn hp) ⟨[], upd_same, isK_nil.mpr rfl⟩
def keyD : D → Option Key
  | .int i => some (.inl i)
  | .str s => some (.inr s)
  | _ => none
theorem keyD_ok {d : D} {k : Key} {v : V} {H : Hp} (h : keyD d = some k) (i : Is T d v H) : v = kV k := by
  cases d with
  | int j => cases h; exact is_int.mp i
  | str j => cases h; exact is_str.mp i
  | _ => cases h
/-- {k: v} -/
def mDict1 (m1 m2 : ME) : ME := fun env => (m1 env).bind fun a env1 => (m2 env1).bind fun b env2 => ofO ((keyD a).map fun k => .dct [(k, b)]) env2
def tEW (T : Tab) (W : XK) (m : ME) : TE := fun σ H Q => ∃ F, tOf T F W m σ H Q
theorem exPs.leave {F : Fr0} {W : XK} {env : Env} {σ : L2.St} {B B0 H : Hp} (R : Rel T F env σ B H) (e : Ex B0 B) {c : Nat} {fs : List D} {env2 : Env} (h : exPs T F W B0 σ c fs env2) : exPs T (subF F env σ B H) W B σ c fs env2 :=
  fun dd B1 H1 R1 e1 i => h dd B1 H1 (R.leave R1) (e.trans e1) i
theorem trN_dict1 {m1 m2 : ME} (h1 : TrE X T e1 m1) (h2 : TrE X T e2 m2) : TrN X T (.Dict [some e1] [e2] pos) (mDict1 m1 m2) := fun F W tk =>
  pe_imp (pe_disp (pps_cons (pe_any fun F' => h1 F' W tk) (pe_any fun F' => h2 F' W tk) pps_nil) rfl rfl (by simp) (by simp)) fun σ H Q ⟨env, B, R, q⟩ p hp => by
    have st := Stp.junk (T := T) (o := HO.dK []) R.exB hp
    have R0 := R.step st
    have nI : NotIn env σ p := R.notIn hp
    have hB := ex_none R.exB hp
    have hF := R.freeF hp
    have nK : ∀ {ks : List (Key × V)}, NX (.dK ks) := fun {ks} => ⟨fun _ z => (by cases z), fun _ z => (by cases z)⟩
    refine ⟨subF F env σ B (upd H p (.dK [])), env, B, R0.enter, Out.wp_mono (Out.wp_bind.mp q) (fun a env1 z v B1 H1 R1' e1 i => ?_) fun _ _ _ z => z.leave R0 (Evl.Ex.refl _)⟩
    have p1 := R0.kept R1' upd_same nK.1 nI
    obtain ⟨n1, b1⟩ := R0.keptN R1' upd_same nI hB
    have R1 := R0.leave R1'
    refine ⟨subF F env1 σ B1 H1, env1, B1, R1.enter, Out.wp_mono (Out.wp_bind.mp z) (fun b env2 z w B2 H2 R2' e2 i2 => ?_) fun _ _ _ z => z.leave R1 e1⟩
    have p2 := R1.kept R2' p1 nK.1 n1
    obtain ⟨n2, b2⟩ := R1.keptN R2' p1 n1 b1
    have R2 := R1.leave R2'
    obtain ⟨d, hd, z⟩ := ofO_wp z
    obtain ⟨k, hk, rfl⟩ := Option.map_eq_some_iff.mp hd
    refine ⟨p2, [(k, w)], by rw [keyD_ok hk i]; rfl, by simp, ?_⟩
    have R3 := R2.other (o := HO.dK (mergeK [] [(k, w)])) n2 b2 hF p2 nK
    exact z p B2 _ R3 (e1.trans e2) b2 hF n2 ⟨_, upd_same, isK_cons.mpr ⟨w, [], rfl, i2, isK_nil.mpr rfl⟩⟩
end
/-! ### gcd -/
section
variable {X : Cx} {T : Tab} {e : Expr} {es : List Expr} {pos p : Pos} {x : Str}
theorem ok_gcd : OkC T fGcd rGcd := fun as d xs B H Q e t hf q => by
  unfold fGcd at hf
  split at hf
  · cases hf
    obtain ⟨v, w, rfl, h, k⟩ := topL2 t
    exact ⟨_, _, by rw [top_int h, top_int k], q _ B H (Stp.refl e) (is_int.mpr rfl)⟩
  · cases hf
theorem trE_fnI {id : String} {f : List D → Option D} {m : MQ} {r : List V → Hp → VK → Prop} (hc : CallR X (.builtin id) r) (hr : OkC T f r) (hg : Gl X x) (hm : X.mg x = some (.builtin id)) (ha : TrQ X T (e :: es) m)
    (hdb : (x == ("__debug__" : Str)) = false := by decide) (he : starEach (e :: es) X.env = (false, eval e X.env) :: starEach es X.env := by rfl) (hpl : (backTo pos (starEach es X.env)).any (·.1) = false := by rfl) :
    TrE X T (.Call (.Name x p) (e :: es) [] pos) (mFn f m) := fun F W tk => pe_imp (pe_callBfun hc hg hm (ha F W tk) hdb he hpl) fun _ _ _ => tOf_fn hr
end
end Ml
set_option maxRecDepth 100000
set_option maxHeartbeats 2000000
namespace Ml
open PySem PySem.Spec PyProof.Rows L2
/-! ### shorthands for the derivations -/
/-- a local name: its place, seen, no name of another sort -/
structure Nm (N : List Str) (sc : Scope) (i : Nat) (x : Str) : Prop where
  n : N[i]? = some x
  v : Vis sc x
  d : (x == ("__debug__" : Str)) = false
  c : (x == ("__classdict__" : Str)) = false
def visB (sc : Scope) (x : Str) : Bool := decide (sc.names.lookup x = some .local) || (decide (sc.names.lookup x = some .cell) || decide (sc.names.lookup x = some .free))
theorem visB_ok {sc : Scope} {x : Str} (h : visB sc x = true) : Vis sc x := by
  rcases Bool.or_eq_true_iff.mp h with h | h
  · exact .inl (of_decide_eq_true h)
  · rcases Bool.or_eq_true_iff.mp h with h | h
    · exact .inr (.inl (of_decide_eq_true h))
    · exact .inr (.inr (of_decide_eq_true h))
def nmB (N : List Str) (sc : Scope) (i : Nat) (x : Str) : Bool := decide (N[i]? = some x) && (visB sc x && ((x != ("__debug__" : Str)) && (x != ("__classdict__" : Str))))
theorem nmB_ok {N : List Str} {sc : Scope} {i : Nat} {x : Str} (h : nmB N sc i x = true) : Nm N sc i x := by
  obtain ⟨h1, h⟩ := Bool.and_eq_true_iff.mp h
  obtain ⟨h2, h⟩ := Bool.and_eq_true_iff.mp h
  obtain ⟨h3, h4⟩ := Bool.and_eq_true_iff.mp h
  exact ⟨of_decide_eq_true h1, visB_ok h2, by simpa [bne] using h3, by simpa [bne] using h4⟩
/-- a name to be stored to -/
structure Ns (N : List Str) (sc : Scope) (i : Nat) (x : Str) : Prop where
  n : N[i]? = some x
  l : Loc sc x
def locB (sc : Scope) (x : Str) : Bool := decide (sc.names.lookup x = some .local) || decide (sc.names.lookup x = some .cell)
theorem locB_ok {sc : Scope} {x : Str} (h : locB sc x = true) : Loc sc x := by
  rcases Bool.or_eq_true_iff.mp h with h | h
  · exact .inl (of_decide_eq_true h)
  · exact .inr (of_decide_eq_true h)
/-- a global name -/
def glB (sc : Scope) (x : Str) : Bool := decide (sc.names.lookup x = some .globalImplicit) && (x != ("__debug__" : Str))
section
variable {X : Cx} {T : Tab} {pos p : Pos} {x : Str} {e : Expr} {i : Nat}
theorem nV (h : Nm X.N X.env.scope i x) : TrE X T (.Name x pos) (mV i) := trE_v i h.n h.v h.d h.c
theorem nP (h : Nm X.N X.env.scope i x) : TrP X T (.Name x pos) (mPl i) := trP_v i h.n h.v h.d h.c
theorem gl_of (h : glB X.env.scope x = true) : Gl X x := (of_decide_eq_true (Bool.and_eq_true_iff.mp h).1 : X.env.scope.names.lookup x = some .globalImplicit)
theorem gd_of {sc : Scope} (h : glB sc x = true) : (x == ("__debug__" : Str)) = false := by simpa [bne] using (Bool.and_eq_true_iff.mp h).2
theorem trE_bty {n : String} (hg : Gl X x) (hm : X.mg x = none) (hv : bootBuiltins x = some (.type n)) (hn : x ≠ "__name__" := by decide) (hd : (x == ("__debug__" : Str)) = false := by decide) : TrE X T (.Name x pos) (mC (.ty n)) := trE_c (pe_bltn hg hm hv (v := .ty n) rfl hn hd) fun _ => is_ty.mpr rfl
end
def tab0 (n : Nat) (kin : Nat → Nat → Bool) : Tab := ⟨[], fun _ => 0, fun _ => [], fun _ => 0, n, kin, []⟩
theorem isiT_eq (T : Tab) (t : Option Ty) (c : D) : isiT T t c = isiT (tab0 T.n T.kin) t c := by
  cases t with
  | none => rfl
  | some t => cases t <;> cases c <;> rfl
theorem isiAny_eq (T : Tab) (t : Option Ty) : ∀ cs : List D, isiAny T t cs = isiAny (tab0 T.n T.kin) t cs
  | [] => rfl
  | c :: r => by
    unfold isiAny
    rw [isiT_eq T t c, isiAny_eq T t r]
theorem fIsi_eq (T : Tab) : fIsi T = fIsi (tab0 T.n T.kin) := by
  funext as
  unfold fIsi
  split
  · rw [isiAny_eq]
  · rw [isiT_eq]
  · rfl
theorem ok_isi0 {T : Tab} {n : Nat} {kin : Nat → Nat → Bool} (K : TabOk T) (h1 : T.n = n) (h2 : T.kin = kin) : OkC T (fIsi (tab0 n kin)) (fun xs H Q => rIsi T.K xs H Q ∨ rIsiT T.K xs H Q) := by
  subst h1 h2
  rw [← fIsi_eq]
  exact ok_isi K
end Ml
set_option maxRecDepth 100000
set_option maxHeartbeats 2000000
namespace Ml
open PySem PySem.Spec PyProof.Rows L2
/-! ### what the head tells: defs by an address of any sort, checks -/
/-- the def behind a method's wrapper -/
def inner (k : String) (K : PySem.W.Frag) (C m : Str) : Addr := match PySem.W.recIn K (He.ma K (He.ga K C) m) k with
  | some (.ref g :: _) => g
  | _ => 0
structure DefX where
  at_ : PySem.W.Frag → Addr
  name : Str
  qual : Str
  params : Arguments
  body : List Stmt
  scope : Scope
  dfl : List V := []
def DefX.val (d : DefX) : He.FnW := some (d.name, d.qual, d.params, .stmts d.body, d.scope, mainGlobals, [], builtinsNs)
def fnWA (K : PySem.W.Frag) (a : Addr) : He.FnW := match K.lookup a with
  | some ⟨_, _, .func fd, _⟩ => some (fd.name, fd.qualname, fd.params, fd.body, fd.scope, fd.globals, fd.closure, fd.builtins)
  | _ => none
def DefX.ok (K : PySem.W.Frag) (d : DefX) : Bool := PySem.W.keepIn K (.ref (d.at_ K)) && (match K.lookup (d.at_ K) with
  | some ⟨_, _, .func fd, _⟩ => PySem.W.codeIn K fd.code d.qual && He.dflB K fd.defaults d.dfl
  | _ => false)
theorem DefX.funD {K : PySem.W.Frag} {d : DefX} (e : fnWA K (d.at_ K) = d.val) (c : d.ok K = true) : ∃ fd, FunD K d.name d.qual d.params d.body d.scope d.dfl [] (d.at_ K) fd := by
  obtain ⟨kp, c2⟩ := He.ba c
  unfold fnWA at e
  cases q : K.lookup (d.at_ K) with
  | none => rw [q] at c2; cases c2
  | some o =>
    obtain ⟨oc, od, dt, osl⟩ := o
    rw [q] at c2 e
    cases dt with
    | func fd =>
      obtain ⟨c3, c4⟩ := He.ba c2
      obtain ⟨n1, n2, n3, n4, n5, n6, n7, n8, n9, n10, n11, n12, n13, n14, n15⟩ := fd
      have e2 : (some (n1, n2, n3, n4, n5, n6, n7, n15) : He.FnW) = some (d.name, d.qual, d.params, .stmts d.body, d.scope, mainGlobals, [], builtinsNs) := e
      simp only [Option.some.injEq, Prod.mk.injEq] at e2
      obtain ⟨h1, h2, h3, h4, h5, h6, h7, h8⟩ := e2
      subst h1 h2 h3 h4 h5 h6 h7 h8
      exact ⟨_, ⟨_, _, _, _, _, _, _, _, _, _, rfl, q, c3, He.dflB_ok c4, .inl rfl⟩, kp⟩
    | _ => cases c2
abbrev AlX : Type := Bool × List He.FnW
def obsX (fa : List (PySem.W.Frag → Bool)) (fn : List DefX) (K : PySem.W.Frag) : AlX := ((fa.all fun f => f K) && fn.all fun d => d.ok K, fn.map fun d => fnWA K (d.at_ K))
def valX (fn : List DefX) : AlX := (true, fn.map DefX.val)
def SaysX (fa : List (PySem.W.Frag → Bool)) (fn : List DefX) (K : PySem.W.Frag) : Prop := obsX fa fn K = valX fn
def hookX (as : List Nat) (fa : List (PySem.W.Frag → Bool)) (fn : List DefX) : PySem.W.Hook where
  α := AlX
  obs := fun s => obsX fa fn (He.frG s.heap.get? as)
  val := fun _ => valX fn
  says := fun _ h => ∃ K : PySem.W.Frag, K.In h ∧ SaysX fa fn K
  of := fun _ _ e => ⟨_, He.frG_in, e⟩
  keeps := fun _ _ _ ⟨K, hK, c⟩ k => ⟨K, PySem.W.Frag.In.keeps hK k, c⟩
section
variable {fa : List (PySem.W.Frag → Bool)} {fn : List DefX} {K : PySem.W.Frag}
theorem SaysX.fact (c : SaysX fa fn K) (i : Nat) {f : PySem.W.Frag → Bool} (h : fa[i]? = some f := by rfl) : f K = true := by
  have c1 := (He.ba (show ((fa.all fun f => f K) && fn.all fun d => d.ok K) = true from congrArg (fun z : AlX => z.1) c)).1
  exact List.all_eq_true.mp c1 f (List.mem_of_getElem? h)
theorem SaysX.def_ (c : SaysX fa fn K) (i : Nat) {d : DefX} (h : fn[i]? = some d := by rfl) : ∃ fd, FunD K d.name d.qual d.params d.body d.scope d.dfl [] (d.at_ K) fd := by
  have c2 := (He.ba (show ((fa.all fun f => f K) && fn.all fun d => d.ok K) = true from congrArg (fun z : AlX => z.1) c)).2
  have e : fn.map (fun d => fnWA K (d.at_ K)) = fn.map DefX.val := congrArg (fun z : AlX => z.2) c
  have e2 : (fn.map fun d => fnWA K (d.at_ K))[i]? = (fn.map DefX.val)[i]? := by rw [e]
  rw [List.getElem?_map, List.getElem?_map, h] at e2
  exact DefX.funD (Option.some.inj e2) (List.all_eq_true.mp c2 d (List.mem_of_getElem? h))
end
/-! ### checks -/
def oexB (K : PySem.W.Frag) (C : Addr) : Bool := (match K.lookup C with
  | some ⟨.type "type", _, .cls cd, sl⟩ => (match cd.mro, sl.toList with
    | .ref C' :: bm, [_, _, _, _, some (.builtin n), _] => decide (C' = C) && (decide (n = "ValueError.__new__") && (cd.hasDict && (!cd.hasDel && PySem.HandSPX.refsVE bm)))
    | _, _ => false)
  | _ => false) && (decide (PySem.W.findIn K (.ref C) "__setattr__" = some (some (.builtin "object.__setattr__"))) && (decide (PySem.W.subIn K (.ref C) (.type "BaseException") = some true) && (decide (PySem.W.typeIn K (.ref C) = some (.type "type")) && PySem.W.keepIn K (.ref C))))
theorem oexB_ok {K : PySem.W.Frag} {C : Addr} (h : oexB K C = true) : OexC K C := by
  obtain ⟨h1, h⟩ := He.ba h
  obtain ⟨h2, h⟩ := He.ba h
  obtain ⟨h3, h⟩ := He.ba h
  obtain ⟨h4, h5⟩ := He.ba h
  refine ⟨?_, of_decide_eq_true h2, of_decide_eq_true h3, of_decide_eq_true h4, h5⟩
  split at h1
  · rename_i dd cd sl ho
    split at h1
    · rename_i C' bm k0 k1 k2 k3 n k5 hm hs
      obtain ⟨e1, h1⟩ := He.ba h1
      obtain ⟨e2, h1⟩ := He.ba h1
      obtain ⟨e3, h1⟩ := He.ba h1
      obtain ⟨e4, e5⟩ := He.ba h1
      have e1 := of_decide_eq_true e1
      have e2 := of_decide_eq_true e2
      subst e1 e2
      obtain ⟨nm, bs, mro, ns, qn, hd, sn, sub, ab, col, del⟩ := cd
      dsimp only at hm e3 e4
      subst hm e3
      have e4 : del = false := by simpa using e4
      subst e4
      have hsl : sl = #[k0, k1, k2, k3, some (.builtin "ValueError.__new__"), k5] := by
        apply Array.toList_inj.mp
        rw [hs]
      subst hsl
      exact ⟨nm, qn, ns, bs, bm, sn, sub, ab, col, dd, k0, k1, k2, k3, k5, ho, e5⟩
    · cases h1
  · cases h1
end Ml
set_option maxRecDepth 100000
set_option maxHeartbeats 2000000
namespace Ml
open PySem PySem.Spec PyProof.Rows L2
def clsB (K : PySem.W.Frag) (C : Addr) : Bool := PySem.W.plainGet K C Str.empty && (PySem.W.hasDictIn K C && (PySem.W.plainOver K C && He.eqO (PySem.W.findIn K (.ref C) "__setattr__") (some (some (.builtin "object.__setattr__")))))
theorem clsB_ok {K : PySem.W.Frag} {C : Addr} (c : clsB K C = true) : Cls K C := by
  obtain ⟨c1, c⟩ := He.ba c
  obtain ⟨c2, c⟩ := He.ba c
  obtain ⟨c3, c4⟩ := He.ba c
  exact ⟨c1, c2, c3, He.eqO_ok c4⟩
def noatB (K : PySem.W.Frag) (C : Addr) (f : Str) : Bool := He.eqO (PySem.W.findIn K (.ref C) f) (some none)
def knT : List String := ["int", "bool", "str", "list", "tuple", "dict"]
def clsFB (T : Tab) (c : Nat) : Bool := clsB T.K (T.adr c) && (He.eqO (PySem.W.findIn T.K (.ref (T.adr c)) "__class__") (some (some (.builtin "object.__class__"))) && (decide (PySem.W.mroIn T.K (T.adr c) (.type "object") = some true) &&
  ((T.fld c).all (fun f => noatB T.K (T.adr c) f) && (decide (T.fld c).Nodup && decide ((T.fld c).length ≤ 900)))))
theorem clsFB_ok {T : Tab} {c : Nat} (h : clsFB T c = true) : ClsF T c := by
  obtain ⟨h1, h⟩ := He.ba h
  obtain ⟨h2, h⟩ := He.ba h
  obtain ⟨h3, h⟩ := He.ba h
  obtain ⟨h4, h⟩ := He.ba h
  obtain ⟨h5, h6⟩ := He.ba h
  exact ⟨clsB_ok h1, He.eqO_ok h2, by kernel_rfl, by kernel_rfl, of_decide_eq_true h3, fun f hf => He.eqO_ok (List.all_eq_true.mp h4 f hf), of_decide_eq_true h5, of_decide_eq_true h6⟩
def tabB (T : Tab) : Bool := (List.range T.n).all fun c => clsFB T c && ((List.range T.n).all (fun d => decide (PySem.W.kitOne T.K (.ref (T.adr c)) (.ref (T.adr d)) = some (T.kin c d))) &&
  (knT.all (fun n => decide (PySem.W.kitOne T.K (.ref (T.adr c)) (.type n) = some false)) && ("NoneType" :: knT).all (fun n => decide (PySem.W.kitOne T.K (.type n) (.ref (T.adr c)) = some false))))
theorem tabB_ok {T : Tab} (h : tabB T = true) : TabOk T := by
  have at_ : ∀ c, c < T.n → _ := fun c hc => List.all_eq_true.mp h c (List.mem_range.mpr hc)
  refine ⟨fun c hc => ?_, fun c d hc hd => ?_, fun c n hc hn => ?_, fun n d hd hn => ?_⟩
  · exact clsFB_ok (He.ba (at_ c hc)).1
  · obtain ⟨_, z⟩ := He.ba (at_ c hc)
    exact of_decide_eq_true (List.all_eq_true.mp (He.ba z).1 d (List.mem_range.mpr hd))
  · obtain ⟨_, z⟩ := He.ba (at_ c hc)
    obtain ⟨_, z⟩ := He.ba z
    have hm : n ∈ knT := by
      rcases known_mem hn with rfl | rfl | rfl | rfl | rfl | rfl <;> simp [knT]
    exact of_decide_eq_true (List.all_eq_true.mp (He.ba z).1 n hm)
  · obtain ⟨_, z⟩ := He.ba (at_ d hd)
    obtain ⟨_, z⟩ := He.ba z
    have hm : n ∈ "NoneType" :: knT := by
      rcases Bool.or_eq_true_iff.mp hn with h | h
      · rcases known_mem h with rfl | rfl | rfl | rfl | rfl | rfl <;> simp [knT]
      · rw [eq_of_beq h]; simp
    exact of_decide_eq_true (List.all_eq_true.mp (He.ba z).2 n hm)
/-! a static method, a classmethod, a property; an own operator -/
def readB (K : PySem.W.Frag) (C : Addr) : Bool := PySem.W.readsIn K C (.type "type") && He.eqO (PySem.W.specialIn K (.ref C) "__getattribute__") (some (some (.builtin "type.__getattribute__")))
theorem readB_ok {K : PySem.W.Frag} {C : Addr} (h : readB K C = true) : ClX.CRead K C (.type "type") := ⟨(He.ba h).1, He.eqO_ok (He.ba h).2⟩
def recB (K : PySem.W.Frag) (p : Addr) (k : String) (g : Addr) : Bool := match PySem.W.recIn K p k with
  | some (.ref b :: _) => decide (b = g)
  | _ => false
theorem recB_ok {K : PySem.W.Frag} {p g : Addr} {k : String} (h : recB K p k g = true) : ∃ rest, PySem.W.recIn K p k = some (.ref g :: rest) := by
  unfold recB at h
  split at h
  · rename_i b r e
    have := of_decide_eq_true h
    subst this
    exact ⟨r, e⟩
  · cases h
def getB (r : Option PySem.W.CFound) (id : String) (p C : Addr) : Bool := match r with
  | some (.get (.builtin i) (.ref q) .none (.ref D)) => decide (i = id) && (decide (q = p) && decide (D = C))
  | _ => false
theorem getB_ok {r : Option PySem.W.CFound} {id : String} {p C : Addr} (h : getB r id p C = true) : r = some (.get (.builtin id) (.ref p) .none (.ref C)) := by
  unfold getB at h
  split at h
  · obtain ⟨h1, h⟩ := He.ba h
    obtain ⟨h2, h3⟩ := He.ba h
    rw [of_decide_eq_true h1, of_decide_eq_true h2, of_decide_eq_true h3]
  · cases h
def smetB (K : PySem.W.Frag) (C : Addr) (m : Str) (p g : Addr) : Bool := getB (PySem.W.findCls K (.ref C) (.type "type") m) "staticmethod.__get__" p C && (recB K p "staticmethod" g && PySem.W.keepIn K (.ref g))
theorem smetB_ok {K : PySem.W.Frag} {C p g : Addr} {m : Str} (h : smetB K C m p g = true) : SMet K C (.type "type") m p g := by
  obtain ⟨h1, h⟩ := He.ba h
  obtain ⟨h2, h3⟩ := He.ba h
  exact ⟨getB_ok h1, recB_ok h2, h3⟩
def cmetB (K : PySem.W.Frag) (C : Addr) (m : Str) (p g : Addr) : Bool := getB (PySem.W.findCls K (.ref C) (.type "type") m) "classmethod.__get__" p C && (recB K p "classmethod" g && PySem.W.fnIn K g)
theorem cmetB_ok {K : PySem.W.Frag} {C p g : Addr} {m : Str} (h : cmetB K C m p g = true) : ClX.CMet K C (.type "type") m p g := by
  obtain ⟨h1, h⟩ := He.ba h
  obtain ⟨h2, h3⟩ := He.ba h
  exact ⟨getB_ok h1, recB_ok h2, h3⟩
def propB (K : PySem.W.Frag) (C : Addr) (m : Str) (p g : Addr) : Bool := He.eqO (PySem.W.findIn K (.ref C) m) (some (some (.ref p))) && (He.eqO (PySem.W.specialIn K (.ref p) "__get__") (some (some (.builtin "property.__get__"))) && (decide (PySem.W.takesIn K (.ref p) = some true) && recB K p "property" g))
theorem propB_ok {K : PySem.W.Frag} {C p g : Addr} {m : Str} (h : propB K C m p g = true) : PropOf K C m p g := by
  obtain ⟨h1, h⟩ := He.ba h
  obtain ⟨h2, h⟩ := He.ba h
  obtain ⟨h3, h4⟩ := He.ba h
  exact ⟨He.eqO_ok h1, He.eqO_ok h2, of_decide_eq_true h3, recB_ok h4⟩
def binB (K : PySem.W.Frag) (C : Addr) (nm : String) (f : Addr) : Bool := PySem.W.selfFirst K C && (He.eqO (PySem.W.findIn K (.ref C) (PySem.dunder nm)) (some (some (.ref f))) && (PySem.W.isFn K (.ref f) && He.eqO (PySem.W.findIn K (.ref C) (dunderR nm)) (some none)))
theorem binB_ok {K : PySem.W.Frag} {C f : Addr} {nm : String} (h : binB K C nm f = true) : OwnBin K C nm f := by
  obtain ⟨h1, h⟩ := He.ba h
  obtain ⟨h2, h⟩ := He.ba h
  obtain ⟨h3, h4⟩ := He.ba h
  exact ⟨h1, He.eqO_ok h2, h3, none, He.eqO_ok h4, .inl rfl⟩
def ownB1 (K : PySem.W.Frag) (C : Addr) (nm : Str) (f : Addr) : Bool := He.eqO (PySem.W.findIn K (.ref C) nm) (some (some (.ref f))) && PySem.W.isFn K (.ref f)
theorem ownB1_ok {K : PySem.W.Frag} {C f : Addr} {nm : Str} (h : ownB1 K C nm f = true) : OwnCmp K C nm f := ⟨He.eqO_ok (He.ba h).1, (He.ba h).2⟩
end Ml
set_option maxRecDepth 100000
set_option maxHeartbeats 2000000
theorem L2.Room.units65 {k : Nat} {A : PySem.Around} (r : L2.Room k A) : A.units + 65 < PySem.cLine := by have := r.un; omega
namespace Ml
open PySem PySem.Spec PyProof.Rows L2
section
variable {X : Cx} {T : Tab} {x : Str}
theorem hf_of (h : (X.fn x || decide (X.env.scope.names.lookup x = some .local)) = true) : X.fn x = true ∨ X.env.scope.names.lookup x = some .local := (Bool.or_eq_true_iff.mp h).imp id of_decide_eq_true
def fAdd : D → D → Option D := oOr fAddI (oOr fAddS fAddL)
def rAddU : R2 := fun x y H Q => rI0 (fun i j => .int (i + j)) x y H Q ∨ (∃ i j, x = .str i ∧ y = .str j ∧ i.length + j.length ≤ sizeLine ∧ Q (.str (i ++ j)) H) ∨ rCat x y H Q
theorem op_addU : OpR X (binaryOp .Add) rAddU := op_add.or (op_add_str.or op_cat)
theorem ok_addU : Ok2 T fAdd rAddU := ok_addI.or (ok_addS.or ok_addL)
def fMul : D → D → Option D := oOr fMulI fRepL
def rMulU : R2 := fun x y H Q => rI CMulW (fun i j => .int (i * j)) x y H Q ∨ rRep x y H Q
theorem op_mulU : OpR X (binaryOp .Mult) rMulU := op_mulW.or op_rep
theorem ok_mulU : Ok2 T fMul rMulU := ok_mulI.or ok_repL
def fIn : D → D → Option D := oOr fInS fInL
def fNi : D → D → Option D := oOr fNiS fNiL
def rInU (K : PySem.W.Frag) : R2 := fun x y H Q => (∃ (c : Nat) (z : Str), x = .str ⟨#[c]⟩ ∧ y = .str z ∧ Q (.bl (decide (c ∈ z.cps.toList))) H) ∨ rInD K x y H Q
def rNiU (K : PySem.W.Frag) : R2 := fun x y H Q => (∃ (c : Nat) (z : Str), x = .str ⟨#[c]⟩ ∧ y = .str z ∧ Q (.bl (!decide (c ∈ z.cps.toList))) H) ∨ rNotInD K x y H Q
theorem op_inU (hu : X.A.units + 65 < cLine) : OpR X (compareOp .In) (rInU X.K) := op_in_sign.or (op_inD hu)
theorem op_niU (hu : X.A.units + 65 < cLine) : OpR X (compareOp .NotIn) (rNiU X.K) := op_notIn_sign.or (op_notInD hu)
theorem ok_inU : Ok2 T fIn (rInU T.K) := ok_inS.or ok_inL
theorem ok_niU : Ok2 T fNi (rNiU T.K) := ok_niS.or ok_niL
/-- == of two texts -/
def fEqSc : D → D → Option D
  | .str a, .str b => some (.bl (decide (a = b)))
  | _, _ => none
theorem ok_eqSc : Ok2 T fEqSc rEq := fun a b d x y B H Q e ta tb hf q => by
  unfold fEqSc at hf
  split at hf
  · cases hf
    rename_i s t
    have h1 := top_str ta
    have h2 := top_str tb
    subst h1 h2
    refine ⟨rfl, ?_⟩
    have := q (.bl (decide (s = t))) B H (Stp.refl e) (is_bl.mpr rfl)
    have hd : decide (V.str s = V.str t) = decide (s = t) := by simp
    rw [hd]; exact this
  · cases hf
def fIntU : List D → Option D := cOr fInt fIntS
theorem ok_intU : OkC T fIntU (fun xs H Q => ((∃ i, xs = [.int i] ∧ Q (.int i) H) ∨ ∃ k, xs = [.bl k] ∧ Q (.int (if k then 1 else 0)) H) ∨ (∃ a n, xs = [.str a] ∧ PySem.intText? a = some n ∧ a.length ≤ 640 ∧ Q (.int n) H)) := ok_int1.or ok_intS
end
end Ml
set_option maxRecDepth 100000
set_option maxHeartbeats 2000000
namespace Ml
open PySem PySem.Spec PyProof.Rows L2
section
variable {P : Program} {w : World} {K : PySem.W.Frag} {mg : Str → Option Value} {base : Heap} {x qual : Str} {params : Arguments} {body : List Stmt} {scope : Scope} {f : Addr} {fd : FuncData}
theorem fnP {T : Tab} {k : Nat} {ps : List Str} {io : Option Nat} {nw : Bool} {m : List D → OF} {n : Nat} {dd : List D} {dvs : List V} {dus : List Value} (G : FnOk P w K mg base (L2.CX P w) k f fd ps (fun vs H Q E => vs.length = ps.length ∧ spF T io nw m vs H Q E)) (hb : Binds K fd ps dus) (hd : Vals dvs dus) (hn : n + dd.length = ps.length := by rfl) :
    FnR P w K mg base (L2.CX P w) k f (fun vs H Q E => (vs ++ dvs).length = n + dd.length ∧ spF T io nw m (vs ++ dvs) H Q E) :=
  (G.raw hb hd).imp fun vs H Q E ⟨h1, h2⟩ => ⟨by rw [h1, hn], h2⟩
theorem fn_core {T : Tab} {io : Option Nat} {nw : Bool} {N ps : List Str} {m : MS} {cdv : Value} {A : Around} {outer : List PySem.Env} {s : Shared} {H : Hp} {E : XK} {vs : List V} {Q : VK} (S : FnScope N ps scope)
    (hb : TrB (cxOf (L2.CX P w) P w K mg base N qual scope f cdv A outer s H E) T body m) (hl : vs.length = ps.length) (h : spF T io nw (runDef io nw N.length m) vs H Q E) :
    ∃ t, PSs (cxOf (L2.CX P w) P w K mg base N qual scope f cdv A outer s H E) body t ∧ t { nx := fun _ H' => Q .non H', rt := Q } (L2.start N vs) H := by
  obtain ⟨B, ds, e, as, q⟩ := h
  have L : Lets (cxOf (L2.CX P w) P w K mg base N qual scope f cdv A outer s H E) E := .of (takes_of rfl rfl rfl rfl) (passes_of rfl)
  refine ⟨_, hb (fr0 io vs B H) E L, ?_⟩
  have hN : ps.length ≤ N.length := by
    have q : (N.take ps.length).length = ps.length := congrArg List.length S.pre
    rw [List.length_take] at q; omega
  have hd : ds.length = ps.length := by rw [← isAs_len as]; exact hl
  refine ⟨_, B, rel_start e as (by omega), ?_⟩
  unfold runDef at q
  split at q
  · rename_i e1 h1
    rw [h1]
    split at q
    · exact q.elim
    · rename_i c
      intro σ' B' H' R' e'
      obtain ⟨o, q, io'⟩ := outIo_wp R' q
      exact q .non B' H' R'.stp io' (by rw [if_neg c]; exact is_non.mpr rfl)
  · rename_i d e1 h1
    rw [h1]
    split at q
    · exact q.elim
    · rename_i c
      intro v σ' B' H' R' e' i
      obtain ⟨o, q, io'⟩ := outIo_wp R' q
      exact q v B' H' R'.stp io' (by rw [if_neg c]; exact i)
  · rename_i d e1 h1
    rw [h1]
    split at q
    · rename_i c
      intro a σ' B' H' R' e' h2 h3 cc
      obtain ⟨o, q, io'⟩ := outIo_wp R' q
      exact q (.ref a) B' H' R'.stp io' (by rw [if_pos c]; exact ⟨a, rfl, h2, h3, cc⟩)
    · exact q.elim
  · rename_i c fs e1 h1
    rw [h1]
    intro dd σ' B' H' R' e' i
    obtain ⟨o, q, io'⟩ := outIo_wp R' q
    exact q dd B' H' R'.stp io' i
  · exact q.elim
/-- a def that makes lambdas: its code object is told -/
theorem fnFc {T : Tab} {io : Option Nat} {nw : Bool} {N ps : List Str} {k : Nat} {m : MS} {p : Str × Option Str} (hp : He.fAd K p = f) (F : FunD K x qual params body scope [] [] f fd) (S : FnScope N ps scope)
    (hbody : ∀ (A : Around) (outer : List PySem.Env) (s : Shared) (H : Hp) (E : XK), Room k (A.deeper (envOfC qual scope s.heap.objs.size f (.ref (He.codeOf K p)))) →
      TrB (cxOf (L2.CX P w) P w K mg base N qual scope f (.ref (He.codeOf K p)) A outer s H E) T body m) :
    FnOk P w K mg base (L2.CX P w) (k + 1) f fd ps (fun vs H Q E => vs.length = ps.length ∧ spF T io nw (runDef io nw N.length m) vs H Q E) := by
  obtain ⟨oc, od, dV, kV, doc, pm, an, cdv, ct, osl, rfl, lk, hcd, _, _⟩ := F.ex
  obtain ⟨c, rfl⟩ := He.codeIn_ref hcd
  have ec : He.codeOf K p = c := He.codeOf_eq (p := p) (by rw [hp]; exact lk) rfl
  rw [ec] at hbody
  exact fn_of lk hcd S (fun vs H Q E h => h.1) fun A outer s H vs Q E hr h => fn_core S (hbody A outer s H E hr) h.1 h.2
end
end Ml
namespace Ml
open PySem PySem.Spec PyProof.Rows L2
/-! ### the head's hook: facts, defs, tables of code objects -/
structure SaysT (fa : List (PySem.W.Frag → Bool)) (fn : List DefX) (tf : PySem.W.Frag → List (Addr × Addr)) (h : Heap) (K : PySem.W.Frag) : Prop where
  s : SaysX fa fn K
  hd : ∀ p ∈ tf K, PySem.W.codeHdIn K p.1 p.2 = true
  out : ∀ p ∈ tf K, K.lookup p.2 = none
  empty : ∀ p ∈ tf K, h.get? p.2 = some { cls := .none, data := .fields #[] }
def tabsOkB (g : Addr → Option Obj) (ps : List (Addr × Addr)) (K : PySem.W.Frag) : Bool := ps.all fun p => PySem.W.codeHdIn K p.1 p.2 && (match g p.2 with
  | some o => He.emptyTab o
  | none => false)
abbrev AlT : Type := AlX × Bool
def obsT (as : List Nat) (fa : List (PySem.W.Frag → Bool)) (fn : List DefX) (tf : PySem.W.Frag → List (Addr × Addr)) (g : Addr → Option Obj) : AlT := (obsX fa fn (He.frT g as), tabsOkB g (tf (He.frT g as)) (He.frT g as))
def valT (fn : List DefX) : AlT := (valX fn, true)
theorem saysT_of {as : List Nat} {fa : List (PySem.W.Frag → Bool)} {fn : List DefX} {tf : PySem.W.Frag → List (Addr × Addr)} {h : Heap} (e : obsT as fa fn tf h.get? = valT fn) : SaysT fa fn tf h (He.frT h.get? as) := by
  have e1 : obsX fa fn (He.frT h.get? as) = valX fn := congrArg (fun z : AlT => z.1) e
  have e2 : tabsOkB h.get? (tf (He.frT h.get? as)) (He.frT h.get? as) = true := congrArg (fun z : AlT => z.2) e
  have key : ∀ p ∈ tf (He.frT h.get? as), PySem.W.codeHdIn (He.frT h.get? as) p.1 p.2 = true ∧ ∃ o, h.get? p.2 = some o ∧ He.emptyTab o = true := fun p hp => by
    obtain ⟨h3, h4⟩ := He.ba (List.all_eq_true.mp e2 p hp)
    refine ⟨h3, ?_⟩
    cases q : h.get? p.2 with
    | none => rw [q] at h4; cases h4
    | some o => rw [q] at h4; exact ⟨o, rfl, h4⟩
  exact ⟨e1, fun p hp => (key p hp).1, fun p hp => by
    obtain ⟨_, o, q, z⟩ := key p hp
    exact He.frT_none q z, fun p hp => by
    obtain ⟨_, o, q, z⟩ := key p hp
    rw [q, He.emptyTab_eq z]⟩
def hookT (as : List Nat) (fa : List (PySem.W.Frag → Bool)) (fn : List DefX) (tf : PySem.W.Frag → List (Addr × Addr)) : PySem.W.Hook where
  α := AlT
  obs := fun s => obsT as fa fn tf s.heap.get?
  val := fun _ => valT fn
  says := fun _ h => ∃ K : PySem.W.Frag, K.In h ∧ SaysT fa fn tf h K
  of := fun _ _ e => ⟨_, He.frT_in, saysT_of e⟩
  keeps := fun _ _ _ ⟨K, hK, c⟩ k => ⟨K, PySem.W.Frag.In.keeps hK k, ⟨c.s, c.hd, c.out, fun p hp => k _ _ (c.empty p hp)⟩⟩
theorem obsT_eq {as : List Nat} {fa : List (PySem.W.Frag → Bool)} {fn : List DefX} {tf : PySem.W.Frag → List (Addr × Addr)} {g : Addr → Option Obj} {s : Shared} (h : ∀ a, g a = s.heap.get? a) : obsT as fa fn tf g = (hookT as fa fn tf).obs s := by
  have e : g = s.heap.get? := funext h
  rw [e]; rfl
end Ml
set_option maxRecDepth 100000
set_option maxHeartbeats 2000000
namespace Ml
open PySem PySem.Spec PyProof.Rows L2
/-! ### the end -/
open Classical in
/-- all that is known at the law's start: no tables -/
noncomputable def ground (H : Hp) : Hp := fun x => match H x with
  | some o => if NT o then some o else none
  | none => none
theorem ground_ex {H : Hp} : Ex (ground H) H := fun x o h => by
  unfold ground at h
  split at h
  · rename_i o' e
    split at h
    · cases h; exact e
    · cases h
  · cases h
theorem ground_nt {H : Hp} : NTs (ground H) := fun x o h => by
  unfold ground at h
  split at h
  · rename_i o' e
    split at h
    · rename_i c; cases h; exact c
    · cases h
  · cases h
theorem ground_at {H : Hp} {x : Addr} {o : HO} (h : H x = some o) (n : NT o) : ground H x = some o := by
  unfold ground
  rw [h]
  simp only
  rw [if_pos n]
theorem ground_sq {K : PySem.W.Frag} {H : Hp} {a : Addr} {xs : List V} (h : SqL K H a xs) : SqL K (ground H) a xs := by
  rcases h with h | h
  · rcases h with h | ⟨o, h⟩
    · exact .inl (.inl (ground_at h fun _ z => by cases z))
    · exact .inl (.inr ⟨o, ground_at h fun _ z => by cases z⟩)
  · exact .inr h
theorem isL_ints {T : Tab} {H : Hp} : ∀ ns : List Int, IsL T (ns.map D.int) (ns.map V.int) H
  | [] => .nil
  | n :: ns => .cons (is_int.mpr rfl) (isL_ints ns)
theorem law_sp {T : Tab} {m : List D → OF} {H : Hp} {a : Addr} {ns : List Int} (hm : m [.rdl (ns.map D.int)] = .ok (.bl true) none) (ht : LamX.Tabs T.tabs H) (hS : SqL T.K H a (ns.map V.int)) :
    spF T none false m [.ref a] H (fun v _ => v = .bl true) fun _ _ _ => False := by
  refine ⟨ground H, [.rdl (ns.map D.int)], ⟨ground_ex, ht, ground_nt⟩, ?_, ?_⟩
  · unfold IsAs
    refine ⟨.ref a, [], rfl, ?_, by unfold IsAs; rfl⟩
    rw [if_neg (by simp)]
    exact is_rdl.mpr ⟨a, _, rfl, ground_sq hS, isL_ints ns⟩
  · rw [hm]
    intro v B' H' _ _ i
    rw [if_neg (by simp)] at i
    exact is_bl.mp i
theorem funD_uniq {K : PySem.W.Frag} {x qual : Str} {params : Arguments} {body : List Stmt} {scope : Scope} {dvs : List V} {kws : List (Str × V)} {f : Addr} {fd fd' : FuncData} (F : FunD K x qual params body scope dvs kws f fd) (F' : FunD K x qual params body scope dvs kws f fd') : fd' = fd := by
  obtain ⟨oc, od, dV, kV, doc, pm, an, cdv, ct, osl, _, lk, _⟩ := F.ex
  obtain ⟨oc', od', dV', kV', doc', pm', an', cdv', ct', osl', _, lk', _⟩ := F'.ex
  rw [lk] at lk'
  have := Option.some.inj lk'
  injection this with h1 h2 h3 h4
  injection h3 with h3
  exact h3.symm
end Ml
set_option maxRecDepth 100000
set_option maxHeartbeats 2000000
namespace Ml
open PySem PySem.Spec PyProof.Rows L2
/-! ### one of two mirrors: the second where the first is stuck -/
def Out.alt {α : Type} (x y : Out α) : Out α := match x with
  | .stuck => y
  | o => o
def mAlt (m n : ME) : ME := fun env => (m env).alt (n env)
def mAltP (m n : MP) : MP := fun env => (m env).alt (n env)
def mAltA (m n : MA) : MA := fun env => (m env).alt (n env)
section
variable {X : Cx} {T : Tab} {e : Expr}
theorem pe_alt {t t' : TE} (h : PE X e t) (k : PE X e t') : PE X e (fun σ H Q => t σ H Q ∨ t' σ H Q) := ⟨fun pins s σ H Q I q => q.elim (h.run pins s σ H Q I) (k.run pins s σ H Q I)⟩
theorem trE_alt {m n : ME} (h : TrE X T e m) (k : TrE X T e n) : TrE X T e (mAlt m n) := fun F W tk => pe_imp (pe_alt (h F W tk) (k F W tk)) fun σ H Q ⟨env, B, R, q⟩ => by
  unfold mAlt at q
  cases hm : m env with
  | ok d env1 => rw [hm] at q; exact .inl ⟨env, B, R, by rw [hm]; exact q⟩
  | ex c fs env1 => rw [hm] at q; exact .inl ⟨env, B, R, by rw [hm]; exact q⟩
  | stuck => rw [hm] at q; exact .inr ⟨env, B, R, q⟩
theorem trN_alt {m n : ME} (h : TrN X T e m) (k : TrN X T e n) : TrN X T e (mAlt m n) := fun F W tk => pe_imp (pe_alt (h F W tk) (k F W tk)) fun σ H Q ⟨env, B, R, q⟩ => by
  unfold mAlt at q
  cases hm : m env with
  | ok d env1 => rw [hm] at q; exact .inl ⟨env, B, R, by rw [hm]; exact q⟩
  | ex c fs env1 => rw [hm] at q; exact .inl ⟨env, B, R, by rw [hm]; exact q⟩
  | stuck => rw [hm] at q; exact .inr ⟨env, B, R, q⟩
theorem trP_alt {m n : MP} (h : TrP X T e m) (k : TrP X T e n) : TrP X T e (mAltP m n) := fun F W tk => pe_imp (pe_alt (h F W tk) (k F W tk)) fun σ H Q ⟨env, B, R, q⟩ => by
  unfold mAltP at q
  cases hm : m env with
  | ok d env1 => rw [hm] at q; exact .inl ⟨env, B, R, by rw [hm]; exact q⟩
  | ex c fs env1 => rw [hm] at q; exact .inl ⟨env, B, R, by rw [hm]; exact q⟩
  | stuck => rw [hm] at q; exact .inr ⟨env, B, R, q⟩
end
end Ml
namespace K01
/-! lowest terms -/
/-- the sign that gcd takes -/
def sg (a b : Int) : Int := if b < 0 then -(Nat.gcd a.natAbs b.natAbs : Int) else (Nat.gcd a.natAbs b.natAbs : Int)
def tp (a b : Int) : Int := a.fdiv (sg a b)
def bt (a b : Int) : Int := b.fdiv (sg a b)
theorem gcd_pos {a b : Int} (hb : b ≠ 0) : 0 < Nat.gcd a.natAbs b.natAbs := Nat.gcd_pos_of_pos_right _ (by omega)
theorem sg_abs (a b : Int) : (sg a b).natAbs = Nat.gcd a.natAbs b.natAbs := by
  unfold sg; split <;> simp
theorem sg_ne {a b : Int} (hb : b ≠ 0) : sg a b ≠ 0 := by
  have h1 := sg_abs a b
  have h2 := gcd_pos (a := a) hb
  omega
theorem sg_dl (a b : Int) : sg a b ∣ a := by
  rw [← Int.natAbs_dvd_natAbs, sg_abs]; exact Nat.gcd_dvd_left _ _
theorem sg_dr (a b : Int) : sg a b ∣ b := by
  rw [← Int.natAbs_dvd_natAbs, sg_abs]; exact Nat.gcd_dvd_right _ _
theorem tp_mul (a b : Int) : tp a b * sg a b = a := by
  unfold tp; rw [Int.fdiv_eq_ediv_of_dvd (sg_dl a b)]; exact Int.ediv_mul_cancel (sg_dl a b)
theorem bt_mul (a b : Int) : bt a b * sg a b = b := by
  unfold bt; rw [Int.fdiv_eq_ediv_of_dvd (sg_dr a b)]; exact Int.ediv_mul_cancel (sg_dr a b)
theorem sg_scale {k a b : Int} (hk : k ≠ 0) (hb : b ≠ 0) : sg (k * a) (k * b) = k * sg a b := by
  have g : Nat.gcd (k * a).natAbs (k * b).natAbs = k.natAbs * Nat.gcd a.natAbs b.natAbs := by
    rw [Int.natAbs_mul, Int.natAbs_mul, Nat.gcd_mul_left]
  unfold sg
  rw [g]
  rcases Int.lt_or_gt_of_ne hk with h1 | h1 <;> rcases Int.lt_or_gt_of_ne hb with h2 | h2
  · rw [if_neg (by have := Int.mul_pos_of_neg_of_neg h1 h2; omega), if_pos h2, Int.natCast_mul, Int.ofNat_natAbs_of_nonpos (by omega), Int.mul_neg, Int.neg_mul]
  · rw [if_pos (Int.mul_neg_of_neg_of_pos h1 h2), if_neg (by omega), Int.natCast_mul, Int.ofNat_natAbs_of_nonpos (by omega), Int.neg_mul, Int.neg_neg]
  · rw [if_pos (Int.mul_neg_of_pos_of_neg h1 h2), if_pos h2, Int.natCast_mul, Int.natAbs_of_nonneg (by omega), Int.mul_neg]
  · rw [if_neg (by have := Int.mul_pos h1 h2; omega), if_neg (by omega), Int.natCast_mul, Int.natAbs_of_nonneg (by omega)]
theorem tp_scale {k a b : Int} (hk : k ≠ 0) (hb : b ≠ 0) : tp (k * a) (k * b) = tp a b := by
  have h := tp_mul (k * a) (k * b)
  rw [sg_scale hk hb] at h
  have h2 := tp_mul a b
  have s := sg_ne (a := a) hb
  have e : tp (k * a) (k * b) * (k * sg a b) = tp a b * (k * sg a b) := by
    rw [h, Int.mul_left_comm, h2]
  exact Int.eq_of_mul_eq_mul_right (Int.mul_ne_zero hk s) e
theorem bt_scale {k a b : Int} (hk : k ≠ 0) (hb : b ≠ 0) : bt (k * a) (k * b) = bt a b := by
  have h := bt_mul (k * a) (k * b)
  rw [sg_scale hk hb] at h
  have h2 := bt_mul a b
  have s := sg_ne (a := a) hb
  have e : bt (k * a) (k * b) * (k * sg a b) = bt a b * (k * sg a b) := by
    rw [h, Int.mul_left_comm, h2]
  exact Int.eq_of_mul_eq_mul_right (Int.mul_ne_zero hk s) e
theorem sg_pos {a b : Int} (hb : b ≠ 0) : 0 < sg a b ↔ 0 < b := by
  have h := gcd_pos (a := a) hb
  unfold sg; split <;> omega
theorem bt_pos {a b : Int} (hb : b ≠ 0) : 0 < bt a b := by
  have h := bt_mul a b
  have p := sg_pos (a := a) hb
  have n := sg_ne (a := a) hb
  rcases Int.lt_or_gt_of_ne hb with h1 | h1
  · have hs : sg a b < 0 := by omega
    rcases Int.lt_trichotomy (bt a b) 0 with z | z | z
    · have := Int.mul_pos_of_neg_of_neg z hs; omega
    · rw [z] at h; simp at h; omega
    · exact z
  · have hs : 0 < sg a b := p.mpr h1
    rcases Int.lt_trichotomy (bt a b) 0 with z | z | z
    · have := Int.mul_neg_of_neg_of_pos z hs; omega
    · rw [z] at h; simp at h; omega
    · exact z
theorem bt_ne {a b : Int} (hb : b ≠ 0) : bt a b ≠ 0 := by have := bt_pos (a := a) hb; omega
theorem tb_gcd {a b : Int} (hb : b ≠ 0) : Nat.gcd (tp a b).natAbs (bt a b).natAbs = 1 := by
  have h1 := tp_mul a b
  have h2 := bt_mul a b
  have h3 := sg_abs a b
  have g : Nat.gcd (tp a b * sg a b).natAbs (bt a b * sg a b).natAbs = Nat.gcd (tp a b).natAbs (bt a b).natAbs * (sg a b).natAbs := by
    rw [Int.natAbs_mul, Int.natAbs_mul, Nat.gcd_mul_right]
  rw [h1, h2, h3] at g
  have p := gcd_pos (a := a) hb
  have e : 1 * Nat.gcd a.natAbs b.natAbs = Nat.gcd (tp a b).natAbs (bt a b).natAbs * Nat.gcd a.natAbs b.natAbs := by omega
  exact (Nat.eq_of_mul_eq_mul_right p e).symm
/-- what is in lowest terms stays -/
theorem sg_low {p q : Int} (hq : 0 < q) (g : Nat.gcd p.natAbs q.natAbs = 1) : sg p q = 1 := by
  unfold sg; rw [if_neg (by omega), g]; rfl
theorem tp_low {p q : Int} (hq : 0 < q) (g : Nat.gcd p.natAbs q.natAbs = 1) : tp p q = p := by
  unfold tp; rw [sg_low hq g]; exact Int.fdiv_one p
theorem bt_low {p q : Int} (hq : 0 < q) (g : Nat.gcd p.natAbs q.natAbs = 1) : bt p q = q := by
  unfold bt; rw [sg_low hq g]; exact Int.fdiv_one q
theorem tp_one (a : Int) : tp a 1 = a := tp_low (by decide) (Nat.gcd_one_right _)
theorem bt_one (a : Int) : bt a 1 = 1 := bt_low (by decide) (Nat.gcd_one_right _)
theorem tp_zero {b : Int} (hb : b ≠ 0) : tp 0 b = 0 := by
  have h := tp_mul 0 b
  rcases Int.mul_eq_zero.mp h with z | z
  · exact z
  · exact absurd z (sg_ne hb)
/-- two ratios are alike if their products are -/
theorem low_iff {a b c d : Int} (hb : b ≠ 0) (hd : d ≠ 0) : (tp a b = tp c d ∧ bt a b = bt c d) ↔ a * d = c * b := by
  constructor
  · rintro ⟨h1, h2⟩
    have e1 := tp_mul a b
    have e2 := bt_mul a b
    have e3 := tp_mul c d
    have e4 := bt_mul c d
    calc a * d = (tp a b * sg a b) * (bt c d * sg c d) := by rw [e1, e4]
      _ = (tp c d * sg c d) * (bt a b * sg a b) := by
        rw [h1, h2]; simp only [Int.mul_comm, Int.mul_left_comm, Int.mul_assoc]
      _ = c * b := by rw [e3, e2]
  · intro h
    have t1 : tp a b = tp (d * a) (d * b) := (tp_scale hd hb).symm
    have t2 : bt a b = bt (d * a) (d * b) := (bt_scale hd hb).symm
    have e1 : d * a = b * c := by rw [Int.mul_comm d a, h, Int.mul_comm c b]
    have e2 : d * b = b * d := Int.mul_comm d b
    rw [t1, t2, e1, e2]
    exact ⟨tp_scale hb hd, bt_scale hb hd⟩
theorem tp_le (a b : Int) : (tp a b).natAbs ≤ a.natAbs := by
  have h := tp_mul a b
  by_cases z : sg a b = 0
  · have : tp a b = 0 := by unfold tp; rw [z]; exact Int.fdiv_zero a
    rw [this]; simp
  · have e : a.natAbs = (tp a b).natAbs * (sg a b).natAbs := by rw [← Int.natAbs_mul, h]
    rw [e]
    exact Nat.le_mul_of_pos_right _ (by omega)
theorem bt_le (a b : Int) : (bt a b).natAbs ≤ b.natAbs := by
  have h := bt_mul a b
  by_cases z : sg a b = 0
  · have : bt a b = 0 := by unfold bt; rw [z]; exact Int.fdiv_zero b
    rw [this]; simp
  · have e : b.natAbs = (bt a b).natAbs * (sg a b).natAbs := by rw [← Int.natAbs_mul, h]
    rw [e]
    exact Nat.le_mul_of_pos_right _ (by omega)
/-- sums and products of lowest terms -/
theorem add_low {a b c d : Int} (hb : b ≠ 0) (hd : d ≠ 0) :
    tp (tp a b * bt c d + tp c d * bt a b) (bt a b * bt c d) = tp (a * d + c * b) (b * d) ∧ bt (tp a b * bt c d + tp c d * bt a b) (bt a b * bt c d) = bt (a * d + c * b) (b * d) := by
  have e1 := tp_mul a b
  have e2 := bt_mul a b
  have e3 := tp_mul c d
  have e4 := bt_mul c d
  have s := sg_ne (a := a) hb
  have t := sg_ne (a := c) hd
  have q := bt_ne (a := a) hb
  have q' := bt_ne (a := c) hd
  have f1 : a * d + c * b = (sg a b * sg c d) * (tp a b * bt c d + tp c d * bt a b) := by
    rw [Int.mul_add]
    have x1 : sg a b * sg c d * (tp a b * bt c d) = (tp a b * sg a b) * (bt c d * sg c d) := by
      simp only [Int.mul_comm, Int.mul_left_comm, Int.mul_assoc]
    have x2 : sg a b * sg c d * (tp c d * bt a b) = (tp c d * sg c d) * (bt a b * sg a b) := by
      simp only [Int.mul_comm, Int.mul_left_comm, Int.mul_assoc]
    rw [x1, x2, e1, e2, e3, e4]
  have f2 : b * d = (sg a b * sg c d) * (bt a b * bt c d) := by
    have x1 : sg a b * sg c d * (bt a b * bt c d) = (bt a b * sg a b) * (bt c d * sg c d) := by
      simp only [Int.mul_comm, Int.mul_left_comm, Int.mul_assoc]
    rw [x1, e2, e4]
  rw [f1, f2]
  exact ⟨(tp_scale (Int.mul_ne_zero s t) (Int.mul_ne_zero q q')).symm, (bt_scale (Int.mul_ne_zero s t) (Int.mul_ne_zero q q')).symm⟩
theorem mul_low {a b c d : Int} (hb : b ≠ 0) (hd : d ≠ 0) :
    tp (tp a b * tp c d) (bt a b * bt c d) = tp (a * c) (b * d) ∧ bt (tp a b * tp c d) (bt a b * bt c d) = bt (a * c) (b * d) := by
  have e1 := tp_mul a b
  have e2 := bt_mul a b
  have e3 := tp_mul c d
  have e4 := bt_mul c d
  have s := sg_ne (a := a) hb
  have t := sg_ne (a := c) hd
  have q := bt_ne (a := a) hb
  have q' := bt_ne (a := c) hd
  have f1 : a * c = (sg a b * sg c d) * (tp a b * tp c d) := by
    have x1 : sg a b * sg c d * (tp a b * tp c d) = (tp a b * sg a b) * (tp c d * sg c d) := by
      simp only [Int.mul_comm, Int.mul_left_comm, Int.mul_assoc]
    rw [x1, e1, e3]
  have f2 : b * d = (sg a b * sg c d) * (bt a b * bt c d) := by
    have x1 : sg a b * sg c d * (bt a b * bt c d) = (bt a b * sg a b) * (bt c d * sg c d) := by
      simp only [Int.mul_comm, Int.mul_left_comm, Int.mul_assoc]
    rw [x1, e2, e4]
  rw [f1, f2]
  exact ⟨(tp_scale (Int.mul_ne_zero s t) (Int.mul_ne_zero q q')).symm, (bt_scale (Int.mul_ne_zero s t) (Int.mul_ne_zero q q')).symm⟩
theorem tp_ne {a b : Int} (hb : b ≠ 0) : tp a b = 0 ↔ a = 0 := by
  constructor
  · intro h; have e := tp_mul a b; rw [h] at e; simp at e; exact e.symm
  · intro h; subst h; exact tp_zero hb
theorem tp_neg {a b : Int} (hb : b ≠ 0) : tp (-a) b = -tp a b ∧ bt (-a) b = bt a b := by
  have g : sg (-a) b = sg a b := by unfold sg; rw [Int.natAbs_neg]
  have s := sg_ne (a := a) hb
  constructor
  · have h1 := tp_mul (-a) b
    have h2 := tp_mul a b
    rw [g] at h1
    have e : tp (-a) b * sg a b = (-tp a b) * sg a b := by rw [h1, Int.neg_mul, h2]
    exact Int.eq_of_mul_eq_mul_right s e
  · unfold bt; rw [g]
/-- the order of two -/
theorem sub_sign {a b c d : Int} (hb : b ≠ 0) (hd : d ≠ 0) :
    ((a * d - c * b) * (b * d) < 0 ↔ tp a b * bt c d - tp c d * bt a b < 0) ∧ (0 < (a * d - c * b) * (b * d) ↔ 0 < tp a b * bt c d - tp c d * bt a b) := by
  have e1 := tp_mul a b
  have e2 := bt_mul a b
  have e3 := tp_mul c d
  have e4 := bt_mul c d
  have s := sg_ne (a := a) hb
  have t := sg_ne (a := c) hd
  have q := bt_pos (a := a) hb
  have q' := bt_pos (a := c) hd
  have f : (a * d - c * b) * (b * d) = ((sg a b * sg c d) * (sg a b * sg c d) * (bt a b * bt c d)) * (tp a b * bt c d - tp c d * bt a b) := by
    have x1 : a * d - c * b = (sg a b * sg c d) * (tp a b * bt c d - tp c d * bt a b) := by
      rw [Int.mul_sub]
      have x1 : sg a b * sg c d * (tp a b * bt c d) = (tp a b * sg a b) * (bt c d * sg c d) := by
        simp only [Int.mul_comm, Int.mul_left_comm, Int.mul_assoc]
      have x2 : sg a b * sg c d * (tp c d * bt a b) = (tp c d * sg c d) * (bt a b * sg a b) := by
        simp only [Int.mul_comm, Int.mul_left_comm, Int.mul_assoc]
      rw [x1, x2, e1, e2, e3, e4]
    have x2 : b * d = (sg a b * sg c d) * (bt a b * bt c d) := by
      have x1 : sg a b * sg c d * (bt a b * bt c d) = (bt a b * sg a b) * (bt c d * sg c d) := by
        simp only [Int.mul_comm, Int.mul_left_comm, Int.mul_assoc]
      rw [x1, e2, e4]
    rw [x1, x2]
    simp only [Int.mul_comm, Int.mul_left_comm, Int.mul_assoc]
  have P : 0 < (sg a b * sg c d) * (sg a b * sg c d) * (bt a b * bt c d) := by
    have u : sg a b * sg c d ≠ 0 := Int.mul_ne_zero s t
    have v : 0 < (sg a b * sg c d) * (sg a b * sg c d) := by
      rcases Int.lt_or_gt_of_ne u with h | h
      · exact Int.mul_pos_of_neg_of_neg h h
      · exact Int.mul_pos h h
    exact Int.mul_pos v (Int.mul_pos q q')
  rw [f]
  generalize (sg a b * sg c d) * (sg a b * sg c d) * (bt a b * bt c d) = P at *
  generalize tp a b * bt c d - tp c d * bt a b = z
  constructor
  · constructor
    · intro h
      rcases Int.lt_trichotomy z 0 with y | y | y
      · exact y
      · subst y; simp at h
      · have := Int.mul_pos P y; omega
    · intro h; exact Int.mul_neg_of_pos_of_neg P h
  · constructor
    · intro h
      rcases Int.lt_trichotomy z 0 with y | y | y
      · have := Int.mul_neg_of_pos_of_neg P y; omega
      · subst y; simp at h
      · exact y
    · intro h; exact Int.mul_pos P h
/-! sizes -/
def Bd (n : Nat) (i : Int) : Prop := i.natAbs < 2 ^ n
theorem Bd.log {n m : Nat} {i : Int} (h : Bd n i) (hm : n ≤ m) (h0 : 0 < m) : i.natAbs.log2 < m := by
  by_cases z : i.natAbs = 0
  · rw [z]; simpa using h0
  · exact Nat.lt_of_lt_of_le ((Nat.log2_lt z).mpr h) hm
theorem Bd.mul {n m : Nat} {i j : Int} (h : Bd n i) (h' : Bd m j) : Bd (n + m) (i * j) := by
  unfold Bd at *
  rw [Int.natAbs_mul, Nat.pow_add]
  by_cases z : j.natAbs = 0
  · rw [z]; simp; exact Nat.mul_pos (Nat.two_pow_pos n) (Nat.two_pow_pos m)
  · exact Nat.mul_lt_mul_of_lt_of_le h (Nat.le_of_lt h') (by omega)
theorem Bd.mono {n m : Nat} {i : Int} (h : Bd n i) (hm : n ≤ m) : Bd m i := Nat.lt_of_lt_of_le h (Nat.pow_le_pow_right (by decide) hm)
theorem Bd.add {n : Nat} {i j : Int} (h : Bd n i) (h' : Bd n j) : Bd (n + 1) (i + j) := by
  unfold Bd at *
  rw [Nat.pow_succ]; omega
theorem Bd.sub {n : Nat} {i j : Int} (h : Bd n i) (h' : Bd n j) : Bd (n + 1) (i - j) := by
  unfold Bd at *
  rw [Nat.pow_succ]; omega
theorem Bd.neg {n : Nat} {i : Int} (h : Bd n i) : Bd n (-i) := by unfold Bd at *; rwa [Int.natAbs_neg]
theorem Bd.tp {n : Nat} {a : Int} (b : Int) (h : Bd n a) : Bd n (tp a b) := Nat.lt_of_le_of_lt (tp_le a b) h
theorem Bd.bt {n : Nat} {b : Int} (a : Int) (h : Bd n b) : Bd n (bt a b) := Nat.lt_of_le_of_lt (bt_le a b) h
end K01
set_option maxRecDepth 100000
set_option maxHeartbeats 0
namespace K01
open PySem PySem.Spec PyProof.Rows L2 Ml
def top (i : Nat) : Stmt := PySem.Challenge.pw_lastgiver_k01_names_integers_and_ratios.main.body.getD i (.Pass ⟨0, 0, 0, 0⟩)
def cn : Nat → Str
  | 0 => (PySem.Str.ofString "Scan")
  | 1 => (PySem.Str.ofString "Ratio")
  | 2 => (PySem.Str.ofString "BadRatio")
  | 3 => (PySem.Str.ofString "BadText")
  | _ => (PySem.Str.ofString "")
def fl : Nat → List Str
  | 0 => [(PySem.Str.ofString "words"), (PySem.Str.ofString "at")]
  | 1 => [(PySem.Str.ofString "top"), (PySem.Str.ofString "bottom")]
  | 2 => [(PySem.Str.ofString "part")]
  | 3 => [(PySem.Str.ofString "line"), (PySem.Str.ofString "word")]
  | _ => []
def tbl (K : PySem.W.Frag) : List (Addr × Addr) := [(He.codeOf K ((PySem.Str.ofString "_law_errors_right"), none), He.tabOf K (He.codeOf K ((PySem.Str.ofString "_law_errors_right"), none)))]
abbrev kin : Nat → Nat → Bool := fun a b => a == b
abbrev t0 : Tab := tab0 2 kin
def tab (K : PySem.W.Frag) : Tab := ⟨K, fun c => He.ga K (cn c), fl, fun _ => 0, 2, kin, [(He.tabOf K (He.codeOf K ((PySem.Str.ofString "_law_errors_right"), none)), (envOfC (PySem.Str.ofString "_law_errors_right") (defScope (top 39)) 0 0 .none).qual ++ (PySem.Str.ofString "<lambda>"))]⟩
def fn : List DefX := ([⟨(fun K => He.ma K (He.ga K (PySem.Str.ofString "BadRatio")) (PySem.Str.ofString "__init__")), (PySem.Str.ofString "__init__"), (PySem.Str.ofString "BadRatio.__init__"), defArgs (inClass (top 11) 0), defBody (inClass (top 11) 0), defScope (inClass (top 11) 0), []⟩,
   ⟨(fun K => He.ga K (PySem.Str.ofString "is_integer")), (PySem.Str.ofString "is_integer"), (PySem.Str.ofString "is_integer"), defArgs (top 6), defBody (top 6), defScope (top 6), []⟩,
   ⟨(fun K => He.ma K (He.ga K (PySem.Str.ofString "Ratio")) (PySem.Str.ofString "__init__")), (PySem.Str.ofString "__init__"), (PySem.Str.ofString "Ratio.__init__"), defArgs (inClass (top 22) 0), defBody (inClass (top 22) 0), defScope (inClass (top 22) 0), [.int 1]⟩,
   ⟨(fun K => He.ga K (PySem.Str.ofString "ratio_from")), (PySem.Str.ofString "ratio_from"), (PySem.Str.ofString "ratio_from"), defArgs (top 19), defBody (top 19), defScope (top 19), []⟩,
   ⟨(fun K => inner "staticmethod" K (PySem.Str.ofString "Ratio") (PySem.Str.ofString "of")), (PySem.Str.ofString "of"), (PySem.Str.ofString "Ratio.of"), defArgs (inClass (top 22) 1), defBody (inClass (top 22) 1), defScope (inClass (top 22) 1), []⟩,
   ⟨(fun K => He.ga K (PySem.Str.ofString "_law_is_name")), (PySem.Str.ofString "_law_is_name"), (PySem.Str.ofString "_law_is_name"), defArgs (top 30), defBody (top 30), defScope (top 30), []⟩,
   ⟨(fun K => He.ga K (PySem.Str.ofString "_law_scoop")), (PySem.Str.ofString "_law_scoop"), (PySem.Str.ofString "_law_scoop"), defArgs (top 28), defBody (top 28), defScope (top 28), []⟩,
   ⟨(fun K => He.ga K (PySem.Str.ofString "_law_text")), (PySem.Str.ofString "_law_text"), (PySem.Str.ofString "_law_text"), defArgs (top 29), defBody (top 29), defScope (top 29), []⟩,
   ⟨(fun K => He.ga K (PySem.Str.ofString "is_name")), (PySem.Str.ofString "is_name"), (PySem.Str.ofString "is_name"), defArgs (top 8), defBody (top 8), defScope (top 8), []⟩,
   ⟨(fun K => He.ga K (PySem.Str.ofString "is_within")), (PySem.Str.ofString "is_within"), (PySem.Str.ofString "is_within"), defArgs (top 7), defBody (top 7), defScope (top 7), []⟩] : List DefX) ++
  ([⟨(fun K => He.ga K (PySem.Str.ofString "_law_checks_right")), (PySem.Str.ofString "_law_checks_right"), (PySem.Str.ofString "_law_checks_right"), defArgs (top 31), defBody (top 31), defScope (top 31), []⟩,
   ⟨(fun K => He.ma K (He.ga K (PySem.Str.ofString "Ratio")) (PySem.Str.ofString "__abs__")), (PySem.Str.ofString "__abs__"), (PySem.Str.ofString "Ratio.__abs__"), defArgs (inClass (top 22) 9), defBody (inClass (top 22) 9), defScope (inClass (top 22) 9), []⟩,
   ⟨(fun K => He.ma K (He.ga K (PySem.Str.ofString "Ratio")) (PySem.Str.ofString "__add__")), (PySem.Str.ofString "__add__"), (PySem.Str.ofString "Ratio.__add__"), defArgs (inClass (top 22) 5), defBody (inClass (top 22) 5), defScope (inClass (top 22) 5), []⟩,
   ⟨(fun K => He.ma K (He.ga K (PySem.Str.ofString "Ratio")) (PySem.Str.ofString "__bool__")), (PySem.Str.ofString "__bool__"), (PySem.Str.ofString "Ratio.__bool__"), defArgs (inClass (top 22) 10), defBody (inClass (top 22) 10), defScope (inClass (top 22) 10), []⟩,
   ⟨(fun K => He.ma K (He.ga K (PySem.Str.ofString "Ratio")) (PySem.Str.ofString "__eq__")), (PySem.Str.ofString "__eq__"), (PySem.Str.ofString "Ratio.__eq__"), defArgs (inClass (top 22) 11), defBody (inClass (top 22) 11), defScope (inClass (top 22) 11), []⟩,
   ⟨(fun K => He.ma K (He.ga K (PySem.Str.ofString "Ratio")) (PySem.Str.ofString "__mul__")), (PySem.Str.ofString "__mul__"), (PySem.Str.ofString "Ratio.__mul__"), defArgs (inClass (top 22) 7), defBody (inClass (top 22) 7), defScope (inClass (top 22) 7), []⟩,
   ⟨(fun K => He.ma K (He.ga K (PySem.Str.ofString "Ratio")) (PySem.Str.ofString "__neg__")), (PySem.Str.ofString "__neg__"), (PySem.Str.ofString "Ratio.__neg__"), defArgs (inClass (top 22) 8), defBody (inClass (top 22) 8), defScope (inClass (top 22) 8), []⟩,
   ⟨(fun K => He.ma K (He.ga K (PySem.Str.ofString "Ratio")) (PySem.Str.ofString "__str__")), (PySem.Str.ofString "__str__"), (PySem.Str.ofString "Ratio.__str__"), defArgs (inClass (top 22) 12), defBody (inClass (top 22) 12), defScope (inClass (top 22) 12), []⟩,
   ⟨(fun K => He.ma K (He.ga K (PySem.Str.ofString "Ratio")) (PySem.Str.ofString "__sub__")), (PySem.Str.ofString "__sub__"), (PySem.Str.ofString "Ratio.__sub__"), defArgs (inClass (top 22) 6), defBody (inClass (top 22) 6), defScope (inClass (top 22) 6), []⟩,
   ⟨(fun K => He.ma K (He.ga K (PySem.Str.ofString "Ratio")) (PySem.Str.ofString "__repr__")), (PySem.Str.ofString "__repr__"), (PySem.Str.ofString "Ratio.__repr__"), defArgs (inClass (top 22) 13), defBody (inClass (top 22) 13), defScope (inClass (top 22) 13), []⟩] : List DefX) ++
  ([⟨(fun K => He.ma K (He.ga K (PySem.Str.ofString "Ratio")) (PySem.Str.ofString "compared")), (PySem.Str.ofString "compared"), (PySem.Str.ofString "Ratio.compared"), defArgs (inClass (top 22) 15), defBody (inClass (top 22) 15), defScope (inClass (top 22) 15), []⟩,
   ⟨(fun K => He.ma K (He.ga K (PySem.Str.ofString "Ratio")) (PySem.Str.ofString "is_below")), (PySem.Str.ofString "is_below"), (PySem.Str.ofString "Ratio.is_below"), defArgs (inClass (top 22) 16), defBody (inClass (top 22) 16), defScope (inClass (top 22) 16), []⟩,
   ⟨(fun K => He.ma K (He.ga K (PySem.Str.ofString "Ratio")) (PySem.Str.ofString "over")), (PySem.Str.ofString "over"), (PySem.Str.ofString "Ratio.over"), defArgs (inClass (top 22) 14), defBody (inClass (top 22) 14), defScope (inClass (top 22) 14), []⟩,
   ⟨(fun K => He.ga K (PySem.Str.ofString "_law_refused")), (PySem.Str.ofString "_law_refused"), (PySem.Str.ofString "_law_refused"), defArgs (top 38), defBody (top 38), defScope (top 38), []⟩,
   ⟨(fun K => He.ga K (PySem.Str.ofString "is_ratio")), (PySem.Str.ofString "is_ratio"), (PySem.Str.ofString "is_ratio"), defArgs (top 18), defBody (top 18), defScope (top 18), []⟩,
   ⟨(fun K => He.ga K (PySem.Str.ofString "added")), (PySem.Str.ofString "added"), (PySem.Str.ofString "added"), defArgs (top 23), defBody (top 23), defScope (top 23), []⟩,
   ⟨(fun K => He.ga K (PySem.Str.ofString "greatest_of")), (PySem.Str.ofString "greatest_of"), (PySem.Str.ofString "greatest_of"), defArgs (top 24), defBody (top 24), defScope (top 24), []⟩,
   ⟨(fun K => He.ga K (PySem.Str.ofString "least_of")), (PySem.Str.ofString "least_of"), (PySem.Str.ofString "least_of"), defArgs (top 25), defBody (top 25), defScope (top 25), []⟩,
   ⟨(fun K => He.ga K (PySem.Str.ofString "_law_errors_right")), (PySem.Str.ofString "_law_errors_right"), (PySem.Str.ofString "_law_errors_right"), defArgs (top 39), defBody (top 39), defScope (top 39), []⟩,
   ⟨(fun K => He.ga K (PySem.Str.ofString "_law_divisor")), (PySem.Str.ofString "_law_divisor"), (PySem.Str.ofString "_law_divisor"), defArgs (top 33), defBody (top 33), defScope (top 33), []⟩] : List DefX) ++
  ([⟨(fun K => He.ga K (PySem.Str.ofString "_law_due")), (PySem.Str.ofString "_law_due"), (PySem.Str.ofString "_law_due"), defArgs (top 34), defBody (top 34), defScope (top 34), []⟩,
   ⟨(fun K => He.ga K (PySem.Str.ofString "_law_is")), (PySem.Str.ofString "_law_is"), (PySem.Str.ofString "_law_is"), defArgs (top 35), defBody (top 35), defScope (top 35), []⟩,
   ⟨(fun K => He.ga K (PySem.Str.ofString "_law_pair")), (PySem.Str.ofString "_law_pair"), (PySem.Str.ofString "_law_pair"), defArgs (top 32), defBody (top 32), defScope (top 32), []⟩,
   ⟨(fun K => He.ga K (PySem.Str.ofString "_law_sums_right")), (PySem.Str.ofString "_law_sums_right"), (PySem.Str.ofString "_law_sums_right"), defArgs (top 37), defBody (top 37), defScope (top 37), []⟩,
   ⟨(fun K => inner "property" K (PySem.Str.ofString "Ratio") (PySem.Str.ofString "is_whole")), (PySem.Str.ofString "is_whole"), (PySem.Str.ofString "Ratio.is_whole"), defArgs (inClass (top 22) 4), defBody (inClass (top 22) 4), defScope (inClass (top 22) 4), []⟩,
   ⟨(fun K => He.ma K (He.ga K (PySem.Str.ofString "BadText")) (PySem.Str.ofString "__init__")), (PySem.Str.ofString "__init__"), (PySem.Str.ofString "BadText.__init__"), defArgs (inClass (top 12) 0), defBody (inClass (top 12) 0), defScope (inClass (top 12) 0), []⟩,
   ⟨(fun K => He.ma K (He.ga K (PySem.Str.ofString "Scan")) (PySem.Str.ofString "__init__")), (PySem.Str.ofString "__init__"), (PySem.Str.ofString "Scan.__init__"), defArgs (inClass (top 16) 0), defBody (inClass (top 16) 0), defScope (inClass (top 16) 0), []⟩,
   ⟨(fun K => He.ma K (He.ga K (PySem.Str.ofString "Scan")) (PySem.Str.ofString "refuse")), (PySem.Str.ofString "refuse"), (PySem.Str.ofString "Scan.refuse"), defArgs (inClass (top 16) 3), defBody (inClass (top 16) 3), defScope (inClass (top 16) 3), []⟩,
   ⟨(fun K => He.ma K (He.ga K (PySem.Str.ofString "Scan")) (PySem.Str.ofString "finish")), (PySem.Str.ofString "finish"), (PySem.Str.ofString "Scan.finish"), defArgs (inClass (top 16) 11), defBody (inClass (top 16) 11), defScope (inClass (top 16) 11), []⟩,
   ⟨(fun K => He.ma K (He.ga K (PySem.Str.ofString "Scan")) (PySem.Str.ofString "is_over")), (PySem.Str.ofString "is_over"), (PySem.Str.ofString "Scan.is_over"), defArgs (inClass (top 16) 1), defBody (inClass (top 16) 1), defScope (inClass (top 16) 1), []⟩] : List DefX) ++
  ([⟨(fun K => He.ma K (He.ga K (PySem.Str.ofString "Scan")) (PySem.Str.ofString "seen")), (PySem.Str.ofString "seen"), (PySem.Str.ofString "Scan.seen"), defArgs (inClass (top 16) 2), defBody (inClass (top 16) 2), defScope (inClass (top 16) 2), []⟩,
   ⟨(fun K => He.ma K (He.ga K (PySem.Str.ofString "Scan")) (PySem.Str.ofString "take")), (PySem.Str.ofString "take"), (PySem.Str.ofString "Scan.take"), defArgs (inClass (top 16) 5), defBody (inClass (top 16) 5), defScope (inClass (top 16) 5), []⟩,
   ⟨(fun K => He.ga K (PySem.Str.ofString "number_in")), (PySem.Str.ofString "number_in"), (PySem.Str.ofString "number_in"), defArgs (top 15), defBody (top 15), defScope (top 15), []⟩,
   ⟨(fun K => He.ga K (PySem.Str.ofString "ratio_in")), (PySem.Str.ofString "ratio_in"), (PySem.Str.ofString "ratio_in"), defArgs (top 20), defBody (top 20), defScope (top 20), []⟩,
   ⟨(fun K => He.ga K (PySem.Str.ofString "take_ratio")), (PySem.Str.ofString "take_ratio"), (PySem.Str.ofString "take_ratio"), defArgs (top 21), defBody (top 21), defScope (top 21), []⟩,
   ⟨(fun K => inner "classmethod" K (PySem.Str.ofString "Ratio") (PySem.Str.ofString "read")), (PySem.Str.ofString "read"), (PySem.Str.ofString "Ratio.read"), defArgs (inClass (top 22) 2), defBody (inClass (top 22) 2), defScope (inClass (top 22) 2), []⟩,
   ⟨(fun K => inner "property" K (PySem.Str.ofString "Ratio") (PySem.Str.ofString "sign")), (PySem.Str.ofString "sign"), (PySem.Str.ofString "Ratio.sign"), defArgs (inClass (top 22) 3), defBody (inClass (top 22) 3), defScope (inClass (top 22) 3), []⟩,
   ⟨(fun K => He.ga K (PySem.Str.ofString "_law_texts_right")), (PySem.Str.ofString "_law_texts_right"), (PySem.Str.ofString "_law_texts_right"), defArgs (top 36), defBody (top 36), defScope (top 36), []⟩,
   ⟨(fun K => He.ga K (PySem.Str.ofString "_law_tub")), (PySem.Str.ofString "_law_tub"), (PySem.Str.ofString "_law_tub"), defArgs (top 27), defBody (top 27), defScope (top 27), []⟩,
   ⟨(fun K => He.ga K (PySem.Str.ofString "law")), (PySem.Str.ofString "law"), (PySem.Str.ofString "law"), defArgs (top 40), defBody (top 40), defScope (top 40), []⟩] : List DefX)
def fa : List (PySem.W.Frag → Bool) := ([(He.Fa.glo (PySem.Str.ofString "is_integer")).ok,
   (He.Fa.glo (PySem.Str.ofString "BadRatio")).ok,
   (He.Fa.glo (PySem.Str.ofString "Ratio")).ok,
   (He.Fa.glo (PySem.Str.ofString "ratio_from")).ok,
   (He.Fa.glo (PySem.Str.ofString "_law_scoop")).ok,
   (He.Fa.glo (PySem.Str.ofString "_law_text")).ok,
   (He.Fa.glo (PySem.Str.ofString "is_name")).ok,
   (He.Fa.glo (PySem.Str.ofString "_law_is_name")).ok,
   (He.Fa.glo (PySem.Str.ofString "is_within")).ok,
   (He.Fa.glo (PySem.Str.ofString "is_ratio")).ok,
   (He.Fa.glo (PySem.Str.ofString "greatest_of")).ok,
   (He.Fa.glo (PySem.Str.ofString "_law_refused")).ok,
   (He.Fa.glo (PySem.Str.ofString "added")).ok,
   (He.Fa.glo (PySem.Str.ofString "least_of")).ok,
   (He.Fa.glo (PySem.Str.ofString "_law_divisor")).ok] : List (PySem.W.Frag → Bool)) ++
  ([(He.Fa.glo (PySem.Str.ofString "_law_due")).ok,
   (He.Fa.glo (PySem.Str.ofString "_law_is")).ok,
   (He.Fa.glo (PySem.Str.ofString "BadText")).ok,
   (He.Fa.glo (PySem.Str.ofString "number_in")).ok,
   (He.Fa.glo (PySem.Str.ofString "ratio_in")).ok,
   (He.Fa.glo (PySem.Str.ofString "Scan")).ok,
   (He.Fa.glo (PySem.Str.ofString "take_ratio")).ok,
   (He.Fa.glo (PySem.Str.ofString "_law_tub")).ok,
   (He.Fa.glo (PySem.Str.ofString "_law_pair")).ok,
   (He.Fa.glo (PySem.Str.ofString "_law_checks_right")).ok,
   (He.Fa.glo (PySem.Str.ofString "_law_texts_right")).ok,
   (He.Fa.glo (PySem.Str.ofString "_law_sums_right")).ok,
   (He.Fa.glo (PySem.Str.ofString "_law_errors_right")).ok,
   (He.Fa.glo (PySem.Str.ofString "law")).ok,
   (He.Fa.free (PySem.Str.ofString "int")).ok] : List (PySem.W.Frag → Bool)) ++
  ([(He.Fa.free (PySem.Str.ofString "isinstance")).ok,
   (He.Fa.free (PySem.Str.ofString "bool")).ok,
   (He.Fa.free (PySem.Str.ofString "len")).ok,
   (He.Fa.free (PySem.Str.ofString "range")).ok,
   (He.Fa.free (PySem.Str.ofString "str")).ok,
   (He.Fa.free (PySem.Str.ofString "abs")).ok,
   (He.Fa.free (PySem.Str.ofString "tuple")).ok,
   (He.Fa.free (PySem.Str.ofString "list")).ok,
   (He.Fa.free (PySem.Str.ofString "all")).ok,
   (He.Fa.free (PySem.Str.ofString "repr")).ok,
   (He.Fa.int (PySem.Str.ofString "MOST_SIGNS") 12).ok,
   (He.Fa.str (PySem.Str.ofString "SMALL") (PySem.Str.ofString "abcdefghijklmnopqrstuvwxyz")).ok,
   (He.Fa.str (PySem.Str.ofString "DIGITS") (PySem.Str.ofString "0123456789")).ok,
   (He.Fa.int (PySem.Str.ofString "MOST_DIGITS") 60).ok,
   (fun K => decide (PySem.W.nsIn K mainGlobals (PySem.Str.ofString "gcd") = some (some (.builtin "math.gcd"))))] : List (PySem.W.Frag → Bool)) ++
  ([(fun K => tabB (tab K)),
   (fun K => clsB K (He.ga K (PySem.Str.ofString "Scan"))),
   (He.Fa.mkr (PySem.Str.ofString "Scan")).ok,
   (fun K => readB K (He.ga K (PySem.Str.ofString "Scan"))),
   (fun K => clsB K (He.ga K (PySem.Str.ofString "Ratio"))),
   (He.Fa.mkr (PySem.Str.ofString "Ratio")).ok,
   (fun K => readB K (He.ga K (PySem.Str.ofString "Ratio"))),
   (fun K => smetB K (He.ga K (PySem.Str.ofString "Ratio")) (PySem.Str.ofString "of") (He.ma K (He.ga K (PySem.Str.ofString "Ratio")) (PySem.Str.ofString "of")) (inner "staticmethod" K (PySem.Str.ofString "Ratio") (PySem.Str.ofString "of"))),
   (fun K => ownB1 K (He.ga K (PySem.Str.ofString "Ratio")) (PySem.Str.ofString "__abs__") (He.ma K (He.ga K (PySem.Str.ofString "Ratio")) (PySem.Str.ofString "__abs__"))),
   (fun K => binB K (He.ga K (PySem.Str.ofString "Ratio")) "add" (He.ma K (He.ga K (PySem.Str.ofString "Ratio")) (PySem.Str.ofString "__add__"))),
   (fun K => ownB1 K (He.ga K (PySem.Str.ofString "Ratio")) (PySem.Str.ofString "__bool__") (He.ma K (He.ga K (PySem.Str.ofString "Ratio")) (PySem.Str.ofString "__bool__"))),
   (fun K => ownB1 K (He.ga K (PySem.Str.ofString "Ratio")) (PySem.Str.ofString "__eq__") (He.ma K (He.ga K (PySem.Str.ofString "Ratio")) (PySem.Str.ofString "__eq__"))),
   (fun K => binB K (He.ga K (PySem.Str.ofString "Ratio")) "mul" (He.ma K (He.ga K (PySem.Str.ofString "Ratio")) (PySem.Str.ofString "__mul__"))),
   (fun K => ownB1 K (He.ga K (PySem.Str.ofString "Ratio")) (PySem.Str.ofString "__neg__") (He.ma K (He.ga K (PySem.Str.ofString "Ratio")) (PySem.Str.ofString "__neg__"))),
   (fun K => ownB1 K (He.ga K (PySem.Str.ofString "Ratio")) (PySem.Str.ofString "__str__") (He.ma K (He.ga K (PySem.Str.ofString "Ratio")) (PySem.Str.ofString "__str__")))] : List (PySem.W.Frag → Bool)) ++
  ([(fun K => binB K (He.ga K (PySem.Str.ofString "Ratio")) "sub" (He.ma K (He.ga K (PySem.Str.ofString "Ratio")) (PySem.Str.ofString "__sub__"))),
   (fun K => ownB1 K (He.ga K (PySem.Str.ofString "Ratio")) (PySem.Str.ofString "__repr__") (He.ma K (He.ga K (PySem.Str.ofString "Ratio")) (PySem.Str.ofString "__repr__"))),
   (He.Fa.meth (PySem.Str.ofString "Ratio") (PySem.Str.ofString "compared")).ok,
   (He.Fa.meth (PySem.Str.ofString "Ratio") (PySem.Str.ofString "is_below")).ok,
   (He.Fa.meth (PySem.Str.ofString "Ratio") (PySem.Str.ofString "over")).ok,
   (fun K => propB K (He.ga K (PySem.Str.ofString "Ratio")) (PySem.Str.ofString "is_whole") (He.ma K (He.ga K (PySem.Str.ofString "Ratio")) (PySem.Str.ofString "is_whole")) (inner "property" K (PySem.Str.ofString "Ratio") (PySem.Str.ofString "is_whole"))),
   (He.Fa.meth (PySem.Str.ofString "Scan") (PySem.Str.ofString "refuse")).ok,
   (He.Fa.meth (PySem.Str.ofString "Scan") (PySem.Str.ofString "finish")).ok,
   (He.Fa.meth (PySem.Str.ofString "Scan") (PySem.Str.ofString "is_over")).ok,
   (He.Fa.meth (PySem.Str.ofString "Scan") (PySem.Str.ofString "seen")).ok,
   (He.Fa.meth (PySem.Str.ofString "Scan") (PySem.Str.ofString "take")).ok,
   (fun K => cmetB K (He.ga K (PySem.Str.ofString "Ratio")) (PySem.Str.ofString "read") (He.ma K (He.ga K (PySem.Str.ofString "Ratio")) (PySem.Str.ofString "read")) (inner "classmethod" K (PySem.Str.ofString "Ratio") (PySem.Str.ofString "read"))),
   (fun K => propB K (He.ga K (PySem.Str.ofString "Ratio")) (PySem.Str.ofString "sign") (He.ma K (He.ga K (PySem.Str.ofString "Ratio")) (PySem.Str.ofString "sign")) (inner "property" K (PySem.Str.ofString "Ratio") (PySem.Str.ofString "sign"))),
   (fun K => noatB K (He.ga K (PySem.Str.ofString "Scan")) (PySem.Str.ofString "words")),
   (fun K => noatB K (He.ga K (PySem.Str.ofString "Scan")) (PySem.Str.ofString "at"))] : List (PySem.W.Frag → Bool)) ++
  ([(fun K => noatB K (He.ga K (PySem.Str.ofString "Ratio")) (PySem.Str.ofString "top")),
   (fun K => noatB K (He.ga K (PySem.Str.ofString "Ratio")) (PySem.Str.ofString "bottom")),
   (fun K => noatB K (He.ga K (PySem.Str.ofString "BadRatio")) (PySem.Str.ofString "part")),
   (fun K => noatB K (He.ga K (PySem.Str.ofString "BadText")) (PySem.Str.ofString "line")),
   (fun K => noatB K (He.ga K (PySem.Str.ofString "BadText")) (PySem.Str.ofString "word")),
   (fun K => oexB K (He.ga K (PySem.Str.ofString "BadRatio"))),
   (fun K => decide (PySem.W.findIn K (.ref (He.ga K (PySem.Str.ofString "BadRatio"))) (PySem.Str.ofString "__init__") = some (some (.ref (He.ma K (He.ga K (PySem.Str.ofString "BadRatio")) (PySem.Str.ofString "__init__")))))),
   (fun K => decide (PySem.W.typeIn K (.ref (He.ma K (He.ga K (PySem.Str.ofString "BadRatio")) (PySem.Str.ofString "__init__"))) = some (.type "function"))),
   (fun K => xfB K (He.ga K (PySem.Str.ofString "BadRatio"))),
   (fun K => oexB K (He.ga K (PySem.Str.ofString "BadText"))),
   (fun K => decide (PySem.W.findIn K (.ref (He.ga K (PySem.Str.ofString "BadText"))) (PySem.Str.ofString "__init__") = some (some (.ref (He.ma K (He.ga K (PySem.Str.ofString "BadText")) (PySem.Str.ofString "__init__")))))),
   (fun K => decide (PySem.W.typeIn K (.ref (He.ma K (He.ga K (PySem.Str.ofString "BadText")) (PySem.Str.ofString "__init__"))) = some (.type "function"))),
   (fun K => xfB K (He.ga K (PySem.Str.ofString "BadText"))),
   (He.Fa.exm (PySem.Str.ofString "BadRatio") (PySem.Str.ofString "BadRatio") true).ok,
   (He.Fa.exm (PySem.Str.ofString "BadText") (PySem.Str.ofString "BadRatio") false).ok] : List (PySem.W.Frag → Bool))
structure Z (P : Program) (w : World) (K : PySem.W.Frag) (mg : Str → Option Value) (base : Heap) : Prop where
  h : ∃ h, K.In h ∧ h.Ns mainGlobals mg
  s : SaysX fa fn K
  tb : ∀ p ∈ tbl K, LamX.TabB base mg p.1 p.2
end K01
set_option maxRecDepth 100000
set_option maxHeartbeats 0
namespace K01
open PySem PySem.Spec PyProof.Rows L2 Ml
def as : List Nat := ([3, 2, 6, 49, 56, 63, 70, 80, 100, 119, 128, 222, 233, 240, 247, 254, 392, 401, 406, 411, 418, 425, 430, 435, 442, 449, 456, 463, 470, 475, 482, 489, 496, 503, 48, 55, 62, 69, 79, 99] : List Nat) ++
 ([118, 127, 221, 232, 239, 246, 253, 391, 400, 405, 410, 417, 424, 429, 434, 441, 448, 455, 462, 469, 474, 481, 488, 495, 502, 78, 81, 97, 98, 116, 117, 142, 149, 156, 163, 170, 177, 184, 191, 198] : List Nat) ++
 ([205, 212, 219, 220, 223, 224, 269, 278, 288, 297, 305, 312, 319, 326, 333, 340, 347, 354, 361, 368, 375, 382, 389, 390, 393, 394, 96, 115, 141, 148, 155, 162, 169, 176, 183, 190, 197, 204, 211, 218] : List Nat) ++
 ([268, 262, 276, 286, 296, 304, 311, 318, 325, 332, 339, 346, 353, 360, 367, 374, 381, 388, 275, 285, 295, 303] : List Nat)
abbrev R : PySem.W.OpenRow := PySem.W.OpenLaw.row PySem.Challenge.rw_lastgiver_k01_names_integers_and_ratios
abbrev qv : Program := PySem.W.view R.prog [0, 40]
def loose : List PySem.Str := ([PySem.Str.ofString "_wall", PySem.Str.ofString "MOST_SIGNS", PySem.Str.ofString "SMALL", PySem.Str.ofString "DIGITS", PySem.Str.ofString "is_integer", PySem.Str.ofString "is_within", PySem.Str.ofString "is_name", PySem.Str.ofString "LastError", PySem.Str.ofString "BadRatio", PySem.Str.ofString "BadText", PySem.Str.ofString "MOST_DIGITS", PySem.Str.ofString "number_in", PySem.Str.ofString "Scan", PySem.Str.ofString "is_ratio", PySem.Str.ofString "ratio_from", PySem.Str.ofString "ratio_in", PySem.Str.ofString "take_ratio", PySem.Str.ofString "Ratio", PySem.Str.ofString "added", PySem.Str.ofString "greatest_of", PySem.Str.ofString "least_of", PySem.Str.ofString "_law_tub", PySem.Str.ofString "_law_scoop", PySem.Str.ofString "_law_text", PySem.Str.ofString "_law_is_name", PySem.Str.ofString "_law_checks_right", PySem.Str.ofString "_law_pair", PySem.Str.ofString "_law_divisor", PySem.Str.ofString "_law_due", PySem.Str.ofString "_law_is", PySem.Str.ofString "_law_texts_right", PySem.Str.ofString "_law_sums_right", PySem.Str.ofString "_law_refused", PySem.Str.ofString "_law_errors_right"] : List PySem.Str)
abbrev hk : PySem.W.Hook := hookT as fa fn tbl
def ob (s : PySem.W.SharedT) : AlT := obsT as fa fn tbl (HandSHeadRun.getT s)
theorem ob_eq (s : PySem.W.SharedT) : ob s = hk.obs s.abs := obsT_eq (HandSHeadRun.getT_eq s)
theorem run (w : World) : HandSHeadRun.RunEqI R qv hk ob 20000 loose w := by
  unfold HandSHeadRun.RunEqI
  kernel_rfl
end K01
set_option maxRecDepth 100000
set_option maxHeartbeats 0
namespace K01
open PySem PySem.Spec PyProof.Rows L2 Ml
section
variable {P : Program} {w : World} {K : PySem.W.Frag} {mg : Str → Option Value} {base : Heap}
theorem g_is_integer (z : Z P w K mg base) : mg (PySem.Str.ofString "is_integer") = some (.ref (He.ga K (PySem.Str.ofString "is_integer"))) := z.h.elim fun _ q => He.glo_ok q.1 q.2 (z.s.fact 0 (f := (He.Fa.glo (PySem.Str.ofString "is_integer")).ok) rfl)
theorem g_BadRatio (z : Z P w K mg base) : mg (PySem.Str.ofString "BadRatio") = some (.ref (He.ga K (PySem.Str.ofString "BadRatio"))) := z.h.elim fun _ q => He.glo_ok q.1 q.2 (z.s.fact 1 (f := (He.Fa.glo (PySem.Str.ofString "BadRatio")).ok) rfl)
theorem g_Ratio (z : Z P w K mg base) : mg (PySem.Str.ofString "Ratio") = some (.ref (He.ga K (PySem.Str.ofString "Ratio"))) := z.h.elim fun _ q => He.glo_ok q.1 q.2 (z.s.fact 2 (f := (He.Fa.glo (PySem.Str.ofString "Ratio")).ok) rfl)
theorem g_ratio_from (z : Z P w K mg base) : mg (PySem.Str.ofString "ratio_from") = some (.ref (He.ga K (PySem.Str.ofString "ratio_from"))) := z.h.elim fun _ q => He.glo_ok q.1 q.2 (z.s.fact 3 (f := (He.Fa.glo (PySem.Str.ofString "ratio_from")).ok) rfl)
theorem g__law_scoop (z : Z P w K mg base) : mg (PySem.Str.ofString "_law_scoop") = some (.ref (He.ga K (PySem.Str.ofString "_law_scoop"))) := z.h.elim fun _ q => He.glo_ok q.1 q.2 (z.s.fact 4 (f := (He.Fa.glo (PySem.Str.ofString "_law_scoop")).ok) rfl)
theorem g__law_text (z : Z P w K mg base) : mg (PySem.Str.ofString "_law_text") = some (.ref (He.ga K (PySem.Str.ofString "_law_text"))) := z.h.elim fun _ q => He.glo_ok q.1 q.2 (z.s.fact 5 (f := (He.Fa.glo (PySem.Str.ofString "_law_text")).ok) rfl)
theorem g_is_name (z : Z P w K mg base) : mg (PySem.Str.ofString "is_name") = some (.ref (He.ga K (PySem.Str.ofString "is_name"))) := z.h.elim fun _ q => He.glo_ok q.1 q.2 (z.s.fact 6 (f := (He.Fa.glo (PySem.Str.ofString "is_name")).ok) rfl)
theorem g__law_is_name (z : Z P w K mg base) : mg (PySem.Str.ofString "_law_is_name") = some (.ref (He.ga K (PySem.Str.ofString "_law_is_name"))) := z.h.elim fun _ q => He.glo_ok q.1 q.2 (z.s.fact 7 (f := (He.Fa.glo (PySem.Str.ofString "_law_is_name")).ok) rfl)
theorem g_is_within (z : Z P w K mg base) : mg (PySem.Str.ofString "is_within") = some (.ref (He.ga K (PySem.Str.ofString "is_within"))) := z.h.elim fun _ q => He.glo_ok q.1 q.2 (z.s.fact 8 (f := (He.Fa.glo (PySem.Str.ofString "is_within")).ok) rfl)
theorem g_is_ratio (z : Z P w K mg base) : mg (PySem.Str.ofString "is_ratio") = some (.ref (He.ga K (PySem.Str.ofString "is_ratio"))) := z.h.elim fun _ q => He.glo_ok q.1 q.2 (z.s.fact 9 (f := (He.Fa.glo (PySem.Str.ofString "is_ratio")).ok) rfl)
theorem g_greatest_of (z : Z P w K mg base) : mg (PySem.Str.ofString "greatest_of") = some (.ref (He.ga K (PySem.Str.ofString "greatest_of"))) := z.h.elim fun _ q => He.glo_ok q.1 q.2 (z.s.fact 10 (f := (He.Fa.glo (PySem.Str.ofString "greatest_of")).ok) rfl)
theorem g__law_refused (z : Z P w K mg base) : mg (PySem.Str.ofString "_law_refused") = some (.ref (He.ga K (PySem.Str.ofString "_law_refused"))) := z.h.elim fun _ q => He.glo_ok q.1 q.2 (z.s.fact 11 (f := (He.Fa.glo (PySem.Str.ofString "_law_refused")).ok) rfl)
theorem g_added (z : Z P w K mg base) : mg (PySem.Str.ofString "added") = some (.ref (He.ga K (PySem.Str.ofString "added"))) := z.h.elim fun _ q => He.glo_ok q.1 q.2 (z.s.fact 12 (f := (He.Fa.glo (PySem.Str.ofString "added")).ok) rfl)
theorem g_least_of (z : Z P w K mg base) : mg (PySem.Str.ofString "least_of") = some (.ref (He.ga K (PySem.Str.ofString "least_of"))) := z.h.elim fun _ q => He.glo_ok q.1 q.2 (z.s.fact 13 (f := (He.Fa.glo (PySem.Str.ofString "least_of")).ok) rfl)
theorem g__law_divisor (z : Z P w K mg base) : mg (PySem.Str.ofString "_law_divisor") = some (.ref (He.ga K (PySem.Str.ofString "_law_divisor"))) := z.h.elim fun _ q => He.glo_ok q.1 q.2 (z.s.fact 14 (f := (He.Fa.glo (PySem.Str.ofString "_law_divisor")).ok) rfl)
theorem g__law_due (z : Z P w K mg base) : mg (PySem.Str.ofString "_law_due") = some (.ref (He.ga K (PySem.Str.ofString "_law_due"))) := z.h.elim fun _ q => He.glo_ok q.1 q.2 (z.s.fact 15 (f := (He.Fa.glo (PySem.Str.ofString "_law_due")).ok) rfl)
theorem g__law_is (z : Z P w K mg base) : mg (PySem.Str.ofString "_law_is") = some (.ref (He.ga K (PySem.Str.ofString "_law_is"))) := z.h.elim fun _ q => He.glo_ok q.1 q.2 (z.s.fact 16 (f := (He.Fa.glo (PySem.Str.ofString "_law_is")).ok) rfl)
theorem g_BadText (z : Z P w K mg base) : mg (PySem.Str.ofString "BadText") = some (.ref (He.ga K (PySem.Str.ofString "BadText"))) := z.h.elim fun _ q => He.glo_ok q.1 q.2 (z.s.fact 17 (f := (He.Fa.glo (PySem.Str.ofString "BadText")).ok) rfl)
theorem g_number_in (z : Z P w K mg base) : mg (PySem.Str.ofString "number_in") = some (.ref (He.ga K (PySem.Str.ofString "number_in"))) := z.h.elim fun _ q => He.glo_ok q.1 q.2 (z.s.fact 18 (f := (He.Fa.glo (PySem.Str.ofString "number_in")).ok) rfl)
theorem g_ratio_in (z : Z P w K mg base) : mg (PySem.Str.ofString "ratio_in") = some (.ref (He.ga K (PySem.Str.ofString "ratio_in"))) := z.h.elim fun _ q => He.glo_ok q.1 q.2 (z.s.fact 19 (f := (He.Fa.glo (PySem.Str.ofString "ratio_in")).ok) rfl)
theorem g_Scan (z : Z P w K mg base) : mg (PySem.Str.ofString "Scan") = some (.ref (He.ga K (PySem.Str.ofString "Scan"))) := z.h.elim fun _ q => He.glo_ok q.1 q.2 (z.s.fact 20 (f := (He.Fa.glo (PySem.Str.ofString "Scan")).ok) rfl)
theorem g_take_ratio (z : Z P w K mg base) : mg (PySem.Str.ofString "take_ratio") = some (.ref (He.ga K (PySem.Str.ofString "take_ratio"))) := z.h.elim fun _ q => He.glo_ok q.1 q.2 (z.s.fact 21 (f := (He.Fa.glo (PySem.Str.ofString "take_ratio")).ok) rfl)
theorem g__law_tub (z : Z P w K mg base) : mg (PySem.Str.ofString "_law_tub") = some (.ref (He.ga K (PySem.Str.ofString "_law_tub"))) := z.h.elim fun _ q => He.glo_ok q.1 q.2 (z.s.fact 22 (f := (He.Fa.glo (PySem.Str.ofString "_law_tub")).ok) rfl)
theorem g__law_pair (z : Z P w K mg base) : mg (PySem.Str.ofString "_law_pair") = some (.ref (He.ga K (PySem.Str.ofString "_law_pair"))) := z.h.elim fun _ q => He.glo_ok q.1 q.2 (z.s.fact 23 (f := (He.Fa.glo (PySem.Str.ofString "_law_pair")).ok) rfl)
theorem g__law_checks_right (z : Z P w K mg base) : mg (PySem.Str.ofString "_law_checks_right") = some (.ref (He.ga K (PySem.Str.ofString "_law_checks_right"))) := z.h.elim fun _ q => He.glo_ok q.1 q.2 (z.s.fact 24 (f := (He.Fa.glo (PySem.Str.ofString "_law_checks_right")).ok) rfl)
theorem g__law_texts_right (z : Z P w K mg base) : mg (PySem.Str.ofString "_law_texts_right") = some (.ref (He.ga K (PySem.Str.ofString "_law_texts_right"))) := z.h.elim fun _ q => He.glo_ok q.1 q.2 (z.s.fact 25 (f := (He.Fa.glo (PySem.Str.ofString "_law_texts_right")).ok) rfl)
theorem g__law_sums_right (z : Z P w K mg base) : mg (PySem.Str.ofString "_law_sums_right") = some (.ref (He.ga K (PySem.Str.ofString "_law_sums_right"))) := z.h.elim fun _ q => He.glo_ok q.1 q.2 (z.s.fact 26 (f := (He.Fa.glo (PySem.Str.ofString "_law_sums_right")).ok) rfl)
theorem g__law_errors_right (z : Z P w K mg base) : mg (PySem.Str.ofString "_law_errors_right") = some (.ref (He.ga K (PySem.Str.ofString "_law_errors_right"))) := z.h.elim fun _ q => He.glo_ok q.1 q.2 (z.s.fact 27 (f := (He.Fa.glo (PySem.Str.ofString "_law_errors_right")).ok) rfl)
theorem g_law (z : Z P w K mg base) : mg (PySem.Str.ofString "law") = some (.ref (He.ga K (PySem.Str.ofString "law"))) := z.h.elim fun _ q => He.glo_ok q.1 q.2 (z.s.fact 28 (f := (He.Fa.glo (PySem.Str.ofString "law")).ok) rfl)
theorem g_int (z : Z P w K mg base) : mg (PySem.Str.ofString "int") = none := z.h.elim fun _ q => He.free_ok q.1 q.2 (z.s.fact 29 (f := (He.Fa.free (PySem.Str.ofString "int")).ok) rfl)
theorem g_isinstance (z : Z P w K mg base) : mg (PySem.Str.ofString "isinstance") = none := z.h.elim fun _ q => He.free_ok q.1 q.2 (z.s.fact 30 (f := (He.Fa.free (PySem.Str.ofString "isinstance")).ok) rfl)
theorem g_bool (z : Z P w K mg base) : mg (PySem.Str.ofString "bool") = none := z.h.elim fun _ q => He.free_ok q.1 q.2 (z.s.fact 31 (f := (He.Fa.free (PySem.Str.ofString "bool")).ok) rfl)
theorem g_len (z : Z P w K mg base) : mg (PySem.Str.ofString "len") = none := z.h.elim fun _ q => He.free_ok q.1 q.2 (z.s.fact 32 (f := (He.Fa.free (PySem.Str.ofString "len")).ok) rfl)
theorem g_range (z : Z P w K mg base) : mg (PySem.Str.ofString "range") = none := z.h.elim fun _ q => He.free_ok q.1 q.2 (z.s.fact 33 (f := (He.Fa.free (PySem.Str.ofString "range")).ok) rfl)
theorem g_str (z : Z P w K mg base) : mg (PySem.Str.ofString "str") = none := z.h.elim fun _ q => He.free_ok q.1 q.2 (z.s.fact 34 (f := (He.Fa.free (PySem.Str.ofString "str")).ok) rfl)
theorem g_abs (z : Z P w K mg base) : mg (PySem.Str.ofString "abs") = none := z.h.elim fun _ q => He.free_ok q.1 q.2 (z.s.fact 35 (f := (He.Fa.free (PySem.Str.ofString "abs")).ok) rfl)
theorem g_tuple (z : Z P w K mg base) : mg (PySem.Str.ofString "tuple") = none := z.h.elim fun _ q => He.free_ok q.1 q.2 (z.s.fact 36 (f := (He.Fa.free (PySem.Str.ofString "tuple")).ok) rfl)
theorem g_list (z : Z P w K mg base) : mg (PySem.Str.ofString "list") = none := z.h.elim fun _ q => He.free_ok q.1 q.2 (z.s.fact 37 (f := (He.Fa.free (PySem.Str.ofString "list")).ok) rfl)
theorem g_all (z : Z P w K mg base) : mg (PySem.Str.ofString "all") = none := z.h.elim fun _ q => He.free_ok q.1 q.2 (z.s.fact 38 (f := (He.Fa.free (PySem.Str.ofString "all")).ok) rfl)
theorem g_repr (z : Z P w K mg base) : mg (PySem.Str.ofString "repr") = none := z.h.elim fun _ q => He.free_ok q.1 q.2 (z.s.fact 39 (f := (He.Fa.free (PySem.Str.ofString "repr")).ok) rfl)
theorem gc_MOST_SIGNS (z : Z P w K mg base) : ∃ u, mg (PySem.Str.ofString "MOST_SIGNS") = some u ∧ RelV (.int 12) u := z.h.elim fun _ q => (He.int_ok q.1 q.2 (z.s.fact 40 (f := (He.Fa.int (PySem.Str.ofString "MOST_SIGNS") 12).ok) rfl)).elim fun t e => ⟨_, e, t, rfl⟩
theorem gc_SMALL (z : Z P w K mg base) : ∃ u, mg (PySem.Str.ofString "SMALL") = some u ∧ RelV (.str (PySem.Str.ofString "abcdefghijklmnopqrstuvwxyz")) u := z.h.elim fun _ q => (He.str_ok q.1 q.2 (z.s.fact 41 (f := (He.Fa.str (PySem.Str.ofString "SMALL") (PySem.Str.ofString "abcdefghijklmnopqrstuvwxyz")).ok) rfl)).elim fun t e => ⟨_, e, t, rfl⟩
theorem gc_DIGITS (z : Z P w K mg base) : ∃ u, mg (PySem.Str.ofString "DIGITS") = some u ∧ RelV (.str (PySem.Str.ofString "0123456789")) u := z.h.elim fun _ q => (He.str_ok q.1 q.2 (z.s.fact 42 (f := (He.Fa.str (PySem.Str.ofString "DIGITS") (PySem.Str.ofString "0123456789")).ok) rfl)).elim fun t e => ⟨_, e, t, rfl⟩
theorem gc_MOST_DIGITS (z : Z P w K mg base) : ∃ u, mg (PySem.Str.ofString "MOST_DIGITS") = some u ∧ RelV (.int 60) u := z.h.elim fun _ q => (He.int_ok q.1 q.2 (z.s.fact 43 (f := (He.Fa.int (PySem.Str.ofString "MOST_DIGITS") 60).ok) rfl)).elim fun t e => ⟨_, e, t, rfl⟩
theorem g_gcd (z : Z P w K mg base) : mg (PySem.Str.ofString "gcd") = some (.builtin "math.gcd") := z.h.elim fun _ q => PySem.W.mg_of q.1 q.2 (of_decide_eq_true (z.s.fact 44 (f := (fun K => decide (PySem.W.nsIn K mainGlobals (PySem.Str.ofString "gcd") = some (some (.builtin "math.gcd"))))) rfl))
theorem tabok (z : Z P w K mg base) : TabOk (tab K) := tabB_ok (z.s.fact 45 (f := (fun K => tabB (tab K))) rfl)
theorem cl_Scan (z : Z P w K mg base) : clsB K (He.ga K (PySem.Str.ofString "Scan")) = true := z.s.fact 46 (f := (fun K => clsB K (He.ga K (PySem.Str.ofString "Scan")))) rfl
theorem mk_Scan (z : Z P w K mg base) : (He.Fa.mkr (PySem.Str.ofString "Scan")).ok K = true := z.s.fact 47 (f := (He.Fa.mkr (PySem.Str.ofString "Scan")).ok) rfl
theorem rd_Scan (z : Z P w K mg base) : readB K (He.ga K (PySem.Str.ofString "Scan")) = true := z.s.fact 48 (f := (fun K => readB K (He.ga K (PySem.Str.ofString "Scan")))) rfl
theorem cl_Ratio (z : Z P w K mg base) : clsB K (He.ga K (PySem.Str.ofString "Ratio")) = true := z.s.fact 49 (f := (fun K => clsB K (He.ga K (PySem.Str.ofString "Ratio")))) rfl
theorem mk_Ratio (z : Z P w K mg base) : (He.Fa.mkr (PySem.Str.ofString "Ratio")).ok K = true := z.s.fact 50 (f := (He.Fa.mkr (PySem.Str.ofString "Ratio")).ok) rfl
theorem rd_Ratio (z : Z P w K mg base) : readB K (He.ga K (PySem.Str.ofString "Ratio")) = true := z.s.fact 51 (f := (fun K => readB K (He.ga K (PySem.Str.ofString "Ratio")))) rfl
theorem sm_c_Ratio_of (z : Z P w K mg base) : smetB K (He.ga K (PySem.Str.ofString "Ratio")) (PySem.Str.ofString "of") (He.ma K (He.ga K (PySem.Str.ofString "Ratio")) (PySem.Str.ofString "of")) (inner "staticmethod" K (PySem.Str.ofString "Ratio") (PySem.Str.ofString "of")) = true := z.s.fact 52 (f := (fun K => smetB K (He.ga K (PySem.Str.ofString "Ratio")) (PySem.Str.ofString "of") (He.ma K (He.ga K (PySem.Str.ofString "Ratio")) (PySem.Str.ofString "of")) (inner "staticmethod" K (PySem.Str.ofString "Ratio") (PySem.Str.ofString "of")))) rfl
theorem ob_c_Ratio_abs (z : Z P w K mg base) : ownB1 K (He.ga K (PySem.Str.ofString "Ratio")) (PySem.Str.ofString "__abs__") (He.ma K (He.ga K (PySem.Str.ofString "Ratio")) (PySem.Str.ofString "__abs__")) = true := z.s.fact 53 (f := (fun K => ownB1 K (He.ga K (PySem.Str.ofString "Ratio")) (PySem.Str.ofString "__abs__") (He.ma K (He.ga K (PySem.Str.ofString "Ratio")) (PySem.Str.ofString "__abs__")))) rfl
theorem ob_c_Ratio_add (z : Z P w K mg base) : binB K (He.ga K (PySem.Str.ofString "Ratio")) "add" (He.ma K (He.ga K (PySem.Str.ofString "Ratio")) (PySem.Str.ofString "__add__")) = true := z.s.fact 54 (f := (fun K => binB K (He.ga K (PySem.Str.ofString "Ratio")) "add" (He.ma K (He.ga K (PySem.Str.ofString "Ratio")) (PySem.Str.ofString "__add__")))) rfl
theorem ob_c_Ratio_bool (z : Z P w K mg base) : ownB1 K (He.ga K (PySem.Str.ofString "Ratio")) (PySem.Str.ofString "__bool__") (He.ma K (He.ga K (PySem.Str.ofString "Ratio")) (PySem.Str.ofString "__bool__")) = true := z.s.fact 55 (f := (fun K => ownB1 K (He.ga K (PySem.Str.ofString "Ratio")) (PySem.Str.ofString "__bool__") (He.ma K (He.ga K (PySem.Str.ofString "Ratio")) (PySem.Str.ofString "__bool__")))) rfl
theorem ob_c_Ratio_eq (z : Z P w K mg base) : ownB1 K (He.ga K (PySem.Str.ofString "Ratio")) (PySem.Str.ofString "__eq__") (He.ma K (He.ga K (PySem.Str.ofString "Ratio")) (PySem.Str.ofString "__eq__")) = true := z.s.fact 56 (f := (fun K => ownB1 K (He.ga K (PySem.Str.ofString "Ratio")) (PySem.Str.ofString "__eq__") (He.ma K (He.ga K (PySem.Str.ofString "Ratio")) (PySem.Str.ofString "__eq__")))) rfl
theorem ob_c_Ratio_mul (z : Z P w K mg base) : binB K (He.ga K (PySem.Str.ofString "Ratio")) "mul" (He.ma K (He.ga K (PySem.Str.ofString "Ratio")) (PySem.Str.ofString "__mul__")) = true := z.s.fact 57 (f := (fun K => binB K (He.ga K (PySem.Str.ofString "Ratio")) "mul" (He.ma K (He.ga K (PySem.Str.ofString "Ratio")) (PySem.Str.ofString "__mul__")))) rfl
theorem ob_c_Ratio_neg (z : Z P w K mg base) : ownB1 K (He.ga K (PySem.Str.ofString "Ratio")) (PySem.Str.ofString "__neg__") (He.ma K (He.ga K (PySem.Str.ofString "Ratio")) (PySem.Str.ofString "__neg__")) = true := z.s.fact 58 (f := (fun K => ownB1 K (He.ga K (PySem.Str.ofString "Ratio")) (PySem.Str.ofString "__neg__") (He.ma K (He.ga K (PySem.Str.ofString "Ratio")) (PySem.Str.ofString "__neg__")))) rfl
theorem ob_c_Ratio_str (z : Z P w K mg base) : ownB1 K (He.ga K (PySem.Str.ofString "Ratio")) (PySem.Str.ofString "__str__") (He.ma K (He.ga K (PySem.Str.ofString "Ratio")) (PySem.Str.ofString "__str__")) = true := z.s.fact 59 (f := (fun K => ownB1 K (He.ga K (PySem.Str.ofString "Ratio")) (PySem.Str.ofString "__str__") (He.ma K (He.ga K (PySem.Str.ofString "Ratio")) (PySem.Str.ofString "__str__")))) rfl
theorem ob_c_Ratio_sub (z : Z P w K mg base) : binB K (He.ga K (PySem.Str.ofString "Ratio")) "sub" (He.ma K (He.ga K (PySem.Str.ofString "Ratio")) (PySem.Str.ofString "__sub__")) = true := z.s.fact 60 (f := (fun K => binB K (He.ga K (PySem.Str.ofString "Ratio")) "sub" (He.ma K (He.ga K (PySem.Str.ofString "Ratio")) (PySem.Str.ofString "__sub__")))) rfl
theorem ob_c_Ratio_repr (z : Z P w K mg base) : ownB1 K (He.ga K (PySem.Str.ofString "Ratio")) (PySem.Str.ofString "__repr__") (He.ma K (He.ga K (PySem.Str.ofString "Ratio")) (PySem.Str.ofString "__repr__")) = true := z.s.fact 61 (f := (fun K => ownB1 K (He.ga K (PySem.Str.ofString "Ratio")) (PySem.Str.ofString "__repr__") (He.ma K (He.ga K (PySem.Str.ofString "Ratio")) (PySem.Str.ofString "__repr__")))) rfl
theorem me_c_Ratio_compared (z : Z P w K mg base) : Meth K (He.ga K (PySem.Str.ofString "Ratio")) (PySem.Str.ofString "compared") (He.ma K (He.ga K (PySem.Str.ofString "Ratio")) (PySem.Str.ofString "compared")) := He.meth_ok (z.s.fact 62 (f := (He.Fa.meth (PySem.Str.ofString "Ratio") (PySem.Str.ofString "compared")).ok) rfl)
theorem me_c_Ratio_is_below (z : Z P w K mg base) : Meth K (He.ga K (PySem.Str.ofString "Ratio")) (PySem.Str.ofString "is_below") (He.ma K (He.ga K (PySem.Str.ofString "Ratio")) (PySem.Str.ofString "is_below")) := He.meth_ok (z.s.fact 63 (f := (He.Fa.meth (PySem.Str.ofString "Ratio") (PySem.Str.ofString "is_below")).ok) rfl)
theorem me_c_Ratio_over (z : Z P w K mg base) : Meth K (He.ga K (PySem.Str.ofString "Ratio")) (PySem.Str.ofString "over") (He.ma K (He.ga K (PySem.Str.ofString "Ratio")) (PySem.Str.ofString "over")) := He.meth_ok (z.s.fact 64 (f := (He.Fa.meth (PySem.Str.ofString "Ratio") (PySem.Str.ofString "over")).ok) rfl)
theorem pr_c_Ratio_is_whole (z : Z P w K mg base) : propB K (He.ga K (PySem.Str.ofString "Ratio")) (PySem.Str.ofString "is_whole") (He.ma K (He.ga K (PySem.Str.ofString "Ratio")) (PySem.Str.ofString "is_whole")) (inner "property" K (PySem.Str.ofString "Ratio") (PySem.Str.ofString "is_whole")) = true := z.s.fact 65 (f := (fun K => propB K (He.ga K (PySem.Str.ofString "Ratio")) (PySem.Str.ofString "is_whole") (He.ma K (He.ga K (PySem.Str.ofString "Ratio")) (PySem.Str.ofString "is_whole")) (inner "property" K (PySem.Str.ofString "Ratio") (PySem.Str.ofString "is_whole")))) rfl
theorem me_c_Scan_refuse (z : Z P w K mg base) : Meth K (He.ga K (PySem.Str.ofString "Scan")) (PySem.Str.ofString "refuse") (He.ma K (He.ga K (PySem.Str.ofString "Scan")) (PySem.Str.ofString "refuse")) := He.meth_ok (z.s.fact 66 (f := (He.Fa.meth (PySem.Str.ofString "Scan") (PySem.Str.ofString "refuse")).ok) rfl)
theorem me_c_Scan_finish (z : Z P w K mg base) : Meth K (He.ga K (PySem.Str.ofString "Scan")) (PySem.Str.ofString "finish") (He.ma K (He.ga K (PySem.Str.ofString "Scan")) (PySem.Str.ofString "finish")) := He.meth_ok (z.s.fact 67 (f := (He.Fa.meth (PySem.Str.ofString "Scan") (PySem.Str.ofString "finish")).ok) rfl)
theorem me_c_Scan_is_over (z : Z P w K mg base) : Meth K (He.ga K (PySem.Str.ofString "Scan")) (PySem.Str.ofString "is_over") (He.ma K (He.ga K (PySem.Str.ofString "Scan")) (PySem.Str.ofString "is_over")) := He.meth_ok (z.s.fact 68 (f := (He.Fa.meth (PySem.Str.ofString "Scan") (PySem.Str.ofString "is_over")).ok) rfl)
theorem me_c_Scan_seen (z : Z P w K mg base) : Meth K (He.ga K (PySem.Str.ofString "Scan")) (PySem.Str.ofString "seen") (He.ma K (He.ga K (PySem.Str.ofString "Scan")) (PySem.Str.ofString "seen")) := He.meth_ok (z.s.fact 69 (f := (He.Fa.meth (PySem.Str.ofString "Scan") (PySem.Str.ofString "seen")).ok) rfl)
theorem me_c_Scan_take (z : Z P w K mg base) : Meth K (He.ga K (PySem.Str.ofString "Scan")) (PySem.Str.ofString "take") (He.ma K (He.ga K (PySem.Str.ofString "Scan")) (PySem.Str.ofString "take")) := He.meth_ok (z.s.fact 70 (f := (He.Fa.meth (PySem.Str.ofString "Scan") (PySem.Str.ofString "take")).ok) rfl)
theorem sm_c_Ratio_read (z : Z P w K mg base) : cmetB K (He.ga K (PySem.Str.ofString "Ratio")) (PySem.Str.ofString "read") (He.ma K (He.ga K (PySem.Str.ofString "Ratio")) (PySem.Str.ofString "read")) (inner "classmethod" K (PySem.Str.ofString "Ratio") (PySem.Str.ofString "read")) = true := z.s.fact 71 (f := (fun K => cmetB K (He.ga K (PySem.Str.ofString "Ratio")) (PySem.Str.ofString "read") (He.ma K (He.ga K (PySem.Str.ofString "Ratio")) (PySem.Str.ofString "read")) (inner "classmethod" K (PySem.Str.ofString "Ratio") (PySem.Str.ofString "read")))) rfl
theorem pr_c_Ratio_sign (z : Z P w K mg base) : propB K (He.ga K (PySem.Str.ofString "Ratio")) (PySem.Str.ofString "sign") (He.ma K (He.ga K (PySem.Str.ofString "Ratio")) (PySem.Str.ofString "sign")) (inner "property" K (PySem.Str.ofString "Ratio") (PySem.Str.ofString "sign")) = true := z.s.fact 72 (f := (fun K => propB K (He.ga K (PySem.Str.ofString "Ratio")) (PySem.Str.ofString "sign") (He.ma K (He.ga K (PySem.Str.ofString "Ratio")) (PySem.Str.ofString "sign")) (inner "property" K (PySem.Str.ofString "Ratio") (PySem.Str.ofString "sign")))) rfl
theorem na_Scan_words (z : Z P w K mg base) : NoAttr K (He.ga K (PySem.Str.ofString "Scan")) (PySem.Str.ofString "words") := He.eqO_ok (z.s.fact 73 (f := (fun K => noatB K (He.ga K (PySem.Str.ofString "Scan")) (PySem.Str.ofString "words"))) rfl)
theorem na_Scan_at (z : Z P w K mg base) : NoAttr K (He.ga K (PySem.Str.ofString "Scan")) (PySem.Str.ofString "at") := He.eqO_ok (z.s.fact 74 (f := (fun K => noatB K (He.ga K (PySem.Str.ofString "Scan")) (PySem.Str.ofString "at"))) rfl)
theorem na_Ratio_top (z : Z P w K mg base) : NoAttr K (He.ga K (PySem.Str.ofString "Ratio")) (PySem.Str.ofString "top") := He.eqO_ok (z.s.fact 75 (f := (fun K => noatB K (He.ga K (PySem.Str.ofString "Ratio")) (PySem.Str.ofString "top"))) rfl)
theorem na_Ratio_bottom (z : Z P w K mg base) : NoAttr K (He.ga K (PySem.Str.ofString "Ratio")) (PySem.Str.ofString "bottom") := He.eqO_ok (z.s.fact 76 (f := (fun K => noatB K (He.ga K (PySem.Str.ofString "Ratio")) (PySem.Str.ofString "bottom"))) rfl)
theorem xn_BadRatio_part (z : Z P w K mg base) : PySem.W.findIn K (.ref (He.ga K (PySem.Str.ofString "BadRatio"))) (PySem.Str.ofString "part") = some none := He.eqO_ok (z.s.fact 77 (f := (fun K => noatB K (He.ga K (PySem.Str.ofString "BadRatio")) (PySem.Str.ofString "part"))) rfl)
theorem xn_BadText_line (z : Z P w K mg base) : PySem.W.findIn K (.ref (He.ga K (PySem.Str.ofString "BadText"))) (PySem.Str.ofString "line") = some none := He.eqO_ok (z.s.fact 78 (f := (fun K => noatB K (He.ga K (PySem.Str.ofString "BadText")) (PySem.Str.ofString "line"))) rfl)
theorem xn_BadText_word (z : Z P w K mg base) : PySem.W.findIn K (.ref (He.ga K (PySem.Str.ofString "BadText"))) (PySem.Str.ofString "word") = some none := He.eqO_ok (z.s.fact 79 (f := (fun K => noatB K (He.ga K (PySem.Str.ofString "BadText")) (PySem.Str.ofString "word"))) rfl)
theorem ox_BadRatio (z : Z P w K mg base) : oexB K (He.ga K (PySem.Str.ofString "BadRatio")) = true := z.s.fact 80 (f := (fun K => oexB K (He.ga K (PySem.Str.ofString "BadRatio")))) rfl
theorem xi_BadRatio (z : Z P w K mg base) : PySem.W.findIn K (.ref (He.ga K (PySem.Str.ofString "BadRatio"))) (PySem.Str.ofString "__init__") = some (some (.ref (He.ma K (He.ga K (PySem.Str.ofString "BadRatio")) (PySem.Str.ofString "__init__")))) := of_decide_eq_true (z.s.fact 81 (f := (fun K => decide (PySem.W.findIn K (.ref (He.ga K (PySem.Str.ofString "BadRatio"))) (PySem.Str.ofString "__init__") = some (some (.ref (He.ma K (He.ga K (PySem.Str.ofString "BadRatio")) (PySem.Str.ofString "__init__"))))))) rfl)
theorem xt_BadRatio (z : Z P w K mg base) : PySem.W.typeIn K (.ref (He.ma K (He.ga K (PySem.Str.ofString "BadRatio")) (PySem.Str.ofString "__init__"))) = some (.type "function") := of_decide_eq_true (z.s.fact 82 (f := (fun K => decide (PySem.W.typeIn K (.ref (He.ma K (He.ga K (PySem.Str.ofString "BadRatio")) (PySem.Str.ofString "__init__"))) = some (.type "function")))) rfl)
theorem xf_BadRatio (z : Z P w K mg base) : xfB K (He.ga K (PySem.Str.ofString "BadRatio")) = true := z.s.fact 83 (f := (fun K => xfB K (He.ga K (PySem.Str.ofString "BadRatio")))) rfl
theorem ox_BadText (z : Z P w K mg base) : oexB K (He.ga K (PySem.Str.ofString "BadText")) = true := z.s.fact 84 (f := (fun K => oexB K (He.ga K (PySem.Str.ofString "BadText")))) rfl
theorem xi_BadText (z : Z P w K mg base) : PySem.W.findIn K (.ref (He.ga K (PySem.Str.ofString "BadText"))) (PySem.Str.ofString "__init__") = some (some (.ref (He.ma K (He.ga K (PySem.Str.ofString "BadText")) (PySem.Str.ofString "__init__")))) := of_decide_eq_true (z.s.fact 85 (f := (fun K => decide (PySem.W.findIn K (.ref (He.ga K (PySem.Str.ofString "BadText"))) (PySem.Str.ofString "__init__") = some (some (.ref (He.ma K (He.ga K (PySem.Str.ofString "BadText")) (PySem.Str.ofString "__init__"))))))) rfl)
theorem xt_BadText (z : Z P w K mg base) : PySem.W.typeIn K (.ref (He.ma K (He.ga K (PySem.Str.ofString "BadText")) (PySem.Str.ofString "__init__"))) = some (.type "function") := of_decide_eq_true (z.s.fact 86 (f := (fun K => decide (PySem.W.typeIn K (.ref (He.ma K (He.ga K (PySem.Str.ofString "BadText")) (PySem.Str.ofString "__init__"))) = some (.type "function")))) rfl)
theorem xf_BadText (z : Z P w K mg base) : xfB K (He.ga K (PySem.Str.ofString "BadText")) = true := z.s.fact 87 (f := (fun K => xfB K (He.ga K (PySem.Str.ofString "BadText")))) rfl
theorem em_BadRatio_BadRatio (z : Z P w K mg base) : PySem.W.exmOne K (.ref (He.ga K (PySem.Str.ofString "BadRatio"))) (.ref (He.ga K (PySem.Str.ofString "BadRatio"))) = some true := He.exm_ok (z.s.fact 88 (f := (He.Fa.exm (PySem.Str.ofString "BadRatio") (PySem.Str.ofString "BadRatio") true).ok) rfl)
theorem em_BadText_BadRatio (z : Z P w K mg base) : PySem.W.exmOne K (.ref (He.ga K (PySem.Str.ofString "BadText"))) (.ref (He.ga K (PySem.Str.ofString "BadRatio"))) = some false := He.exm_ok (z.s.fact 89 (f := (He.Fa.exm (PySem.Str.ofString "BadText") (PySem.Str.ofString "BadRatio") false).ok) rfl)
def fl_words : Nat → Option Nat
  | 0 => some 0
  | _ => none
theorem fx_words (K : PySem.W.Frag) : ∀ c i, fl_words c = some i → ((tab K).fld c)[i]? = some (PySem.Str.ofString "words") := fun c i h => by
  unfold fl_words at h
  split at h
  · cases h; rfl
  · cases h
theorem fo_words (z : Z P w K mg base) : FldOk (tab K).K (tab K) (PySem.Str.ofString "words") fl_words := ⟨fun c i h => by
  unfold fl_words at h
  split at h
  · cases h; exact ⟨clsB_ok (cl_Scan z), na_Scan_words z, rfl, (by show List.Nodup (fl 0); decide +kernel)⟩
  · cases h⟩
def fl_at : Nat → Option Nat
  | 0 => some 1
  | _ => none
theorem fx_at (K : PySem.W.Frag) : ∀ c i, fl_at c = some i → ((tab K).fld c)[i]? = some (PySem.Str.ofString "at") := fun c i h => by
  unfold fl_at at h
  split at h
  · cases h; rfl
  · cases h
theorem fo_at (z : Z P w K mg base) : FldOk (tab K).K (tab K) (PySem.Str.ofString "at") fl_at := ⟨fun c i h => by
  unfold fl_at at h
  split at h
  · cases h; exact ⟨clsB_ok (cl_Scan z), na_Scan_at z, rfl, (by show List.Nodup (fl 0); decide +kernel)⟩
  · cases h⟩
def fl_top : Nat → Option Nat
  | 1 => some 0
  | _ => none
theorem fx_top (K : PySem.W.Frag) : ∀ c i, fl_top c = some i → ((tab K).fld c)[i]? = some (PySem.Str.ofString "top") := fun c i h => by
  unfold fl_top at h
  split at h
  · cases h; rfl
  · cases h
theorem fo_top (z : Z P w K mg base) : FldOk (tab K).K (tab K) (PySem.Str.ofString "top") fl_top := ⟨fun c i h => by
  unfold fl_top at h
  split at h
  · cases h; exact ⟨clsB_ok (cl_Ratio z), na_Ratio_top z, rfl, (by show List.Nodup (fl 1); decide +kernel)⟩
  · cases h⟩
def fl_bottom : Nat → Option Nat
  | 1 => some 1
  | _ => none
theorem fx_bottom (K : PySem.W.Frag) : ∀ c i, fl_bottom c = some i → ((tab K).fld c)[i]? = some (PySem.Str.ofString "bottom") := fun c i h => by
  unfold fl_bottom at h
  split at h
  · cases h; rfl
  · cases h
theorem fo_bottom (z : Z P w K mg base) : FldOk (tab K).K (tab K) (PySem.Str.ofString "bottom") fl_bottom := ⟨fun c i h => by
  unfold fl_bottom at h
  split at h
  · cases h; exact ⟨clsB_ok (cl_Ratio z), na_Ratio_bottom z, rfl, (by show List.Nodup (fl 1); decide +kernel)⟩
  · cases h⟩
def fl_part : Nat → Option Nat
  | 2 => some 0
  | _ => none
theorem fx_part (K : PySem.W.Frag) : ∀ c i, fl_part c = some i → ((tab K).fld c)[i]? = some (PySem.Str.ofString "part") := fun c i h => by
  unfold fl_part at h
  split at h
  · cases h; rfl
  · cases h
def fl_line : Nat → Option Nat
  | 3 => some 0
  | _ => none
theorem fx_line (K : PySem.W.Frag) : ∀ c i, fl_line c = some i → ((tab K).fld c)[i]? = some (PySem.Str.ofString "line") := fun c i h => by
  unfold fl_line at h
  split at h
  · cases h; rfl
  · cases h
def fl_word : Nat → Option Nat
  | 3 => some 1
  | _ => none
theorem fx_word (K : PySem.W.Frag) : ∀ c i, fl_word c = some i → ((tab K).fld c)[i]? = some (PySem.Str.ofString "word") := fun c i h => by
  unfold fl_word at h
  split at h
  · cases h; rfl
  · cases h
abbrev FK (P : Program) (w : World) (K : PySem.W.Frag) (mg : Str → Option Value) (base : Heap) (k : Nat) (f : Addr) (fd : FuncData) (ps : List Str) (io : Option Nat) (nw : Bool) (m : List D → OF) : Prop := FnOk P w K mg base (L2.CX P w) k f fd ps (fun vs H Q E => vs.length = ps.length ∧ spF (tab K) io nw m vs H Q E)
theorem tb_f_law_errors_right (z : Z P w K mg base) : LamX.TabB base mg (He.codeOf K ((PySem.Str.ofString "_law_errors_right"), none)) (He.tabOf K (He.codeOf K ((PySem.Str.ofString "_law_errors_right"), none))) := z.tb (_, _) (List.mem_of_getElem? (i := 0) rfl)
theorem tm_f_law_errors_right (K : PySem.W.Frag) : (He.tabOf K (He.codeOf K ((PySem.Str.ofString "_law_errors_right"), none)), (envOfC (PySem.Str.ofString "_law_errors_right") (defScope (top 39)) 0 0 .none).qual ++ (PySem.Str.ofString "<lambda>")) ∈ (tab K).tabs := List.mem_of_getElem? (i := 0) rfl
theorem tabs_of (K : PySem.W.Frag) : ∀ p ∈ (tab K).tabs, ∃ q ∈ tbl K, q.2 = p.1 := fun p hp => by
  simp only [tab, List.mem_cons, List.not_mem_nil, or_false] at hp
  rcases hp with rfl
  · exact ⟨_, List.mem_of_getElem? (l := tbl K) (i := 0) rfl, rfl⟩
theorem tabs_u (K : PySem.W.Frag) {P : Addr} : ∀ p ∈ (tab K).tabs, p.1 = P → p.2 = (envOfC (PySem.Str.ofString "_law_errors_right") (defScope (top 39)) 0 0 .none).qual ++ (PySem.Str.ofString "<lambda>") := fun p hp _ => by
  cases List.mem_singleton.mp hp
  rfl
/-! BadRatio.__init__ -/
def N_c_BadRatio_init : List Str := [(PySem.Str.ofString "self"), (PySem.Str.ofString "part")]
def s_c_BadRatio_init : Scope := defScope (inClass (top 11) 0)
def b_c_BadRatio_init : List Stmt := defBody (inClass (top 11) 0)
theorem sc_c_BadRatio_init : FnScope N_c_BadRatio_init [(PySem.Str.ofString "self"), (PySem.Str.ofString "part")] s_c_BadRatio_init := ⟨rfl, rfl, rfl, by decide +kernel, rfl, by decide +kernel, by decide +kernel⟩
abbrev FD_c_BadRatio_init (K : PySem.W.Frag) (fd : FuncData) : Prop := FunD K (PySem.Str.ofString "__init__") (PySem.Str.ofString "BadRatio.__init__") (defArgs (inClass (top 11) 0)) b_c_BadRatio_init s_c_BadRatio_init [] [] (He.ma K (He.ga K (PySem.Str.ofString "BadRatio")) (PySem.Str.ofString "__init__")) fd
theorem bn_c_BadRatio_init {fd : FuncData} (F : FD_c_BadRatio_init K fd) : Binds K fd [(PySem.Str.ofString "self"), (PySem.Str.ofString "part")] [] := F.bindsN fun _ _ _ _ _ _ us hl => match us, hl with | [_, _], _ => rfl
theorem ok_c_BadRatio_init (z : Z P w K mg base) : ∃ fd, FD_c_BadRatio_init K fd ∧ FnOk P w K mg base (L2.CX P w) 1 (He.ma K (He.ga K (PySem.Str.ofString "BadRatio")) (PySem.Str.ofString "__init__")) fd [(PySem.Str.ofString "self"), (PySem.Str.ofString "part")] (spX (He.ga K (PySem.Str.ofString "BadRatio")) [(PySem.Str.ofString "part")]) := by
  obtain ⟨fd, F⟩ : ∃ fd, FD_c_BadRatio_init K fd := z.s.def_ 0 rfl
  refine ⟨fd, F, ?_⟩
  exact fnX (q := ⟨(PySem.Str.ofString "part"), (PySem.Str.ofString "part"), 1, _, _, _, _⟩) (l := []) rfl F sc_c_BadRatio_init rfl rfl (fun j z h => match j, h with | 0, h => by cases h; rfl | j + 1, h => by simp at h) (oexB_ok (ox_BadRatio z)) (fun q hq => by
    rcases List.mem_cons.mp hq with rfl | hq
    · exact xn_BadRatio_part z
    cases hq) (by decide) (fun cdv A outer s H E q hq => by
    rcases List.mem_cons.mp hq with rfl | hq
    · exact ⟨by kernel_rfl, visB_ok (by kernel_rfl), by kernel_rfl, by kernel_rfl, rfl⟩
    cases hq) (by rfl) (visB_ok (by kernel_rfl))
/-! is_integer -/
def N_f_is_integer : List Str := [(PySem.Str.ofString "value")]
def s_f_is_integer : Scope := defScope (top 6)
def b_f_is_integer : List Stmt := defBody (top 6)
theorem sc_f_is_integer : FnScope N_f_is_integer [(PySem.Str.ofString "value")] s_f_is_integer := ⟨rfl, rfl, rfl, by decide +kernel, rfl, by decide +kernel, by decide +kernel⟩
abbrev FD_f_is_integer (K : PySem.W.Frag) (fd : FuncData) : Prop := FunD K (PySem.Str.ofString "is_integer") (PySem.Str.ofString "is_integer") (defArgs (top 6)) b_f_is_integer s_f_is_integer [] [] (He.ga K (PySem.Str.ofString "is_integer")) fd
theorem bn_f_is_integer {fd : FuncData} (F : FD_f_is_integer K fd) : Binds K fd [(PySem.Str.ofString "value")] [] := F.bindsN fun _ _ _ _ _ _ us hl => match us, hl with | [_], _ => rfl
theorem n_f_is_integer_0 : Nm N_f_is_integer s_f_is_integer 0 (PySem.Str.ofString "value") := nmB_ok (by decide +kernel)
noncomputable def m_f_is_integer : MS := (sRet ((mAnd (mFn (fIsi t0) (qCons (mPl 0) (qCons (mP (mC (.ty "int"))) qNil))) (mNot (mFn (fIsi t0) (qCons (mPl 0) (qCons (mP (mC (.ty "bool"))) qNil)))))))
noncomputable def r_f_is_integer : List D → OF := runDef none false N_f_is_integer.length m_f_is_integer
theorem ok_f_is_integer (z : Z P w K mg base) : ∃ fd, FD_f_is_integer K fd ∧ FK P w K mg base 1 (He.ga K (PySem.Str.ofString "is_integer")) fd [(PySem.Str.ofString "value")] none false r_f_is_integer := by
  obtain ⟨fd, F⟩ : ∃ fd, FD_f_is_integer K fd := z.s.def_ 1 rfl
  refine ⟨fd, F, ?_⟩
  have nd := sc_f_is_integer.nd
  refine fnF F sc_f_is_integer fun cdv A outer s H E hr => ?_
  exact (trB_one (trS_ret ((trE_and rfl (trE_fnB (callR_or call_isi call_isiT) (ok_isi0 (tabok z) rfl rfl) (gl_of (by kernel_rfl)) (g_isinstance z) (by kernel_rfl) (trQ_cons (nP n_f_is_integer_0) (trQ_cons (trP_e (trE_bty (gl_of (by kernel_rfl)) (g_int z) (by kernel_rfl) (by decide) (by kernel_rfl))) trQ_nil)) (by decide) (by kernel_rfl)) (trE_one (trE_not rfl (trE_fnB (callR_or call_isi call_isiT) (ok_isi0 (tabok z) rfl rfl) (gl_of (by kernel_rfl)) (g_isinstance z) (by kernel_rfl) (trQ_cons (nP n_f_is_integer_0) (trQ_cons (trP_e (trE_bty (gl_of (by kernel_rfl)) (g_bool z) (by kernel_rfl) (by decide) (by kernel_rfl))) trQ_nil)) (by decide) (by kernel_rfl))))))))
/-! Ratio.__init__ -/
def N_c_Ratio_init : List Str := [(PySem.Str.ofString "self"), (PySem.Str.ofString "top"), (PySem.Str.ofString "bottom"), (PySem.Str.ofString "common")]
def s_c_Ratio_init : Scope := defScope (inClass (top 22) 0)
def b_c_Ratio_init : List Stmt := defBody (inClass (top 22) 0)
theorem sc_c_Ratio_init : FnScope N_c_Ratio_init [(PySem.Str.ofString "self"), (PySem.Str.ofString "top"), (PySem.Str.ofString "bottom")] s_c_Ratio_init := ⟨rfl, rfl, rfl, by decide +kernel, rfl, by decide +kernel, by decide +kernel⟩
abbrev FD_c_Ratio_init (K : PySem.W.Frag) (fd : FuncData) : Prop := FunD K (PySem.Str.ofString "__init__") (PySem.Str.ofString "Ratio.__init__") (defArgs (inClass (top 22) 0)) b_c_Ratio_init s_c_Ratio_init [.int 1] [] (He.ma K (He.ga K (PySem.Str.ofString "Ratio")) (PySem.Str.ofString "__init__")) fd
theorem bd0_c_Ratio_init {fd : FuncData} (F : FD_c_Ratio_init K fd) : ∃ ds, Vals [] ds ∧ Binds K fd [(PySem.Str.ofString "self"), (PySem.Str.ofString "top"), (PySem.Str.ofString "bottom")] ds := F.binds1 3 1 (by simp) (by rfl) fun _ _ _ _ _ _ _ us its hl hi => match us, its, hl, hi with | [_, _, _], [_], _, _ => ⟨_, rfl, rfl⟩
theorem bd1_c_Ratio_init {fd : FuncData} (F : FD_c_Ratio_init K fd) : ∃ ds, Vals [.int 1] ds ∧ Binds K fd [(PySem.Str.ofString "self"), (PySem.Str.ofString "top"), (PySem.Str.ofString "bottom")] ds := F.binds1 2 0 (by simp) (by rfl) fun _ _ _ _ _ _ _ us its hl hi => match us, its, hl, hi with | [_, _], [_], _, _ => ⟨_, rfl, rfl⟩
theorem n_c_Ratio_init_0 : Nm N_c_Ratio_init s_c_Ratio_init 0 (PySem.Str.ofString "self") := nmB_ok (by decide +kernel)
theorem n_c_Ratio_init_1 : Nm N_c_Ratio_init s_c_Ratio_init 1 (PySem.Str.ofString "top") := nmB_ok (by decide +kernel)
theorem n_c_Ratio_init_2 : Nm N_c_Ratio_init s_c_Ratio_init 2 (PySem.Str.ofString "bottom") := nmB_ok (by decide +kernel)
theorem n_c_Ratio_init_3 : Nm N_c_Ratio_init s_c_Ratio_init 3 (PySem.Str.ofString "common") := nmB_ok (by decide +kernel)
noncomputable def m_c_Ratio_init : MS := (sSeq (sIf (tNt (tT (mP (mCallD none 1 [] r_f_is_integer (qCons (mPl 1) qNil))))) (sRaise 2 1 (aCons (mC (.str (PySem.Str.ofString "top"))) aNil)) sNil) (sSeq (sIf ((tOr2 (tNt (tT (mP (mCallD none 1 [] r_f_is_integer (qCons (mPl 2) qNil))))) (tB1 (op2 fEq (mPl 2) (mP (mC (.int 0))))))) (sRaise 2 1 (aCons (mC (.str (PySem.Str.ofString "bottom"))) aNil)) sNil) (sSeq (sSet 3 (mFn fGcd (qCons (mPl 1) (qCons (mPl 2) qNil)))) (sSeq (sIf (tB1 (op2 fLtI (mPl 2) (mP (mC (.int 0))))) (sSet 3 (op1 fNegI (mPl 3))) sNil) (sSeq (sSetF 0 fl_top (op2 fDivA (mPl 1) (mPl 3))) (sSetF 0 fl_bottom (op2 fDivA (mPl 2) (mPl 3))))))))
noncomputable def r_c_Ratio_init : List D → OF := runDef (some 0) false N_c_Ratio_init.length m_c_Ratio_init
theorem ok_c_Ratio_init (z : Z P w K mg base) : ∃ fd, FD_c_Ratio_init K fd ∧ FK P w K mg base 3 (He.ma K (He.ga K (PySem.Str.ofString "Ratio")) (PySem.Str.ofString "__init__")) fd [(PySem.Str.ofString "self"), (PySem.Str.ofString "top"), (PySem.Str.ofString "bottom")] (some 0) false r_c_Ratio_init := by
  obtain ⟨fd, F⟩ : ∃ fd, FD_c_Ratio_init K fd := z.s.def_ 2 rfl
  obtain ⟨fd_f_is_integer, F_f_is_integer, G_f_is_integer⟩ := ok_f_is_integer z
  obtain ⟨fd_c_BadRatio_init, F_c_BadRatio_init, G_c_BadRatio_init⟩ := ok_c_BadRatio_init z
  refine ⟨fd, F, ?_⟩
  have nd := sc_c_Ratio_init.nd
  refine fnF F sc_c_Ratio_init fun cdv A outer s H E hr => ?_
  exact (trB_cons (trS_if (trT_not (trT_p rfl (trP_e (trE_callD G_f_is_integer (hr.mono (by decide)) (gl_of (by kernel_rfl)) (g_is_integer z) F_f_is_integer.kp (bn_f_is_integer F_f_is_integer) .nil (fun _ => .nil) (trQ_cons (nP n_c_Ratio_init_1) trQ_nil) (by rfl) (by rfl) (by kernel_rfl))))) (trB_one (trS_raise (c := 2) rfl (oexB_ok (ox_BadRatio z)) (xi_BadRatio z) (xt_BadRatio z) G_c_BadRatio_init (hr.mono (by decide)) (bn_c_BadRatio_init F_c_BadRatio_init) (gl_of (by kernel_rfl)) (g_BadRatio z) (trA_cons (trE_str) trA_nil) rfl (by decide) (by rfl) (by decide) (by kernel_rfl))) trB_nil)
  (trB_cons (trS_if (trT_w (trW_or (trT_not (trT_p rfl (trP_e (trE_callD G_f_is_integer (hr.mono (by decide)) (gl_of (by kernel_rfl)) (g_is_integer z) F_f_is_integer.kp (bn_f_is_integer F_f_is_integer) .nil (fun _ => .nil) (trQ_cons (nP n_c_Ratio_init_2) trQ_nil) (by rfl) (by rfl) (by kernel_rfl))))) (trW_or1 (trT_cmp (op_eqD hr.units) ok_eq (by rfl) (nP n_c_Ratio_init_2) (trP_e (trE_int)))))) (trB_one (trS_raise (c := 2) rfl (oexB_ok (ox_BadRatio z)) (xi_BadRatio z) (xt_BadRatio z) G_c_BadRatio_init (hr.mono (by decide)) (bn_c_BadRatio_init F_c_BadRatio_init) (gl_of (by kernel_rfl)) (g_BadRatio z) (trA_cons (trE_str) trA_nil) rfl (by decide) (by rfl) (by decide) (by kernel_rfl))) trB_nil)
  (trB_cons (trS_set nd (trE_fnI cr_gcd ok_gcd (gl_of (by kernel_rfl)) (g_gcd z) (trQ_cons (nP n_c_Ratio_init_1) (trQ_cons (nP n_c_Ratio_init_2) trQ_nil)) (by kernel_rfl)) (by kernel_rfl) (locB_ok (by kernel_rfl)) (by rfl) (hf_of (by kernel_rfl)))
  (trB_cons (trS_if (trT_cmp op_lt ok_ltI (by rfl) (nP n_c_Ratio_init_2) (trP_e (trE_int))) (trB_one (trS_set nd (trE_un un_neg ok_negI (nP n_c_Ratio_init_3)) (by kernel_rfl) (locB_ok (by kernel_rfl)) (by rfl) (hf_of (by kernel_rfl)))) trB_nil)
  (trB_cons (trS_setF rfl (fo_top z) (trE_bin op_fdivA ok_divA (nP n_c_Ratio_init_1) (nP n_c_Ratio_init_3)) (n_c_Ratio_init_0).n (n_c_Ratio_init_0).v (n_c_Ratio_init_0).d (n_c_Ratio_init_0).c)
  (trB_one (trS_setF rfl (fo_bottom z) (trE_bin op_fdivA ok_divA (nP n_c_Ratio_init_2) (nP n_c_Ratio_init_3)) (n_c_Ratio_init_0).n (n_c_Ratio_init_0).v (n_c_Ratio_init_0).d (n_c_Ratio_init_0).c)))))))
/-! ratio_from -/
def N_f_ratio_from : List Str := [(PySem.Str.ofString "value"), (PySem.Str.ofString "part")]
def s_f_ratio_from : Scope := defScope (top 19)
def b_f_ratio_from : List Stmt := defBody (top 19)
theorem sc_f_ratio_from : FnScope N_f_ratio_from [(PySem.Str.ofString "value"), (PySem.Str.ofString "part")] s_f_ratio_from := ⟨rfl, rfl, rfl, by decide +kernel, rfl, by decide +kernel, by decide +kernel⟩
abbrev FD_f_ratio_from (K : PySem.W.Frag) (fd : FuncData) : Prop := FunD K (PySem.Str.ofString "ratio_from") (PySem.Str.ofString "ratio_from") (defArgs (top 19)) b_f_ratio_from s_f_ratio_from [] [] (He.ga K (PySem.Str.ofString "ratio_from")) fd
theorem bn_f_ratio_from {fd : FuncData} (F : FD_f_ratio_from K fd) : Binds K fd [(PySem.Str.ofString "value"), (PySem.Str.ofString "part")] [] := F.bindsN fun _ _ _ _ _ _ us hl => match us, hl with | [_, _], _ => rfl
theorem n_f_ratio_from_0 : Nm N_f_ratio_from s_f_ratio_from 0 (PySem.Str.ofString "value") := nmB_ok (by decide +kernel)
theorem n_f_ratio_from_1 : Nm N_f_ratio_from s_f_ratio_from 1 (PySem.Str.ofString "part") := nmB_ok (by decide +kernel)
noncomputable def m_f_ratio_from : MS := (sSeq (sIf (tT (mP (mFn (fIsi t0) (qCons (mPl 0) (qCons (mP (mC (.cls 1))) qNil))))) (sRet (mV 0)) sNil) (sSeq (sIf (tNt (tT (mP (mCallD none 1 [] r_f_is_integer (qCons (mPl 0) qNil))))) (sRaise 2 1 (aCons (mV 1) aNil)) sNil) (sRet ((mMake 1 1 [.int 1] r_c_Ratio_init (aCons (mV 0) aNil))))))
noncomputable def r_f_ratio_from : List D → OF := runDef none false N_f_ratio_from.length m_f_ratio_from
theorem ok_f_ratio_from (z : Z P w K mg base) : ∃ fd, FD_f_ratio_from K fd ∧ FK P w K mg base 5 (He.ga K (PySem.Str.ofString "ratio_from")) fd [(PySem.Str.ofString "value"), (PySem.Str.ofString "part")] none false r_f_ratio_from := by
  obtain ⟨fd, F⟩ : ∃ fd, FD_f_ratio_from K fd := z.s.def_ 3 rfl
  obtain ⟨fd_f_is_integer, F_f_is_integer, G_f_is_integer⟩ := ok_f_is_integer z
  obtain ⟨fd_c_BadRatio_init, F_c_BadRatio_init, G_c_BadRatio_init⟩ := ok_c_BadRatio_init z
  obtain ⟨fd_c_Ratio_init, F_c_Ratio_init, G_c_Ratio_init⟩ := ok_c_Ratio_init z
  refine ⟨fd, F, ?_⟩
  have nd := sc_f_ratio_from.nd
  refine fnF F sc_f_ratio_from fun cdv A outer s H E hr => ?_
  exact (trB_cons (trS_if (trT_p rfl (trP_e (trE_fnB (callR_or call_isi call_isiT) (ok_isi0 (tabok z) rfl rfl) (gl_of (by kernel_rfl)) (g_isinstance z) (by kernel_rfl) (trQ_cons (nP n_f_ratio_from_0) (trQ_cons (trP_e (trE_glob (v := .ref (He.ga K (PySem.Str.ofString "Ratio"))) (gl_of (by kernel_rfl)) (g_Ratio z) rfl (fun _ => is_cls.mpr rfl) (by kernel_rfl))) trQ_nil)) (by decide) (by kernel_rfl)))) (trB_one (trS_ret (nV n_f_ratio_from_0))) trB_nil)
  (trB_cons (trS_if (trT_not (trT_p rfl (trP_e (trE_callD G_f_is_integer (hr.mono (by decide)) (gl_of (by kernel_rfl)) (g_is_integer z) F_f_is_integer.kp (bn_f_is_integer F_f_is_integer) .nil (fun _ => .nil) (trQ_cons (nP n_f_ratio_from_0) trQ_nil) (by rfl) (by rfl) (by kernel_rfl))))) (trB_one (trS_raise (c := 2) rfl (oexB_ok (ox_BadRatio z)) (xi_BadRatio z) (xt_BadRatio z) G_c_BadRatio_init (hr.mono (by decide)) (bn_c_BadRatio_init F_c_BadRatio_init) (gl_of (by kernel_rfl)) (g_BadRatio z) (trA_cons (nV n_f_ratio_from_1) trA_nil) rfl (by decide) (by rfl) (by decide) (by kernel_rfl))) trB_nil)
  (trB_one (trS_ret (trE_n (trN_make (c := 1) (He.mkr_ok (mk_Ratio z)) G_c_Ratio_init (hr.mono (by decide)) (gl_of (by kernel_rfl)) (g_Ratio z) (bd1_c_Ratio_init F_c_Ratio_init).choose_spec.2 (bd1_c_Ratio_init F_c_Ratio_init).choose_spec.1 (fun _ => .cons (is_int.mpr rfl) .nil) (trA_cons (nV n_f_ratio_from_0) trA_nil) (by rfl) (by kernel_rfl)))))))
/-! Ratio.of -/
def N_c_Ratio_of : List Str := [(PySem.Str.ofString "value")]
def s_c_Ratio_of : Scope := defScope (inClass (top 22) 1)
def b_c_Ratio_of : List Stmt := defBody (inClass (top 22) 1)
theorem sc_c_Ratio_of : FnScope N_c_Ratio_of [(PySem.Str.ofString "value")] s_c_Ratio_of := ⟨rfl, rfl, rfl, by decide +kernel, rfl, by decide +kernel, by decide +kernel⟩
abbrev FD_c_Ratio_of (K : PySem.W.Frag) (fd : FuncData) : Prop := FunD K (PySem.Str.ofString "of") (PySem.Str.ofString "Ratio.of") (defArgs (inClass (top 22) 1)) b_c_Ratio_of s_c_Ratio_of [] [] (inner "staticmethod" K (PySem.Str.ofString "Ratio") (PySem.Str.ofString "of")) fd
theorem bn_c_Ratio_of {fd : FuncData} (F : FD_c_Ratio_of K fd) : Binds K fd [(PySem.Str.ofString "value")] [] := F.bindsN fun _ _ _ _ _ _ us hl => match us, hl with | [_], _ => rfl
theorem n_c_Ratio_of_0 : Nm N_c_Ratio_of s_c_Ratio_of 0 (PySem.Str.ofString "value") := nmB_ok (by decide +kernel)
noncomputable def m_c_Ratio_of : MS := (sRet (mCallD none 2 [] r_f_ratio_from (qCons (mPl 0) (qCons (mP (mC (.str (PySem.Str.ofString "value")))) qNil))))
noncomputable def r_c_Ratio_of : List D → OF := runDef none false N_c_Ratio_of.length m_c_Ratio_of
theorem ok_c_Ratio_of (z : Z P w K mg base) : ∃ fd, FD_c_Ratio_of K fd ∧ FK P w K mg base 6 (inner "staticmethod" K (PySem.Str.ofString "Ratio") (PySem.Str.ofString "of")) fd [(PySem.Str.ofString "value")] none false r_c_Ratio_of := by
  obtain ⟨fd, F⟩ : ∃ fd, FD_c_Ratio_of K fd := z.s.def_ 4 rfl
  obtain ⟨fd_f_ratio_from, F_f_ratio_from, G_f_ratio_from⟩ := ok_f_ratio_from z
  refine ⟨fd, F, ?_⟩
  have nd := sc_c_Ratio_of.nd
  refine fnF F sc_c_Ratio_of fun cdv A outer s H E hr => ?_
  exact (trB_one (trS_ret (trE_callD G_f_ratio_from (hr.mono (by decide)) (gl_of (by kernel_rfl)) (g_ratio_from z) F_f_ratio_from.kp (bn_f_ratio_from F_f_ratio_from) .nil (fun _ => .nil) (trQ_cons (nP n_c_Ratio_of_0) (trQ_cons (trP_e (trE_str)) trQ_nil)) (by rfl) (by rfl) (by kernel_rfl))))
/-! _law_is_name -/
def N_f_law_is_name : List Str := [(PySem.Str.ofString "_law_text_here"), (PySem.Str.ofString "_law_small"), (PySem.Str.ofString "_law_figures"), (PySem.Str.ofString "_law_sign")]
def s_f_law_is_name : Scope := defScope (top 30)
def b_f_law_is_name : List Stmt := defBody (top 30)
theorem sc_f_law_is_name : FnScope N_f_law_is_name [(PySem.Str.ofString "_law_text_here")] s_f_law_is_name := ⟨rfl, rfl, rfl, by decide +kernel, rfl, by decide +kernel, by decide +kernel⟩
abbrev FD_f_law_is_name (K : PySem.W.Frag) (fd : FuncData) : Prop := FunD K (PySem.Str.ofString "_law_is_name") (PySem.Str.ofString "_law_is_name") (defArgs (top 30)) b_f_law_is_name s_f_law_is_name [] [] (He.ga K (PySem.Str.ofString "_law_is_name")) fd
theorem bn_f_law_is_name {fd : FuncData} (F : FD_f_law_is_name K fd) : Binds K fd [(PySem.Str.ofString "_law_text_here")] [] := F.bindsN fun _ _ _ _ _ _ us hl => match us, hl with | [_], _ => rfl
theorem n_f_law_is_name_0 : Nm N_f_law_is_name s_f_law_is_name 0 (PySem.Str.ofString "_law_text_here") := nmB_ok (by decide +kernel)
theorem n_f_law_is_name_1 : Nm N_f_law_is_name s_f_law_is_name 1 (PySem.Str.ofString "_law_small") := nmB_ok (by decide +kernel)
theorem n_f_law_is_name_2 : Nm N_f_law_is_name s_f_law_is_name 2 (PySem.Str.ofString "_law_figures") := nmB_ok (by decide +kernel)
noncomputable def m_f_law_is_name : MS := (sSeq (sAsg (mTup (aCons (mC (.str (PySem.Str.ofString "abcdefghijklmnopqrstuvwxyz"))) (aCons (mC (.str (PySem.Str.ofString "0123456789"))) aNil))) (gTp 2 (gsCons (gNm 1) (gsCons (gNm 2) gsNil)))) (sSeq (sIf ((tOr2 (tB1 (op2 fLtI (mP (mFn (fLen) (qCons (mPl 0) qNil))) (mP (mC (.int 1))))) (tOr2 (tB1 (op2 fGtI (mP (mFn (fLen) (qCons (mPl 0) qNil))) (mP (mC (.int 12))))) (tB1 (op2 fNi (mP (op2 fIx (mPl 0) (mP (mC (.int 0))))) (mPl 1)))))) (sRet (mC (.bl false))) sNil) (sRet (op2 fEq (mP ((mLc (iStr (mV 0)) (gNm 3) ((tAn (tB1 (op2 fNi (mPl 3) (mPl 1))) (tB1 (op2 fNi (mPl 3) (mPl 2))))) (mV 3) [3]))) (mP ((mLst aNil)))))))
noncomputable def r_f_law_is_name : List D → OF := runDef none false N_f_law_is_name.length m_f_law_is_name
theorem ok_f_law_is_name (z : Z P w K mg base) : ∃ fd, FD_f_law_is_name K fd ∧ FK P w K mg base 1 (He.ga K (PySem.Str.ofString "_law_is_name")) fd [(PySem.Str.ofString "_law_text_here")] none false r_f_law_is_name := by
  obtain ⟨fd, F⟩ : ∃ fd, FD_f_law_is_name K fd := z.s.def_ 5 rfl
  refine ⟨fd, F, ?_⟩
  have nd := sc_f_law_is_name.nd
  refine fnF F sc_f_law_is_name fun cdv A outer s H E hr => ?_
  exact (trB_cons (trS_asg (trE_tup (trA_cons (trE_str) (trA_cons (trE_str) trA_nil))) (trG_tup rfl (trGs_cons (trG_name nd (by kernel_rfl) (locB_ok (by kernel_rfl)) (hf_of (by kernel_rfl))) (trGs_cons (trG_name nd (by kernel_rfl) (locB_ok (by kernel_rfl)) (hf_of (by kernel_rfl))) trGs_nil))))
  (trB_cons (trS_if (trT_w (trW_or (trT_cmp op_lt ok_ltI (by rfl) (trP_e (trE_fnB (call_len_seq.or call_len_str) ok_len (gl_of (by kernel_rfl)) (g_len z) (by kernel_rfl) (trQ_cons (nP n_f_law_is_name_0) trQ_nil) (by decide) (by kernel_rfl))) (trP_e (trE_int))) (trW_or (trT_cmp op_gt ok_gtI (by rfl) (trP_e (trE_fnB (call_len_seq.or call_len_str) ok_len (gl_of (by kernel_rfl)) (g_len z) (by kernel_rfl) (trQ_cons (nP n_f_law_is_name_0) trQ_nil) (by decide) (by kernel_rfl))) (trP_e (trE_int))) (trW_or1 (trT_cmp (op_niU hr.units65) ok_niU (by rfl) (trP_e (trE_ix ix_seq ok_ix (nP n_f_law_is_name_0) (trP_e (trE_int)))) (nP n_f_law_is_name_1)))))) (trB_one (trS_ret (trE_bl))) trB_nil)
  (trB_one (trS_ret (trE_cmp (op_eqD hr.units) ok_eq (by rfl) (trP_e (trE_n (trN_lc rfl nd (trI_str (nV n_f_law_is_name_0)) (blkOk_by (own := [((PySem.Str.ofString "_law_sign"), 3)]) (by kernel_rfl)) (fun _ _ _ _ _ => (trG_name nd (by kernel_rfl) (locB_ok (by kernel_rfl)) (hf_of (by kernel_rfl)))) (fun _ _ _ _ _ => (trTs_one (trT_w (trW_and (trT_cmp (op_niU hr.units65) ok_niU (by rfl) (nP (nmB_ok (by kernel_rfl))) (nP (nmB_ok (by kernel_rfl)))) (trW_and1 (trT_cmp (op_niU hr.units65) ok_niU (by rfl) (nP (nmB_ok (by kernel_rfl))) (nP (nmB_ok (by kernel_rfl))))))))) (fun _ _ _ _ _ => (nV (nmB_ok (by kernel_rfl))))))) (trP_e (trE_n (trN_lst trA_nil))))))))
/-! _law_scoop -/
def N_f_law_scoop : List Str := [(PySem.Str.ofString "_law_tub_here"), (PySem.Str.ofString "_law_many"), (PySem.Str.ofString "_law_rest")]
def s_f_law_scoop : Scope := defScope (top 28)
def b_f_law_scoop : List Stmt := defBody (top 28)
theorem sc_f_law_scoop : FnScope N_f_law_scoop [(PySem.Str.ofString "_law_tub_here"), (PySem.Str.ofString "_law_many")] s_f_law_scoop := ⟨rfl, rfl, rfl, by decide +kernel, rfl, by decide +kernel, by decide +kernel⟩
abbrev FD_f_law_scoop (K : PySem.W.Frag) (fd : FuncData) : Prop := FunD K (PySem.Str.ofString "_law_scoop") (PySem.Str.ofString "_law_scoop") (defArgs (top 28)) b_f_law_scoop s_f_law_scoop [] [] (He.ga K (PySem.Str.ofString "_law_scoop")) fd
theorem bn_f_law_scoop {fd : FuncData} (F : FD_f_law_scoop K fd) : Binds K fd [(PySem.Str.ofString "_law_tub_here"), (PySem.Str.ofString "_law_many")] [] := F.bindsN fun _ _ _ _ _ _ us hl => match us, hl with | [_, _], _ => rfl
theorem n_f_law_scoop_0 : Nm N_f_law_scoop s_f_law_scoop 0 (PySem.Str.ofString "_law_tub_here") := nmB_ok (by decide +kernel)
theorem n_f_law_scoop_1 : Nm N_f_law_scoop s_f_law_scoop 1 (PySem.Str.ofString "_law_many") := nmB_ok (by decide +kernel)
theorem n_f_law_scoop_2 : Nm N_f_law_scoop s_f_law_scoop 2 (PySem.Str.ofString "_law_rest") := nmB_ok (by decide +kernel)
noncomputable def m_f_law_scoop : MS := (sSeq (sIf (tB1 (op2 fEq (mP (op2 fIx (mPl 0) (mP (mC (.int 0))))) (mP (mC (.int 0))))) (sSeq (sSetIx 0 (mC (.int 1)) (op2 fAdd (mP (op2 fIx (mPl 0) (mP (mC (.int 1))))) (mP (mC (.int 1))))) (sSetIx 0 (mC (.int 0)) (op2 fDivA (mP (op2 fPowI (mP (op2 fAdd (mP (op2 fMul (mP (mC (.int 983))) (mP (op2 fIx (mPl 0) (mP (mC (.int 1))))))) (mP (mC (.int 3527))))) (mP (mC (.int 13))))) (mP (mC (.int 7)))))) sNil) (sSeq (sSet 2 (op2 fIx (mPl 0) (mP (mC (.int 0))))) (sSeq (sSetIx 0 (mC (.int 0)) (op2 fDivA (mPl 2) (mPl 1))) (sRet (op2 fModI (mPl 2) (mPl 1))))))
noncomputable def r_f_law_scoop : List D → OF := runDef (some 0) false N_f_law_scoop.length m_f_law_scoop
theorem ok_f_law_scoop (z : Z P w K mg base) : ∃ fd, FD_f_law_scoop K fd ∧ FK P w K mg base 1 (He.ga K (PySem.Str.ofString "_law_scoop")) fd [(PySem.Str.ofString "_law_tub_here"), (PySem.Str.ofString "_law_many")] (some 0) false r_f_law_scoop := by
  obtain ⟨fd, F⟩ : ∃ fd, FD_f_law_scoop K fd := z.s.def_ 6 rfl
  refine ⟨fd, F, ?_⟩
  have nd := sc_f_law_scoop.nd
  refine fnF F sc_f_law_scoop fun cdv A outer s H E hr => ?_
  exact (trB_cons (trS_if (trT_cmp (op_eqD hr.units) ok_eq (by rfl) (trP_e (trE_ix ix_seq ok_ix (nP n_f_law_scoop_0) (trP_e (trE_int)))) (trP_e (trE_int))) (trB_cons (trS_setIx (trE_int) (trE_bin op_addU ok_addU (trP_e (trE_ix ix_seq ok_ix (nP n_f_law_scoop_0) (trP_e (trE_int)))) (trP_e (trE_int))) (n_f_law_scoop_0).n (n_f_law_scoop_0).v (n_f_law_scoop_0).d (n_f_law_scoop_0).c)
  (trB_one (trS_setIx (trE_int) (trE_bin op_fdivA ok_divA (trP_e (trE_bin op_pow ok_powI (trP_e (trE_bin op_addU ok_addU (trP_e (trE_bin op_mulU ok_mulU (trP_e (trE_int)) (trP_e (trE_ix ix_seq ok_ix (nP n_f_law_scoop_0) (trP_e (trE_int)))))) (trP_e (trE_int)))) (trP_e (trE_int)))) (trP_e (trE_int))) (n_f_law_scoop_0).n (n_f_law_scoop_0).v (n_f_law_scoop_0).d (n_f_law_scoop_0).c))) trB_nil)
  (trB_cons (trS_set nd (trE_ix ix_seq ok_ix (nP n_f_law_scoop_0) (trP_e (trE_int))) (by kernel_rfl) (locB_ok (by kernel_rfl)) (by rfl) (hf_of (by kernel_rfl)))
  (trB_cons (trS_setIx (trE_int) (trE_bin op_fdivA ok_divA (nP n_f_law_scoop_2) (nP n_f_law_scoop_1)) (n_f_law_scoop_0).n (n_f_law_scoop_0).v (n_f_law_scoop_0).d (n_f_law_scoop_0).c)
  (trB_one (trS_ret (trE_bin op_modN ok_modI (nP n_f_law_scoop_2) (nP n_f_law_scoop_1)))))))
/-! _law_text -/
def N_f_law_text : List Str := [(PySem.Str.ofString "_law_tub_here"), (PySem.Str.ofString "_law_signs"), (PySem.Str.ofString "_law_many"), (PySem.Str.ofString "_law_text_here"), (PySem.Str.ofString "_law_turn"), (PySem.Str.ofString "_law_at")]
def s_f_law_text : Scope := defScope (top 29)
def b_f_law_text : List Stmt := defBody (top 29)
theorem sc_f_law_text : FnScope N_f_law_text [(PySem.Str.ofString "_law_tub_here")] s_f_law_text := ⟨rfl, rfl, rfl, by decide +kernel, rfl, by decide +kernel, by decide +kernel⟩
abbrev FD_f_law_text (K : PySem.W.Frag) (fd : FuncData) : Prop := FunD K (PySem.Str.ofString "_law_text") (PySem.Str.ofString "_law_text") (defArgs (top 29)) b_f_law_text s_f_law_text [] [] (He.ga K (PySem.Str.ofString "_law_text")) fd
theorem bn_f_law_text {fd : FuncData} (F : FD_f_law_text K fd) : Binds K fd [(PySem.Str.ofString "_law_tub_here")] [] := F.bindsN fun _ _ _ _ _ _ us hl => match us, hl with | [_], _ => rfl
theorem n_f_law_text_0 : Nm N_f_law_text s_f_law_text 0 (PySem.Str.ofString "_law_tub_here") := nmB_ok (by decide +kernel)
theorem n_f_law_text_1 : Nm N_f_law_text s_f_law_text 1 (PySem.Str.ofString "_law_signs") := nmB_ok (by decide +kernel)
theorem n_f_law_text_2 : Nm N_f_law_text s_f_law_text 2 (PySem.Str.ofString "_law_many") := nmB_ok (by decide +kernel)
theorem n_f_law_text_3 : Nm N_f_law_text s_f_law_text 3 (PySem.Str.ofString "_law_text_here") := nmB_ok (by decide +kernel)
theorem n_f_law_text_5 : Nm N_f_law_text s_f_law_text 5 (PySem.Str.ofString "_law_at") := nmB_ok (by decide +kernel)
noncomputable def m_f_law_text : MS := (sSeq (sSet 1 (op2 fAdd (mP (mC (.str (PySem.Str.ofString "abcdefghijklmnopqrstuvwxyz0123456789")))) (mP (mC (.str (PySem.Str.ofString "aA._- ~")))))) (sSeq (sSet 2 (op2 fIx (mP (mTup (aCons (mC (.int 0)) (aCons (mC (.int 1)) (aCons (mC (.int 2)) (aCons (mC (.int 5)) (aCons (mC (.int 11)) (aCons (mC (.int 12)) (aCons (mC (.int 13)) (aCons (mC (.int 16)) aNil)))))))))) (mP (mCallD (some 0) 2 [] r_f_law_scoop (qCons (mPl 0) (qCons (mP (mC (.int 8))) qNil)))))) (sSeq (sSet 3 (mJoin (mC (.str (PySem.Str.ofString ""))) ((mLc (iRg1 (aCons (mV 2) aNil)) (gNm 4) tTrue (op2 fIx (mPl 1) (mP (mCallD (some 0) 2 [] r_f_law_scoop (qCons (mPl 0) (qCons (mP (mC (.int 36))) qNil))))) [4])))) (sSeq (sIf ((tAn (tB1 (op2 fEq (mP (mCallD (some 0) 2 [] r_f_law_scoop (qCons (mPl 0) (qCons (mP (mC (.int 3))) qNil)))) (mP (mC (.int 0))))) (tB1 (op2 fGtI (mPl 2) (mP (mC (.int 0))))))) (sSeq (sSet 5 (mCallD (some 0) 2 [] r_f_law_scoop (qCons (mPl 0) (qCons (mPl 2) qNil)))) (sSet 3 (op2 fAdd (mP (op2 fAdd (mP ((mAlt (mSl fSl (mPl 3) oNo (oSo (mV 5))) (mSl fSlN (mPl 3) oNo (oSo (mV 5)))))) (mP (op2 fIx (mPl 1) (mP (op2 fAdd (mP (mC (.int 36))) (mP (mCallD (some 0) 2 [] r_f_law_scoop (qCons (mPl 0) (qCons (mP (mC (.int 7))) qNil)))))))))) (mP ((mAlt (mSl fSl (mPl 3) (oSo (op2 fAdd (mPl 5) (mP (mC (.int 1))))) oNo) (mSl fSlN (mPl 3) (oSo (op2 fAdd (mPl 5) (mP (mC (.int 1))))) oNo))))))) sNil) (sRet (mV 3))))))
noncomputable def r_f_law_text : List D → OF := runDef (some 0) false N_f_law_text.length m_f_law_text
theorem ok_f_law_text (z : Z P w K mg base) : ∃ fd, FD_f_law_text K fd ∧ FK P w K mg base 2 (He.ga K (PySem.Str.ofString "_law_text")) fd [(PySem.Str.ofString "_law_tub_here")] (some 0) false r_f_law_text := by
  obtain ⟨fd, F⟩ : ∃ fd, FD_f_law_text K fd := z.s.def_ 7 rfl
  obtain ⟨fd_f_law_scoop, F_f_law_scoop, G_f_law_scoop⟩ := ok_f_law_scoop z
  refine ⟨fd, F, ?_⟩
  have nd := sc_f_law_text.nd
  refine fnF F sc_f_law_text fun cdv A outer s H E hr => ?_
  exact (trB_cons (trS_set nd (trE_bin op_addU ok_addU (trP_e (trE_str)) (trP_e (trE_str))) (by kernel_rfl) (locB_ok (by kernel_rfl)) (by rfl) (hf_of (by kernel_rfl)))
  (trB_cons (trS_set nd (trE_ix ix_seq ok_ix (trP_e (trE_tup (trA_cons (trE_int) (trA_cons (trE_int) (trA_cons (trE_int) (trA_cons (trE_int) (trA_cons (trE_int) (trA_cons (trE_int) (trA_cons (trE_int) (trA_cons (trE_int) trA_nil)))))))))) (trP_e (trE_callD G_f_law_scoop (hr.mono (by decide)) (gl_of (by kernel_rfl)) (g__law_scoop z) F_f_law_scoop.kp (bn_f_law_scoop F_f_law_scoop) .nil (fun _ => .nil) (trQ_cons (nP n_f_law_text_0) (trQ_cons (trP_e (trE_int)) trQ_nil)) (by rfl) (by rfl) (by kernel_rfl)))) (by kernel_rfl) (locB_ok (by kernel_rfl)) (by rfl) (hf_of (by kernel_rfl)))
  (trB_cons (trS_set nd (trE_join rfl (trE_str) (trE_n (trN_lc rfl nd (trI_range1 (gl_of (by kernel_rfl)) (g_range z) (trA_cons (nV n_f_law_text_2) trA_nil)) (blkOk_by (own := [((PySem.Str.ofString "_law_turn"), 4)]) (by kernel_rfl)) (fun _ _ _ _ _ => (trG_name nd (by kernel_rfl) (locB_ok (by kernel_rfl)) (hf_of (by kernel_rfl)))) (fun _ _ _ _ _ => trTs_nil) (fun _ _ _ _ _ => (trE_ix ix_seq ok_ix (nP (nmB_ok (by kernel_rfl))) (trP_e (trE_callD G_f_law_scoop (hr.mono (by decide)) (gl_of (by kernel_rfl)) (g__law_scoop z) F_f_law_scoop.kp (bn_f_law_scoop F_f_law_scoop) .nil (fun _ => .nil) (trQ_cons (nP (nmB_ok (by kernel_rfl))) (trQ_cons (trP_e (trE_int)) trQ_nil)) (by rfl) (by rfl) (by kernel_rfl)))))))) (by kernel_rfl) (locB_ok (by kernel_rfl)) (by rfl) (hf_of (by kernel_rfl)))
  (trB_cons (trS_if (trT_w (trW_and (trT_cmp (op_eqD hr.units) ok_eq (by rfl) (trP_e (trE_callD G_f_law_scoop (hr.mono (by decide)) (gl_of (by kernel_rfl)) (g__law_scoop z) F_f_law_scoop.kp (bn_f_law_scoop F_f_law_scoop) .nil (fun _ => .nil) (trQ_cons (nP n_f_law_text_0) (trQ_cons (trP_e (trE_int)) trQ_nil)) (by rfl) (by rfl) (by kernel_rfl))) (trP_e (trE_int))) (trW_and1 (trT_cmp op_gt ok_gtI (by rfl) (nP n_f_law_text_2) (trP_e (trE_int)))))) (trB_cons (trS_set nd (trE_callD G_f_law_scoop (hr.mono (by decide)) (gl_of (by kernel_rfl)) (g__law_scoop z) F_f_law_scoop.kp (bn_f_law_scoop F_f_law_scoop) .nil (fun _ => .nil) (trQ_cons (nP n_f_law_text_0) (trQ_cons (nP n_f_law_text_2) trQ_nil)) (by rfl) (by rfl) (by kernel_rfl)) (by kernel_rfl) (locB_ok (by kernel_rfl)) (by rfl) (hf_of (by kernel_rfl)))
  (trB_one (trS_set nd (trE_bin op_addU ok_addU (trP_e (trE_bin op_addU ok_addU (trP_e ((trE_alt (trE_sl rfl (nP n_f_law_text_3) trO_no (trO_so (nV n_f_law_text_5))) (trE_n (trN_sl rfl (nP n_f_law_text_3) trO_no (trO_so (nV n_f_law_text_5))))))) (trP_e (trE_ix ix_seq ok_ix (nP n_f_law_text_1) (trP_e (trE_bin op_addU ok_addU (trP_e (trE_int)) (trP_e (trE_callD G_f_law_scoop (hr.mono (by decide)) (gl_of (by kernel_rfl)) (g__law_scoop z) F_f_law_scoop.kp (bn_f_law_scoop F_f_law_scoop) .nil (fun _ => .nil) (trQ_cons (nP n_f_law_text_0) (trQ_cons (trP_e (trE_int)) trQ_nil)) (by rfl) (by rfl) (by kernel_rfl))))))))) (trP_e ((trE_alt (trE_sl rfl (nP n_f_law_text_3) (trO_so (trE_bin op_addU ok_addU (nP n_f_law_text_5) (trP_e (trE_int)))) trO_no) (trE_n (trN_sl rfl (nP n_f_law_text_3) (trO_so (trE_bin op_addU ok_addU (nP n_f_law_text_5) (trP_e (trE_int)))) trO_no)))))) (by kernel_rfl) (locB_ok (by kernel_rfl)) (by rfl) (hf_of (by kernel_rfl))))) trB_nil)
  (trB_one (trS_ret (nV n_f_law_text_3)))))))
/-! is_name -/
def N_f_is_name : List Str := [(PySem.Str.ofString "value"), (PySem.Str.ofString "sign")]
def s_f_is_name : Scope := defScope (top 8)
def b_f_is_name : List Stmt := defBody (top 8)
theorem sc_f_is_name : FnScope N_f_is_name [(PySem.Str.ofString "value")] s_f_is_name := ⟨rfl, rfl, rfl, by decide +kernel, rfl, by decide +kernel, by decide +kernel⟩
abbrev FD_f_is_name (K : PySem.W.Frag) (fd : FuncData) : Prop := FunD K (PySem.Str.ofString "is_name") (PySem.Str.ofString "is_name") (defArgs (top 8)) b_f_is_name s_f_is_name [] [] (He.ga K (PySem.Str.ofString "is_name")) fd
theorem bn_f_is_name {fd : FuncData} (F : FD_f_is_name K fd) : Binds K fd [(PySem.Str.ofString "value")] [] := F.bindsN fun _ _ _ _ _ _ us hl => match us, hl with | [_], _ => rfl
theorem n_f_is_name_0 : Nm N_f_is_name s_f_is_name 0 (PySem.Str.ofString "value") := nmB_ok (by decide +kernel)
theorem n_f_is_name_1 : Nm N_f_is_name s_f_is_name 1 (PySem.Str.ofString "sign") := nmB_ok (by decide +kernel)
noncomputable def m_f_is_name : MS := (sSeq (sIf ((tOr2 (tNt (tT (mP (mFn (fIsi t0) (qCons (mPl 0) (qCons (mP (mC (.ty "str"))) qNil)))))) (tNt (tB1 (mChain fLeI fLeI (mC (.int 1)) (mFn (fLen) (qCons (mPl 0) qNil)) (mC (.int 12))))))) (sRet (mC (.bl false))) sNil) (sSeq (sIf (tB1 (op2 fNi (mP (op2 fIx (mPl 0) (mP (mC (.int 0))))) (mP (mC (.str (PySem.Str.ofString "abcdefghijklmnopqrstuvwxyz")))))) (sRet (mC (.bl false))) sNil) (sSeq (sFor (iStr (mV 0)) (gNm 1) (sIf ((tAn (tB1 (op2 fNi (mPl 1) (mP (mC (.str (PySem.Str.ofString "abcdefghijklmnopqrstuvwxyz")))))) (tB1 (op2 fNi (mPl 1) (mP (mC (.str (PySem.Str.ofString "0123456789")))))))) (sRet (mC (.bl false))) sNil)) (sRet (mC (.bl true))))))
noncomputable def r_f_is_name : List D → OF := runDef none false N_f_is_name.length m_f_is_name
theorem ok_f_is_name (z : Z P w K mg base) : ∃ fd, FD_f_is_name K fd ∧ FK P w K mg base 1 (He.ga K (PySem.Str.ofString "is_name")) fd [(PySem.Str.ofString "value")] none false r_f_is_name := by
  obtain ⟨fd, F⟩ : ∃ fd, FD_f_is_name K fd := z.s.def_ 8 rfl
  refine ⟨fd, F, ?_⟩
  have nd := sc_f_is_name.nd
  refine fnF F sc_f_is_name fun cdv A outer s H E hr => ?_
  exact (trB_cons (trS_if (trT_w (trW_or (trT_not (trT_p rfl (trP_e (trE_fnB (callR_or call_isi call_isiT) (ok_isi0 (tabok z) rfl rfl) (gl_of (by kernel_rfl)) (g_isinstance z) (by kernel_rfl) (trQ_cons (nP n_f_is_name_0) (trQ_cons (trP_e (trE_bty (gl_of (by kernel_rfl)) (g_str z) (by kernel_rfl) (by decide) (by kernel_rfl))) trQ_nil)) (by decide) (by kernel_rfl))))) (trW_or1 (trT_not (trT_chain op_le op_le ok_leI ok_leI (trE_int) (trE_fnB (call_len_seq.or call_len_str) ok_len (gl_of (by kernel_rfl)) (g_len z) (by kernel_rfl) (trQ_cons (nP n_f_is_name_0) trQ_nil) (by decide) (by kernel_rfl)) (trE_glob (gl_of (by kernel_rfl)) (gc_MOST_SIGNS z).choose_spec.1 (gc_MOST_SIGNS z).choose_spec.2 (fun _ => is_int.mpr rfl) (by kernel_rfl))))))) (trB_one (trS_ret (trE_bl))) trB_nil)
  (trB_cons (trS_if (trT_cmp (op_niU hr.units65) ok_niU (by rfl) (trP_e (trE_ix ix_seq ok_ix (nP n_f_is_name_0) (trP_e (trE_int)))) (trP_e (trE_glob (gl_of (by kernel_rfl)) (gc_SMALL z).choose_spec.1 (gc_SMALL z).choose_spec.2 (fun _ => is_str.mpr rfl) (by kernel_rfl)))) (trB_one (trS_ret (trE_bl))) trB_nil)
  (trB_cons (trS_for rfl (trI_str (nV n_f_is_name_0)) (trG_name nd (by kernel_rfl) (locB_ok (by kernel_rfl)) (hf_of (by kernel_rfl))) (trB_one (trS_if (trT_w (trW_and (trT_cmp (op_niU hr.units65) ok_niU (by rfl) (nP n_f_is_name_1) (trP_e (trE_glob (gl_of (by kernel_rfl)) (gc_SMALL z).choose_spec.1 (gc_SMALL z).choose_spec.2 (fun _ => is_str.mpr rfl) (by kernel_rfl)))) (trW_and1 (trT_cmp (op_niU hr.units65) ok_niU (by rfl) (nP n_f_is_name_1) (trP_e (trE_glob (gl_of (by kernel_rfl)) (gc_DIGITS z).choose_spec.1 (gc_DIGITS z).choose_spec.2 (fun _ => is_str.mpr rfl) (by kernel_rfl))))))) (trB_one (trS_ret (trE_bl))) trB_nil)))
  (trB_one (trS_ret (trE_bl))))))
/-! is_within -/
def N_f_is_within : List Str := [(PySem.Str.ofString "value"), (PySem.Str.ofString "least"), (PySem.Str.ofString "most")]
def s_f_is_within : Scope := defScope (top 7)
def b_f_is_within : List Stmt := defBody (top 7)
theorem sc_f_is_within : FnScope N_f_is_within [(PySem.Str.ofString "value"), (PySem.Str.ofString "least"), (PySem.Str.ofString "most")] s_f_is_within := ⟨rfl, rfl, rfl, by decide +kernel, rfl, by decide +kernel, by decide +kernel⟩
abbrev FD_f_is_within (K : PySem.W.Frag) (fd : FuncData) : Prop := FunD K (PySem.Str.ofString "is_within") (PySem.Str.ofString "is_within") (defArgs (top 7)) b_f_is_within s_f_is_within [] [] (He.ga K (PySem.Str.ofString "is_within")) fd
theorem bn_f_is_within {fd : FuncData} (F : FD_f_is_within K fd) : Binds K fd [(PySem.Str.ofString "value"), (PySem.Str.ofString "least"), (PySem.Str.ofString "most")] [] := F.bindsN fun _ _ _ _ _ _ us hl => match us, hl with | [_, _, _], _ => rfl
theorem n_f_is_within_0 : Nm N_f_is_within s_f_is_within 0 (PySem.Str.ofString "value") := nmB_ok (by decide +kernel)
theorem n_f_is_within_1 : Nm N_f_is_within s_f_is_within 1 (PySem.Str.ofString "least") := nmB_ok (by decide +kernel)
theorem n_f_is_within_2 : Nm N_f_is_within s_f_is_within 2 (PySem.Str.ofString "most") := nmB_ok (by decide +kernel)
noncomputable def m_f_is_within : MS := (sSeq (sIf (tNt (tT (mP (mCallD none 1 [] r_f_is_integer (qCons (mPl 0) qNil))))) (sRet (mC (.bl false))) sNil) (sSeq (sIf ((tAn (tB1 (op2 fNotN (mPl 1) (mP (mC .non)))) (tB1 (op2 fLtI (mPl 0) (mPl 1))))) (sRet (mC (.bl false))) sNil) (sRet ((mOr (op2 fIsN (mPl 2) (mP (mC .non))) (op2 fLeI (mPl 0) (mPl 2)))))))
noncomputable def r_f_is_within : List D → OF := runDef none false N_f_is_within.length m_f_is_within
theorem ok_f_is_within (z : Z P w K mg base) : ∃ fd, FD_f_is_within K fd ∧ FK P w K mg base 2 (He.ga K (PySem.Str.ofString "is_within")) fd [(PySem.Str.ofString "value"), (PySem.Str.ofString "least"), (PySem.Str.ofString "most")] none false r_f_is_within := by
  obtain ⟨fd, F⟩ : ∃ fd, FD_f_is_within K fd := z.s.def_ 9 rfl
  obtain ⟨fd_f_is_integer, F_f_is_integer, G_f_is_integer⟩ := ok_f_is_integer z
  refine ⟨fd, F, ?_⟩
  have nd := sc_f_is_within.nd
  refine fnF F sc_f_is_within fun cdv A outer s H E hr => ?_
  exact (trB_cons (trS_if (trT_not (trT_p rfl (trP_e (trE_callD G_f_is_integer (hr.mono (by decide)) (gl_of (by kernel_rfl)) (g_is_integer z) F_f_is_integer.kp (bn_f_is_integer F_f_is_integer) .nil (fun _ => .nil) (trQ_cons (nP n_f_is_within_0) trQ_nil) (by rfl) (by rfl) (by kernel_rfl))))) (trB_one (trS_ret (trE_bl))) trB_nil)
  (trB_cons (trS_if (trT_w (trW_and (trT_cmp op_notN ok_notN (by rfl) (nP n_f_is_within_1) (trP_e (trE_non))) (trW_and1 (trT_cmp op_lt ok_ltI (by rfl) (nP n_f_is_within_0) (nP n_f_is_within_1))))) (trB_one (trS_ret (trE_bl))) trB_nil)
  (trB_one (trS_ret ((trE_or rfl (trE_cmp op_isN ok_isN (by rfl) (nP n_f_is_within_2) (trP_e (trE_non))) (trE_one (trE_cmp op_le ok_leI (by rfl) (nP n_f_is_within_0) (nP n_f_is_within_2)))))))))
/-! _law_checks_right -/
def N_f_law_checks_right : List Str := [(PySem.Str.ofString "_law_tub_here"), (PySem.Str.ofString "_law_number"), (PySem.Str.ofString "_law_text_here"), (PySem.Str.ofString "_law_plain"), (PySem.Str.ofString "_law_value"), (PySem.Str.ofString "_law_least"), (PySem.Str.ofString "_law_most")]
def s_f_law_checks_right : Scope := defScope (top 31)
def b_f_law_checks_right : List Stmt := defBody (top 31)
theorem sc_f_law_checks_right : FnScope N_f_law_checks_right [(PySem.Str.ofString "_law_tub_here")] s_f_law_checks_right := ⟨rfl, rfl, rfl, by decide +kernel, rfl, by decide +kernel, by decide +kernel⟩
abbrev FD_f_law_checks_right (K : PySem.W.Frag) (fd : FuncData) : Prop := FunD K (PySem.Str.ofString "_law_checks_right") (PySem.Str.ofString "_law_checks_right") (defArgs (top 31)) b_f_law_checks_right s_f_law_checks_right [] [] (He.ga K (PySem.Str.ofString "_law_checks_right")) fd
theorem bn_f_law_checks_right {fd : FuncData} (F : FD_f_law_checks_right K fd) : Binds K fd [(PySem.Str.ofString "_law_tub_here")] [] := F.bindsN fun _ _ _ _ _ _ us hl => match us, hl with | [_], _ => rfl
theorem n_f_law_checks_right_0 : Nm N_f_law_checks_right s_f_law_checks_right 0 (PySem.Str.ofString "_law_tub_here") := nmB_ok (by decide +kernel)
theorem n_f_law_checks_right_1 : Nm N_f_law_checks_right s_f_law_checks_right 1 (PySem.Str.ofString "_law_number") := nmB_ok (by decide +kernel)
theorem n_f_law_checks_right_2 : Nm N_f_law_checks_right s_f_law_checks_right 2 (PySem.Str.ofString "_law_text_here") := nmB_ok (by decide +kernel)
theorem n_f_law_checks_right_3 : Nm N_f_law_checks_right s_f_law_checks_right 3 (PySem.Str.ofString "_law_plain") := nmB_ok (by decide +kernel)
theorem n_f_law_checks_right_4 : Nm N_f_law_checks_right s_f_law_checks_right 4 (PySem.Str.ofString "_law_value") := nmB_ok (by decide +kernel)
theorem n_f_law_checks_right_5 : Nm N_f_law_checks_right s_f_law_checks_right 5 (PySem.Str.ofString "_law_least") := nmB_ok (by decide +kernel)
theorem n_f_law_checks_right_6 : Nm N_f_law_checks_right s_f_law_checks_right 6 (PySem.Str.ofString "_law_most") := nmB_ok (by decide +kernel)
noncomputable def m_f_law_checks_right : MS := (sSeq (sSet 1 (op2 fMul (mP (op2 fSubI (mP (op2 fMul (mP (mC (.int 2))) (mP (mCallD (some 0) 2 [] r_f_law_scoop (qCons (mPl 0) (qCons (mP (mC (.int 2))) qNil)))))) (mP (mC (.int 1))))) (mP (mCallD (some 0) 2 [] r_f_law_scoop (qCons (mPl 0) (qCons (mP (op2 fPowI (mP (mC (.int 10))) (mP (mC (.int 60))))) qNil)))))) (sSeq (sSet 2 (mCallD (some 0) 1 [] r_f_law_text (qCons (mPl 0) qNil))) (sSeq (sIf ((tOr2 (tB1 (op2 fNe (mP (mCallD none 1 [] r_f_is_name (qCons (mPl 2) qNil))) (mP (mCallD none 1 [] r_f_law_is_name (qCons (mPl 2) qNil))))) (tOr2 (tT (mP (mCallD none 1 [] r_f_is_name (qCons (mP ((mLst (aCons (mV 2) aNil)))) qNil)))) (tOr2 (tT (mP (mCallD none 1 [] r_f_is_name (qCons (mPl 1) qNil)))) (tT (mP (mCallD none 1 [] r_f_is_name (qCons (mP (mC .non)) qNil)))))))) (sRet (mC (.bl false))) sNil) (sSeq (sSet 3 ((mLst (aCons (mC .non) (aCons (mC (.bl true)) (aCons (mC (.bl false)) (aCons (mV 2) (aCons ((mLst (aCons (mV 1) aNil))) (aCons (mTup (aCons (mV 1) aNil)) (aCons ((mDict1 (mC (.str (PySem.Str.ofString "a"))) (mV 1))) (aCons ((mMake 1 1 [.int 1] r_c_Ratio_init (aCons (mV 1) aNil))) aNil))))))))))) (sSeq (sFor (iSeq (mV 3)) (gNm 4) (sIf ((tOr2 (tT (mP (mCallD none 1 [] r_f_is_integer (qCons (mPl 4) qNil)))) (tOr2 (tT (mP (mCallD none 3 [] r_f_is_within (qCons (mPl 4) (qCons (mP (mC .non)) (qCons (mP (mC .non)) qNil)))))) (tT (mP (mCallD none 3 [] r_f_is_within (qCons (mPl 4) (qCons (mP (op2 fSubI (mP (mC (.int 0))) (mP (op2 fPowI (mP (mC (.int 10))) (mP (mC (.int 62))))))) (qCons (mP (op2 fPowI (mP (mC (.int 10))) (mP (mC (.int 62))))) qNil))))))))) (sRet (mC (.bl false))) sNil)) (sSeq (sPar [5, 6] (aCons (op2 fSubI (mP (op2 fAdd (mPl 1) (mP (mCallD (some 0) 2 [] r_f_law_scoop (qCons (mPl 0) (qCons (mP (mC (.int 5))) qNil)))))) (mP (mC (.int 2)))) (aCons (op2 fSubI (mP (op2 fAdd (mPl 1) (mP (mCallD (some 0) 2 [] r_f_law_scoop (qCons (mPl 0) (qCons (mP (mC (.int 5))) qNil)))))) (mP (mC (.int 2)))) aNil))) (sSeq (sIf ((tOr2 (tNt (tT (mP (mCallD none 1 [] r_f_is_integer (qCons (mPl 1) qNil))))) (tNt (tT (mP (mCallD none 3 [] r_f_is_within (qCons (mPl 1) (qCons (mP (mC .non)) (qCons (mP (mC .non)) qNil))))))))) (sRet (mC (.bl false))) sNil) (sSeq (sIf ((tOr2 (tB1 (op2 fNe (mP (mCallD none 3 [] r_f_is_within (qCons (mPl 1) (qCons (mPl 5) (qCons (mP (mC .non)) qNil))))) (mP (op2 fLeI (mPl 5) (mPl 1))))) (tB1 (op2 fNe (mP (mCallD none 3 [] r_f_is_within (qCons (mPl 1) (qCons (mP (mC .non)) (qCons (mPl 6) qNil))))) (mP (op2 fLeI (mPl 1) (mPl 6))))))) (sRet (mC (.bl false))) sNil) (sRet (op2 fEq (mP (mCallD none 3 [] r_f_is_within (qCons (mPl 1) (qCons (mPl 5) (qCons (mPl 6) qNil))))) (mP (mChain fLeI fLeI (mV 5) (mV 1) (mV 6)))))))))))))
noncomputable def r_f_law_checks_right : List D → OF := runDef (some 0) false N_f_law_checks_right.length m_f_law_checks_right
theorem ok_f_law_checks_right (z : Z P w K mg base) : ∃ fd, FD_f_law_checks_right K fd ∧ FK P w K mg base 5 (He.ga K (PySem.Str.ofString "_law_checks_right")) fd [(PySem.Str.ofString "_law_tub_here")] (some 0) false r_f_law_checks_right := by
  obtain ⟨fd, F⟩ : ∃ fd, FD_f_law_checks_right K fd := z.s.def_ 10 rfl
  obtain ⟨fd_f_law_scoop, F_f_law_scoop, G_f_law_scoop⟩ := ok_f_law_scoop z
  obtain ⟨fd_f_law_text, F_f_law_text, G_f_law_text⟩ := ok_f_law_text z
  obtain ⟨fd_f_is_name, F_f_is_name, G_f_is_name⟩ := ok_f_is_name z
  obtain ⟨fd_f_law_is_name, F_f_law_is_name, G_f_law_is_name⟩ := ok_f_law_is_name z
  obtain ⟨fd_c_Ratio_init, F_c_Ratio_init, G_c_Ratio_init⟩ := ok_c_Ratio_init z
  obtain ⟨fd_f_is_integer, F_f_is_integer, G_f_is_integer⟩ := ok_f_is_integer z
  obtain ⟨fd_f_is_within, F_f_is_within, G_f_is_within⟩ := ok_f_is_within z
  refine ⟨fd, F, ?_⟩
  have nd := sc_f_law_checks_right.nd
  refine fnF F sc_f_law_checks_right fun cdv A outer s H E hr => ?_
  exact (trB_cons (trS_set nd (trE_bin op_mulU ok_mulU (trP_e (trE_bin op_sub ok_subI (trP_e (trE_bin op_mulU ok_mulU (trP_e (trE_int)) (trP_e (trE_callD G_f_law_scoop (hr.mono (by decide)) (gl_of (by kernel_rfl)) (g__law_scoop z) F_f_law_scoop.kp (bn_f_law_scoop F_f_law_scoop) .nil (fun _ => .nil) (trQ_cons (nP n_f_law_checks_right_0) (trQ_cons (trP_e (trE_int)) trQ_nil)) (by rfl) (by rfl) (by kernel_rfl))))) (trP_e (trE_int)))) (trP_e (trE_callD G_f_law_scoop (hr.mono (by decide)) (gl_of (by kernel_rfl)) (g__law_scoop z) F_f_law_scoop.kp (bn_f_law_scoop F_f_law_scoop) .nil (fun _ => .nil) (trQ_cons (nP n_f_law_checks_right_0) (trQ_cons (trP_e (trE_bin op_pow ok_powI (trP_e (trE_int)) (trP_e (trE_int)))) trQ_nil)) (by rfl) (by rfl) (by kernel_rfl)))) (by kernel_rfl) (locB_ok (by kernel_rfl)) (by rfl) (hf_of (by kernel_rfl)))
  (trB_cons (trS_set nd (trE_callD G_f_law_text (hr.mono (by decide)) (gl_of (by kernel_rfl)) (g__law_text z) F_f_law_text.kp (bn_f_law_text F_f_law_text) .nil (fun _ => .nil) (trQ_cons (nP n_f_law_checks_right_0) trQ_nil) (by rfl) (by rfl) (by kernel_rfl)) (by kernel_rfl) (locB_ok (by kernel_rfl)) (by rfl) (hf_of (by kernel_rfl)))
  (trB_cons (trS_if (trT_w (trW_or (trT_cmp (op_neD hr.units) ok_ne (by rfl) (trP_e (trE_callD G_f_is_name (hr.mono (by decide)) (gl_of (by kernel_rfl)) (g_is_name z) F_f_is_name.kp (bn_f_is_name F_f_is_name) .nil (fun _ => .nil) (trQ_cons (nP n_f_law_checks_right_2) trQ_nil) (by rfl) (by rfl) (by kernel_rfl))) (trP_e (trE_callD G_f_law_is_name (hr.mono (by decide)) (gl_of (by kernel_rfl)) (g__law_is_name z) F_f_law_is_name.kp (bn_f_law_is_name F_f_law_is_name) .nil (fun _ => .nil) (trQ_cons (nP n_f_law_checks_right_2) trQ_nil) (by rfl) (by rfl) (by kernel_rfl)))) (trW_or (trT_p rfl (trP_e (trE_callD G_f_is_name (hr.mono (by decide)) (gl_of (by kernel_rfl)) (g_is_name z) F_f_is_name.kp (bn_f_is_name F_f_is_name) .nil (fun _ => .nil) (trQ_cons (trP_e (trE_n (trN_lst (trA_cons (nV n_f_law_checks_right_2) trA_nil)))) trQ_nil) (by rfl) (by rfl) (by kernel_rfl)))) (trW_or (trT_p rfl (trP_e (trE_callD G_f_is_name (hr.mono (by decide)) (gl_of (by kernel_rfl)) (g_is_name z) F_f_is_name.kp (bn_f_is_name F_f_is_name) .nil (fun _ => .nil) (trQ_cons (nP n_f_law_checks_right_1) trQ_nil) (by rfl) (by rfl) (by kernel_rfl)))) (trW_or1 (trT_p rfl (trP_e (trE_callD G_f_is_name (hr.mono (by decide)) (gl_of (by kernel_rfl)) (g_is_name z) F_f_is_name.kp (bn_f_is_name F_f_is_name) .nil (fun _ => .nil) (trQ_cons (trP_e (trE_non)) trQ_nil) (by rfl) (by rfl) (by kernel_rfl))))))))) (trB_one (trS_ret (trE_bl))) trB_nil)
  (trB_cons (trS_set nd (trE_n (trN_lst (trA_cons (trE_non) (trA_cons (trE_bl) (trA_cons (trE_bl) (trA_cons (nV n_f_law_checks_right_2) (trA_cons (trE_n (trN_lst (trA_cons (nV n_f_law_checks_right_1) trA_nil))) (trA_cons (trE_tup (trA_cons (nV n_f_law_checks_right_1) trA_nil)) (trA_cons (trE_n (trN_dict1 (trE_str) (nV n_f_law_checks_right_1))) (trA_cons (trE_n (trN_make (c := 1) (He.mkr_ok (mk_Ratio z)) G_c_Ratio_init (hr.mono (by decide)) (gl_of (by kernel_rfl)) (g_Ratio z) (bd1_c_Ratio_init F_c_Ratio_init).choose_spec.2 (bd1_c_Ratio_init F_c_Ratio_init).choose_spec.1 (fun _ => .cons (is_int.mpr rfl) .nil) (trA_cons (nV n_f_law_checks_right_1) trA_nil) (by rfl) (by kernel_rfl))) trA_nil)))))))))) (by kernel_rfl) (locB_ok (by kernel_rfl)) (by rfl) (hf_of (by kernel_rfl)))
  (trB_cons (trS_for rfl (trI_seq rfl (nV n_f_law_checks_right_3)) (trG_name nd (by kernel_rfl) (locB_ok (by kernel_rfl)) (hf_of (by kernel_rfl))) (trB_one (trS_if (trT_w (trW_or (trT_p rfl (trP_e (trE_callD G_f_is_integer (hr.mono (by decide)) (gl_of (by kernel_rfl)) (g_is_integer z) F_f_is_integer.kp (bn_f_is_integer F_f_is_integer) .nil (fun _ => .nil) (trQ_cons (nP n_f_law_checks_right_4) trQ_nil) (by rfl) (by rfl) (by kernel_rfl)))) (trW_or (trT_p rfl (trP_e (trE_callD G_f_is_within (hr.mono (by decide)) (gl_of (by kernel_rfl)) (g_is_within z) F_f_is_within.kp (bn_f_is_within F_f_is_within) .nil (fun _ => .nil) (trQ_cons (nP n_f_law_checks_right_4) (trQ_cons (trP_e (trE_non)) (trQ_cons (trP_e (trE_non)) trQ_nil))) (by rfl) (by rfl) (by kernel_rfl)))) (trW_or1 (trT_p rfl (trP_e (trE_callD G_f_is_within (hr.mono (by decide)) (gl_of (by kernel_rfl)) (g_is_within z) F_f_is_within.kp (bn_f_is_within F_f_is_within) .nil (fun _ => .nil) (trQ_cons (nP n_f_law_checks_right_4) (trQ_cons (trP_e (trE_bin op_sub ok_subI (trP_e (trE_int)) (trP_e (trE_bin op_pow ok_powI (trP_e (trE_int)) (trP_e (trE_int)))))) (trQ_cons (trP_e (trE_bin op_pow ok_powI (trP_e (trE_int)) (trP_e (trE_int)))) trQ_nil))) (by rfl) (by rfl) (by kernel_rfl)))))))) (trB_one (trS_ret (trE_bl))) trB_nil)))
  (trB_cons (trS_par2 rfl nd (trA_cons (trE_bin op_sub ok_subI (trP_e (trE_bin op_addU ok_addU (nP n_f_law_checks_right_1) (trP_e (trE_callD G_f_law_scoop (hr.mono (by decide)) (gl_of (by kernel_rfl)) (g__law_scoop z) F_f_law_scoop.kp (bn_f_law_scoop F_f_law_scoop) .nil (fun _ => .nil) (trQ_cons (nP n_f_law_checks_right_0) (trQ_cons (trP_e (trE_int)) trQ_nil)) (by rfl) (by rfl) (by kernel_rfl))))) (trP_e (trE_int))) (trA_cons (trE_bin op_sub ok_subI (trP_e (trE_bin op_addU ok_addU (nP n_f_law_checks_right_1) (trP_e (trE_callD G_f_law_scoop (hr.mono (by decide)) (gl_of (by kernel_rfl)) (g__law_scoop z) F_f_law_scoop.kp (bn_f_law_scoop F_f_law_scoop) .nil (fun _ => .nil) (trQ_cons (nP n_f_law_checks_right_0) (trQ_cons (trP_e (trE_int)) trQ_nil)) (by rfl) (by rfl) (by kernel_rfl))))) (trP_e (trE_int))) trA_nil)) (by kernel_rfl) (by kernel_rfl) (by kernel_rfl) (by decide) (by kernel_rfl) (by kernel_rfl))
  (trB_cons (trS_if (trT_w (trW_or (trT_not (trT_p rfl (trP_e (trE_callD G_f_is_integer (hr.mono (by decide)) (gl_of (by kernel_rfl)) (g_is_integer z) F_f_is_integer.kp (bn_f_is_integer F_f_is_integer) .nil (fun _ => .nil) (trQ_cons (nP n_f_law_checks_right_1) trQ_nil) (by rfl) (by rfl) (by kernel_rfl))))) (trW_or1 (trT_not (trT_p rfl (trP_e (trE_callD G_f_is_within (hr.mono (by decide)) (gl_of (by kernel_rfl)) (g_is_within z) F_f_is_within.kp (bn_f_is_within F_f_is_within) .nil (fun _ => .nil) (trQ_cons (nP n_f_law_checks_right_1) (trQ_cons (trP_e (trE_non)) (trQ_cons (trP_e (trE_non)) trQ_nil))) (by rfl) (by rfl) (by kernel_rfl)))))))) (trB_one (trS_ret (trE_bl))) trB_nil)
  (trB_cons (trS_if (trT_w (trW_or (trT_cmp (op_neD hr.units) ok_ne (by rfl) (trP_e (trE_callD G_f_is_within (hr.mono (by decide)) (gl_of (by kernel_rfl)) (g_is_within z) F_f_is_within.kp (bn_f_is_within F_f_is_within) .nil (fun _ => .nil) (trQ_cons (nP n_f_law_checks_right_1) (trQ_cons (nP n_f_law_checks_right_5) (trQ_cons (trP_e (trE_non)) trQ_nil))) (by rfl) (by rfl) (by kernel_rfl))) (trP_e (trE_cmp op_le ok_leI (by rfl) (nP n_f_law_checks_right_5) (nP n_f_law_checks_right_1)))) (trW_or1 (trT_cmp (op_neD hr.units) ok_ne (by rfl) (trP_e (trE_callD G_f_is_within (hr.mono (by decide)) (gl_of (by kernel_rfl)) (g_is_within z) F_f_is_within.kp (bn_f_is_within F_f_is_within) .nil (fun _ => .nil) (trQ_cons (nP n_f_law_checks_right_1) (trQ_cons (trP_e (trE_non)) (trQ_cons (nP n_f_law_checks_right_6) trQ_nil))) (by rfl) (by rfl) (by kernel_rfl))) (trP_e (trE_cmp op_le ok_leI (by rfl) (nP n_f_law_checks_right_1) (nP n_f_law_checks_right_6))))))) (trB_one (trS_ret (trE_bl))) trB_nil)
  (trB_one (trS_ret (trE_cmp (op_eqD hr.units) ok_eq (by rfl) (trP_e (trE_callD G_f_is_within (hr.mono (by decide)) (gl_of (by kernel_rfl)) (g_is_within z) F_f_is_within.kp (bn_f_is_within F_f_is_within) .nil (fun _ => .nil) (trQ_cons (nP n_f_law_checks_right_1) (trQ_cons (nP n_f_law_checks_right_5) (trQ_cons (nP n_f_law_checks_right_6) trQ_nil))) (by rfl) (by rfl) (by kernel_rfl))) (trP_e (trE_chain op_le op_le ok_leI ok_leI (nV n_f_law_checks_right_5) (nV n_f_law_checks_right_1) (nV n_f_law_checks_right_6))))))))))))))
/-! Ratio.__abs__ -/
def N_c_Ratio_abs : List Str := [(PySem.Str.ofString "self")]
def s_c_Ratio_abs : Scope := defScope (inClass (top 22) 9)
def b_c_Ratio_abs : List Stmt := defBody (inClass (top 22) 9)
theorem sc_c_Ratio_abs : FnScope N_c_Ratio_abs [(PySem.Str.ofString "self")] s_c_Ratio_abs := ⟨rfl, rfl, rfl, by decide +kernel, rfl, by decide +kernel, by decide +kernel⟩
abbrev FD_c_Ratio_abs (K : PySem.W.Frag) (fd : FuncData) : Prop := FunD K (PySem.Str.ofString "__abs__") (PySem.Str.ofString "Ratio.__abs__") (defArgs (inClass (top 22) 9)) b_c_Ratio_abs s_c_Ratio_abs [] [] (He.ma K (He.ga K (PySem.Str.ofString "Ratio")) (PySem.Str.ofString "__abs__")) fd
theorem bn_c_Ratio_abs {fd : FuncData} (F : FD_c_Ratio_abs K fd) : Binds K fd [(PySem.Str.ofString "self")] [] := F.bindsN fun _ _ _ _ _ _ us hl => match us, hl with | [_], _ => rfl
theorem n_c_Ratio_abs_0 : Nm N_c_Ratio_abs s_c_Ratio_abs 0 (PySem.Str.ofString "self") := nmB_ok (by decide +kernel)
noncomputable def m_c_Ratio_abs : MS := (sRet ((mMake 1 2 [] r_c_Ratio_init (aCons (mFn (fAbs) (qCons (mP (op1 (fFld fl_top) (mPl 0))) qNil)) (aCons (op1 (fFld fl_bottom) (mPl 0)) aNil)))))
noncomputable def r_c_Ratio_abs : List D → OF := runDef none false N_c_Ratio_abs.length m_c_Ratio_abs
theorem ok_c_Ratio_abs (z : Z P w K mg base) : ∃ fd, FD_c_Ratio_abs K fd ∧ FK P w K mg base 5 (He.ma K (He.ga K (PySem.Str.ofString "Ratio")) (PySem.Str.ofString "__abs__")) fd [(PySem.Str.ofString "self")] none false r_c_Ratio_abs := by
  obtain ⟨fd, F⟩ : ∃ fd, FD_c_Ratio_abs K fd := z.s.def_ 11 rfl
  obtain ⟨fd_c_Ratio_init, F_c_Ratio_init, G_c_Ratio_init⟩ := ok_c_Ratio_init z
  refine ⟨fd, F, ?_⟩
  have nd := sc_c_Ratio_abs.nd
  refine fnF F sc_c_Ratio_abs fun cdv A outer s H E hr => ?_
  exact (trB_one (trS_ret (trE_n (trN_make (c := 1) (He.mkr_ok (mk_Ratio z)) G_c_Ratio_init (hr.mono (by decide)) (gl_of (by kernel_rfl)) (g_Ratio z) (bd0_c_Ratio_init F_c_Ratio_init).choose_spec.2 (bd0_c_Ratio_init F_c_Ratio_init).choose_spec.1 (fun _ => .nil) (trA_cons (trE_fnB call_abs ok_abs (gl_of (by kernel_rfl)) (g_abs z) (by kernel_rfl) (trQ_cons (trP_e (trE_fld rfl (fo_top z) (nP n_c_Ratio_abs_0))) trQ_nil) (by decide) (by kernel_rfl)) (trA_cons (trE_fld rfl (fo_bottom z) (nP n_c_Ratio_abs_0)) trA_nil)) (by rfl) (by kernel_rfl)))))
/-! Ratio.__add__ -/
def N_c_Ratio_add : List Str := [(PySem.Str.ofString "self"), (PySem.Str.ofString "other"), (PySem.Str.ofString "more")]
def s_c_Ratio_add : Scope := defScope (inClass (top 22) 5)
def b_c_Ratio_add : List Stmt := defBody (inClass (top 22) 5)
theorem sc_c_Ratio_add : FnScope N_c_Ratio_add [(PySem.Str.ofString "self"), (PySem.Str.ofString "other")] s_c_Ratio_add := ⟨rfl, rfl, rfl, by decide +kernel, rfl, by decide +kernel, by decide +kernel⟩
abbrev FD_c_Ratio_add (K : PySem.W.Frag) (fd : FuncData) : Prop := FunD K (PySem.Str.ofString "__add__") (PySem.Str.ofString "Ratio.__add__") (defArgs (inClass (top 22) 5)) b_c_Ratio_add s_c_Ratio_add [] [] (He.ma K (He.ga K (PySem.Str.ofString "Ratio")) (PySem.Str.ofString "__add__")) fd
theorem bn_c_Ratio_add {fd : FuncData} (F : FD_c_Ratio_add K fd) : Binds K fd [(PySem.Str.ofString "self"), (PySem.Str.ofString "other")] [] := F.bindsN fun _ _ _ _ _ _ us hl => match us, hl with | [_, _], _ => rfl
theorem n_c_Ratio_add_0 : Nm N_c_Ratio_add s_c_Ratio_add 0 (PySem.Str.ofString "self") := nmB_ok (by decide +kernel)
theorem n_c_Ratio_add_1 : Nm N_c_Ratio_add s_c_Ratio_add 1 (PySem.Str.ofString "other") := nmB_ok (by decide +kernel)
theorem n_c_Ratio_add_2 : Nm N_c_Ratio_add s_c_Ratio_add 2 (PySem.Str.ofString "more") := nmB_ok (by decide +kernel)
noncomputable def m_c_Ratio_add : MS := (sSeq (sSet 2 (mCallD none 2 [] r_f_ratio_from (qCons (mPl 1) (qCons (mP (mC (.str (PySem.Str.ofString "other")))) qNil)))) (sRet ((mMake 1 2 [] r_c_Ratio_init (aCons (op2 fAdd (mP (op2 fMul (mP (op1 (fFld fl_top) (mPl 0))) (mP (op1 (fFld fl_bottom) (mPl 2))))) (mP (op2 fMul (mP (op1 (fFld fl_top) (mPl 2))) (mP (op1 (fFld fl_bottom) (mPl 0)))))) (aCons (op2 fMul (mP (op1 (fFld fl_bottom) (mPl 0))) (mP (op1 (fFld fl_bottom) (mPl 2)))) aNil))))))
noncomputable def r_c_Ratio_add : List D → OF := runDef none false N_c_Ratio_add.length m_c_Ratio_add
theorem ok_c_Ratio_add (z : Z P w K mg base) : ∃ fd, FD_c_Ratio_add K fd ∧ FK P w K mg base 6 (He.ma K (He.ga K (PySem.Str.ofString "Ratio")) (PySem.Str.ofString "__add__")) fd [(PySem.Str.ofString "self"), (PySem.Str.ofString "other")] none false r_c_Ratio_add := by
  obtain ⟨fd, F⟩ : ∃ fd, FD_c_Ratio_add K fd := z.s.def_ 12 rfl
  obtain ⟨fd_f_ratio_from, F_f_ratio_from, G_f_ratio_from⟩ := ok_f_ratio_from z
  obtain ⟨fd_c_Ratio_init, F_c_Ratio_init, G_c_Ratio_init⟩ := ok_c_Ratio_init z
  refine ⟨fd, F, ?_⟩
  have nd := sc_c_Ratio_add.nd
  refine fnF F sc_c_Ratio_add fun cdv A outer s H E hr => ?_
  exact (trB_cons (trS_set nd (trE_callD G_f_ratio_from (hr.mono (by decide)) (gl_of (by kernel_rfl)) (g_ratio_from z) F_f_ratio_from.kp (bn_f_ratio_from F_f_ratio_from) .nil (fun _ => .nil) (trQ_cons (nP n_c_Ratio_add_1) (trQ_cons (trP_e (trE_str)) trQ_nil)) (by rfl) (by rfl) (by kernel_rfl)) (by kernel_rfl) (locB_ok (by kernel_rfl)) (by rfl) (hf_of (by kernel_rfl)))
  (trB_one (trS_ret (trE_n (trN_make (c := 1) (He.mkr_ok (mk_Ratio z)) G_c_Ratio_init (hr.mono (by decide)) (gl_of (by kernel_rfl)) (g_Ratio z) (bd0_c_Ratio_init F_c_Ratio_init).choose_spec.2 (bd0_c_Ratio_init F_c_Ratio_init).choose_spec.1 (fun _ => .nil) (trA_cons (trE_bin op_addU ok_addU (trP_e (trE_bin op_mulU ok_mulU (trP_e (trE_fld rfl (fo_top z) (nP n_c_Ratio_add_0))) (trP_e (trE_fld rfl (fo_bottom z) (nP n_c_Ratio_add_2))))) (trP_e (trE_bin op_mulU ok_mulU (trP_e (trE_fld rfl (fo_top z) (nP n_c_Ratio_add_2))) (trP_e (trE_fld rfl (fo_bottom z) (nP n_c_Ratio_add_0)))))) (trA_cons (trE_bin op_mulU ok_mulU (trP_e (trE_fld rfl (fo_bottom z) (nP n_c_Ratio_add_0))) (trP_e (trE_fld rfl (fo_bottom z) (nP n_c_Ratio_add_2)))) trA_nil)) (by rfl) (by kernel_rfl))))))
/-! Ratio.__bool__ -/
def N_c_Ratio_bool : List Str := [(PySem.Str.ofString "self")]
def s_c_Ratio_bool : Scope := defScope (inClass (top 22) 10)
def b_c_Ratio_bool : List Stmt := defBody (inClass (top 22) 10)
theorem sc_c_Ratio_bool : FnScope N_c_Ratio_bool [(PySem.Str.ofString "self")] s_c_Ratio_bool := ⟨rfl, rfl, rfl, by decide +kernel, rfl, by decide +kernel, by decide +kernel⟩
abbrev FD_c_Ratio_bool (K : PySem.W.Frag) (fd : FuncData) : Prop := FunD K (PySem.Str.ofString "__bool__") (PySem.Str.ofString "Ratio.__bool__") (defArgs (inClass (top 22) 10)) b_c_Ratio_bool s_c_Ratio_bool [] [] (He.ma K (He.ga K (PySem.Str.ofString "Ratio")) (PySem.Str.ofString "__bool__")) fd
theorem bn_c_Ratio_bool {fd : FuncData} (F : FD_c_Ratio_bool K fd) : Binds K fd [(PySem.Str.ofString "self")] [] := F.bindsN fun _ _ _ _ _ _ us hl => match us, hl with | [_], _ => rfl
theorem n_c_Ratio_bool_0 : Nm N_c_Ratio_bool s_c_Ratio_bool 0 (PySem.Str.ofString "self") := nmB_ok (by decide +kernel)
noncomputable def m_c_Ratio_bool : MS := (sRet (mFn (fBool) (qCons (mP (op2 fNe (mP (op1 (fFld fl_top) (mPl 0))) (mP (mC (.int 0))))) qNil)))
noncomputable def r_c_Ratio_bool : List D → OF := runDef none false N_c_Ratio_bool.length m_c_Ratio_bool
theorem ok_c_Ratio_bool (z : Z P w K mg base) : ∃ fd, FD_c_Ratio_bool K fd ∧ FK P w K mg base 1 (He.ma K (He.ga K (PySem.Str.ofString "Ratio")) (PySem.Str.ofString "__bool__")) fd [(PySem.Str.ofString "self")] none false r_c_Ratio_bool := by
  obtain ⟨fd, F⟩ : ∃ fd, FD_c_Ratio_bool K fd := z.s.def_ 13 rfl
  refine ⟨fd, F, ?_⟩
  have nd := sc_c_Ratio_bool.nd
  refine fnF F sc_c_Ratio_bool fun cdv A outer s H E hr => ?_
  exact (trB_one (trS_ret (trE_fnT call_bool1 ok_bool1 (gl_of (by kernel_rfl)) (g_bool z) (by kernel_rfl) (trQ_cons (trP_e (trE_cmp (op_neD hr.units) ok_ne (by rfl) (trP_e (trE_fld rfl (fo_top z) (nP n_c_Ratio_bool_0))) (trP_e (trE_int)))) trQ_nil) (by decide) (by kernel_rfl))))
/-! Ratio.__eq__ -/
def N_c_Ratio_eq : List Str := [(PySem.Str.ofString "self"), (PySem.Str.ofString "other")]
def s_c_Ratio_eq : Scope := defScope (inClass (top 22) 11)
def b_c_Ratio_eq : List Stmt := defBody (inClass (top 22) 11)
theorem sc_c_Ratio_eq : FnScope N_c_Ratio_eq [(PySem.Str.ofString "self"), (PySem.Str.ofString "other")] s_c_Ratio_eq := ⟨rfl, rfl, rfl, by decide +kernel, rfl, by decide +kernel, by decide +kernel⟩
abbrev FD_c_Ratio_eq (K : PySem.W.Frag) (fd : FuncData) : Prop := FunD K (PySem.Str.ofString "__eq__") (PySem.Str.ofString "Ratio.__eq__") (defArgs (inClass (top 22) 11)) b_c_Ratio_eq s_c_Ratio_eq [] [] (He.ma K (He.ga K (PySem.Str.ofString "Ratio")) (PySem.Str.ofString "__eq__")) fd
theorem bn_c_Ratio_eq {fd : FuncData} (F : FD_c_Ratio_eq K fd) : Binds K fd [(PySem.Str.ofString "self"), (PySem.Str.ofString "other")] [] := F.bindsN fun _ _ _ _ _ _ us hl => match us, hl with | [_, _], _ => rfl
theorem n_c_Ratio_eq_0 : Nm N_c_Ratio_eq s_c_Ratio_eq 0 (PySem.Str.ofString "self") := nmB_ok (by decide +kernel)
theorem n_c_Ratio_eq_1 : Nm N_c_Ratio_eq s_c_Ratio_eq 1 (PySem.Str.ofString "other") := nmB_ok (by decide +kernel)
noncomputable def m_c_Ratio_eq : MS := (sSeq (sIf (tT (mP (mFn (fIsi t0) (qCons (mPl 1) (qCons (mP (mC (.cls 1))) qNil))))) (sRet ((mAnd (op2 fEq (mP (op1 (fFld fl_top) (mPl 0))) (mP (op1 (fFld fl_top) (mPl 1)))) (op2 fEq (mP (op1 (fFld fl_bottom) (mPl 0))) (mP (op1 (fFld fl_bottom) (mPl 1))))))) sNil) (sRet ((mAnd (mCallD none 1 [] r_f_is_integer (qCons (mPl 1) qNil)) (mAnd (op2 fEq (mP (op1 (fFld fl_bottom) (mPl 0))) (mP (mC (.int 1)))) (op2 fEq (mP (op1 (fFld fl_top) (mPl 0))) (mPl 1)))))))
noncomputable def r_c_Ratio_eq : List D → OF := runDef none false N_c_Ratio_eq.length m_c_Ratio_eq
theorem ok_c_Ratio_eq (z : Z P w K mg base) : ∃ fd, FD_c_Ratio_eq K fd ∧ FK P w K mg base 2 (He.ma K (He.ga K (PySem.Str.ofString "Ratio")) (PySem.Str.ofString "__eq__")) fd [(PySem.Str.ofString "self"), (PySem.Str.ofString "other")] none false r_c_Ratio_eq := by
  obtain ⟨fd, F⟩ : ∃ fd, FD_c_Ratio_eq K fd := z.s.def_ 14 rfl
  obtain ⟨fd_f_is_integer, F_f_is_integer, G_f_is_integer⟩ := ok_f_is_integer z
  refine ⟨fd, F, ?_⟩
  have nd := sc_c_Ratio_eq.nd
  refine fnF F sc_c_Ratio_eq fun cdv A outer s H E hr => ?_
  exact (trB_cons (trS_if (trT_p rfl (trP_e (trE_fnB (callR_or call_isi call_isiT) (ok_isi0 (tabok z) rfl rfl) (gl_of (by kernel_rfl)) (g_isinstance z) (by kernel_rfl) (trQ_cons (nP n_c_Ratio_eq_1) (trQ_cons (trP_e (trE_glob (v := .ref (He.ga K (PySem.Str.ofString "Ratio"))) (gl_of (by kernel_rfl)) (g_Ratio z) rfl (fun _ => is_cls.mpr rfl) (by kernel_rfl))) trQ_nil)) (by decide) (by kernel_rfl)))) (trB_one (trS_ret ((trE_and rfl (trE_cmp (op_eqD hr.units) ok_eq (by rfl) (trP_e (trE_fld rfl (fo_top z) (nP n_c_Ratio_eq_0))) (trP_e (trE_fld rfl (fo_top z) (nP n_c_Ratio_eq_1)))) (trE_one (trE_cmp (op_eqD hr.units) ok_eq (by rfl) (trP_e (trE_fld rfl (fo_bottom z) (nP n_c_Ratio_eq_0))) (trP_e (trE_fld rfl (fo_bottom z) (nP n_c_Ratio_eq_1))))))))) trB_nil)
  (trB_one (trS_ret ((trE_and rfl (trE_callD G_f_is_integer (hr.mono (by decide)) (gl_of (by kernel_rfl)) (g_is_integer z) F_f_is_integer.kp (bn_f_is_integer F_f_is_integer) .nil (fun _ => .nil) (trQ_cons (nP n_c_Ratio_eq_1) trQ_nil) (by rfl) (by rfl) (by kernel_rfl)) (trE_and rfl (trE_cmp (op_eqD hr.units) ok_eq (by rfl) (trP_e (trE_fld rfl (fo_bottom z) (nP n_c_Ratio_eq_0))) (trP_e (trE_int))) (trE_one (trE_cmp (op_eqD hr.units) ok_eq (by rfl) (trP_e (trE_fld rfl (fo_top z) (nP n_c_Ratio_eq_0))) (nP n_c_Ratio_eq_1)))))))))
/-! Ratio.__mul__ -/
def N_c_Ratio_mul : List Str := [(PySem.Str.ofString "self"), (PySem.Str.ofString "other"), (PySem.Str.ofString "times")]
def s_c_Ratio_mul : Scope := defScope (inClass (top 22) 7)
def b_c_Ratio_mul : List Stmt := defBody (inClass (top 22) 7)
theorem sc_c_Ratio_mul : FnScope N_c_Ratio_mul [(PySem.Str.ofString "self"), (PySem.Str.ofString "other")] s_c_Ratio_mul := ⟨rfl, rfl, rfl, by decide +kernel, rfl, by decide +kernel, by decide +kernel⟩
abbrev FD_c_Ratio_mul (K : PySem.W.Frag) (fd : FuncData) : Prop := FunD K (PySem.Str.ofString "__mul__") (PySem.Str.ofString "Ratio.__mul__") (defArgs (inClass (top 22) 7)) b_c_Ratio_mul s_c_Ratio_mul [] [] (He.ma K (He.ga K (PySem.Str.ofString "Ratio")) (PySem.Str.ofString "__mul__")) fd
theorem bn_c_Ratio_mul {fd : FuncData} (F : FD_c_Ratio_mul K fd) : Binds K fd [(PySem.Str.ofString "self"), (PySem.Str.ofString "other")] [] := F.bindsN fun _ _ _ _ _ _ us hl => match us, hl with | [_, _], _ => rfl
theorem n_c_Ratio_mul_0 : Nm N_c_Ratio_mul s_c_Ratio_mul 0 (PySem.Str.ofString "self") := nmB_ok (by decide +kernel)
theorem n_c_Ratio_mul_1 : Nm N_c_Ratio_mul s_c_Ratio_mul 1 (PySem.Str.ofString "other") := nmB_ok (by decide +kernel)
theorem n_c_Ratio_mul_2 : Nm N_c_Ratio_mul s_c_Ratio_mul 2 (PySem.Str.ofString "times") := nmB_ok (by decide +kernel)
noncomputable def m_c_Ratio_mul : MS := (sSeq (sSet 2 (mCallD none 2 [] r_f_ratio_from (qCons (mPl 1) (qCons (mP (mC (.str (PySem.Str.ofString "other")))) qNil)))) (sRet ((mMake 1 2 [] r_c_Ratio_init (aCons (op2 fMul (mP (op1 (fFld fl_top) (mPl 0))) (mP (op1 (fFld fl_top) (mPl 2)))) (aCons (op2 fMul (mP (op1 (fFld fl_bottom) (mPl 0))) (mP (op1 (fFld fl_bottom) (mPl 2)))) aNil))))))
noncomputable def r_c_Ratio_mul : List D → OF := runDef none false N_c_Ratio_mul.length m_c_Ratio_mul
theorem ok_c_Ratio_mul (z : Z P w K mg base) : ∃ fd, FD_c_Ratio_mul K fd ∧ FK P w K mg base 6 (He.ma K (He.ga K (PySem.Str.ofString "Ratio")) (PySem.Str.ofString "__mul__")) fd [(PySem.Str.ofString "self"), (PySem.Str.ofString "other")] none false r_c_Ratio_mul := by
  obtain ⟨fd, F⟩ : ∃ fd, FD_c_Ratio_mul K fd := z.s.def_ 15 rfl
  obtain ⟨fd_f_ratio_from, F_f_ratio_from, G_f_ratio_from⟩ := ok_f_ratio_from z
  obtain ⟨fd_c_Ratio_init, F_c_Ratio_init, G_c_Ratio_init⟩ := ok_c_Ratio_init z
  refine ⟨fd, F, ?_⟩
  have nd := sc_c_Ratio_mul.nd
  refine fnF F sc_c_Ratio_mul fun cdv A outer s H E hr => ?_
  exact (trB_cons (trS_set nd (trE_callD G_f_ratio_from (hr.mono (by decide)) (gl_of (by kernel_rfl)) (g_ratio_from z) F_f_ratio_from.kp (bn_f_ratio_from F_f_ratio_from) .nil (fun _ => .nil) (trQ_cons (nP n_c_Ratio_mul_1) (trQ_cons (trP_e (trE_str)) trQ_nil)) (by rfl) (by rfl) (by kernel_rfl)) (by kernel_rfl) (locB_ok (by kernel_rfl)) (by rfl) (hf_of (by kernel_rfl)))
  (trB_one (trS_ret (trE_n (trN_make (c := 1) (He.mkr_ok (mk_Ratio z)) G_c_Ratio_init (hr.mono (by decide)) (gl_of (by kernel_rfl)) (g_Ratio z) (bd0_c_Ratio_init F_c_Ratio_init).choose_spec.2 (bd0_c_Ratio_init F_c_Ratio_init).choose_spec.1 (fun _ => .nil) (trA_cons (trE_bin op_mulU ok_mulU (trP_e (trE_fld rfl (fo_top z) (nP n_c_Ratio_mul_0))) (trP_e (trE_fld rfl (fo_top z) (nP n_c_Ratio_mul_2)))) (trA_cons (trE_bin op_mulU ok_mulU (trP_e (trE_fld rfl (fo_bottom z) (nP n_c_Ratio_mul_0))) (trP_e (trE_fld rfl (fo_bottom z) (nP n_c_Ratio_mul_2)))) trA_nil)) (by rfl) (by kernel_rfl))))))
/-! Ratio.__neg__ -/
def N_c_Ratio_neg : List Str := [(PySem.Str.ofString "self")]
def s_c_Ratio_neg : Scope := defScope (inClass (top 22) 8)
def b_c_Ratio_neg : List Stmt := defBody (inClass (top 22) 8)
theorem sc_c_Ratio_neg : FnScope N_c_Ratio_neg [(PySem.Str.ofString "self")] s_c_Ratio_neg := ⟨rfl, rfl, rfl, by decide +kernel, rfl, by decide +kernel, by decide +kernel⟩
abbrev FD_c_Ratio_neg (K : PySem.W.Frag) (fd : FuncData) : Prop := FunD K (PySem.Str.ofString "__neg__") (PySem.Str.ofString "Ratio.__neg__") (defArgs (inClass (top 22) 8)) b_c_Ratio_neg s_c_Ratio_neg [] [] (He.ma K (He.ga K (PySem.Str.ofString "Ratio")) (PySem.Str.ofString "__neg__")) fd
theorem bn_c_Ratio_neg {fd : FuncData} (F : FD_c_Ratio_neg K fd) : Binds K fd [(PySem.Str.ofString "self")] [] := F.bindsN fun _ _ _ _ _ _ us hl => match us, hl with | [_], _ => rfl
theorem n_c_Ratio_neg_0 : Nm N_c_Ratio_neg s_c_Ratio_neg 0 (PySem.Str.ofString "self") := nmB_ok (by decide +kernel)
noncomputable def m_c_Ratio_neg : MS := (sRet ((mMake 1 2 [] r_c_Ratio_init (aCons (op1 fNegI (mP (op1 (fFld fl_top) (mPl 0)))) (aCons (op1 (fFld fl_bottom) (mPl 0)) aNil)))))
noncomputable def r_c_Ratio_neg : List D → OF := runDef none false N_c_Ratio_neg.length m_c_Ratio_neg
theorem ok_c_Ratio_neg (z : Z P w K mg base) : ∃ fd, FD_c_Ratio_neg K fd ∧ FK P w K mg base 5 (He.ma K (He.ga K (PySem.Str.ofString "Ratio")) (PySem.Str.ofString "__neg__")) fd [(PySem.Str.ofString "self")] none false r_c_Ratio_neg := by
  obtain ⟨fd, F⟩ : ∃ fd, FD_c_Ratio_neg K fd := z.s.def_ 16 rfl
  obtain ⟨fd_c_Ratio_init, F_c_Ratio_init, G_c_Ratio_init⟩ := ok_c_Ratio_init z
  refine ⟨fd, F, ?_⟩
  have nd := sc_c_Ratio_neg.nd
  refine fnF F sc_c_Ratio_neg fun cdv A outer s H E hr => ?_
  exact (trB_one (trS_ret (trE_n (trN_make (c := 1) (He.mkr_ok (mk_Ratio z)) G_c_Ratio_init (hr.mono (by decide)) (gl_of (by kernel_rfl)) (g_Ratio z) (bd0_c_Ratio_init F_c_Ratio_init).choose_spec.2 (bd0_c_Ratio_init F_c_Ratio_init).choose_spec.1 (fun _ => .nil) (trA_cons (trE_un un_neg ok_negI (trP_e (trE_fld rfl (fo_top z) (nP n_c_Ratio_neg_0)))) (trA_cons (trE_fld rfl (fo_bottom z) (nP n_c_Ratio_neg_0)) trA_nil)) (by rfl) (by kernel_rfl)))))
/-! Ratio.__str__ -/
def N_c_Ratio_str : List Str := [(PySem.Str.ofString "self")]
def s_c_Ratio_str : Scope := defScope (inClass (top 22) 12)
def b_c_Ratio_str : List Stmt := defBody (inClass (top 22) 12)
theorem sc_c_Ratio_str : FnScope N_c_Ratio_str [(PySem.Str.ofString "self")] s_c_Ratio_str := ⟨rfl, rfl, rfl, by decide +kernel, rfl, by decide +kernel, by decide +kernel⟩
abbrev FD_c_Ratio_str (K : PySem.W.Frag) (fd : FuncData) : Prop := FunD K (PySem.Str.ofString "__str__") (PySem.Str.ofString "Ratio.__str__") (defArgs (inClass (top 22) 12)) b_c_Ratio_str s_c_Ratio_str [] [] (He.ma K (He.ga K (PySem.Str.ofString "Ratio")) (PySem.Str.ofString "__str__")) fd
theorem bn_c_Ratio_str {fd : FuncData} (F : FD_c_Ratio_str K fd) : Binds K fd [(PySem.Str.ofString "self")] [] := F.bindsN fun _ _ _ _ _ _ us hl => match us, hl with | [_], _ => rfl
theorem n_c_Ratio_str_0 : Nm N_c_Ratio_str s_c_Ratio_str 0 (PySem.Str.ofString "self") := nmB_ok (by decide +kernel)
noncomputable def m_c_Ratio_str : MS := (sSeq (sIf (tB1 (op2 fEq (mP (op1 (fFld fl_bottom) (mPl 0))) (mP (mC (.int 1))))) (sRet (mFn (fStrI) (qCons (mP (op1 (fFld fl_top) (mPl 0))) qNil))) sNil) (sRet (fJs [(op1 fFmt (mP (op1 (fFld fl_top) (mPl 0)))), (mC (.str (PySem.Str.ofString "/"))), (op1 fFmt (mP (op1 (fFld fl_bottom) (mPl 0))))] Str.empty)))
noncomputable def r_c_Ratio_str : List D → OF := runDef none false N_c_Ratio_str.length m_c_Ratio_str
theorem ok_c_Ratio_str (z : Z P w K mg base) : ∃ fd, FD_c_Ratio_str K fd ∧ FK P w K mg base 1 (He.ma K (He.ga K (PySem.Str.ofString "Ratio")) (PySem.Str.ofString "__str__")) fd [(PySem.Str.ofString "self")] none false r_c_Ratio_str := by
  obtain ⟨fd, F⟩ : ∃ fd, FD_c_Ratio_str K fd := z.s.def_ 17 rfl
  refine ⟨fd, F, ?_⟩
  have nd := sc_c_Ratio_str.nd
  refine fnF F sc_c_Ratio_str fun cdv A outer s H E hr => ?_
  exact (trB_cons (trS_if (trT_cmp (op_eqD hr.units) ok_eq (by rfl) (trP_e (trE_fld rfl (fo_bottom z) (nP n_c_Ratio_str_0))) (trP_e (trE_int))) (trB_one (trS_ret (trE_fnT call_str_int ok_strI (gl_of (by kernel_rfl)) (g_str z) (by kernel_rfl) (trQ_cons (trP_e (trE_fld rfl (fo_top z) (nP n_c_Ratio_str_0))) trQ_nil) (by decide) (by kernel_rfl)))) trB_nil)
  (trB_one (trS_ret (trE_joined (TrJ.cons (trE_fmt (trP_e (trE_fld rfl (fo_top z) (nP n_c_Ratio_str_0)))) (TrJ.cons (trE_str) (TrJ.cons (trE_fmt (trP_e (trE_fld rfl (fo_bottom z) (nP n_c_Ratio_str_0)))) TrJ.nil)))))))
/-! Ratio.__sub__ -/
def N_c_Ratio_sub : List Str := [(PySem.Str.ofString "self"), (PySem.Str.ofString "other"), (PySem.Str.ofString "less")]
def s_c_Ratio_sub : Scope := defScope (inClass (top 22) 6)
def b_c_Ratio_sub : List Stmt := defBody (inClass (top 22) 6)
theorem sc_c_Ratio_sub : FnScope N_c_Ratio_sub [(PySem.Str.ofString "self"), (PySem.Str.ofString "other")] s_c_Ratio_sub := ⟨rfl, rfl, rfl, by decide +kernel, rfl, by decide +kernel, by decide +kernel⟩
abbrev FD_c_Ratio_sub (K : PySem.W.Frag) (fd : FuncData) : Prop := FunD K (PySem.Str.ofString "__sub__") (PySem.Str.ofString "Ratio.__sub__") (defArgs (inClass (top 22) 6)) b_c_Ratio_sub s_c_Ratio_sub [] [] (He.ma K (He.ga K (PySem.Str.ofString "Ratio")) (PySem.Str.ofString "__sub__")) fd
theorem bn_c_Ratio_sub {fd : FuncData} (F : FD_c_Ratio_sub K fd) : Binds K fd [(PySem.Str.ofString "self"), (PySem.Str.ofString "other")] [] := F.bindsN fun _ _ _ _ _ _ us hl => match us, hl with | [_, _], _ => rfl
theorem n_c_Ratio_sub_0 : Nm N_c_Ratio_sub s_c_Ratio_sub 0 (PySem.Str.ofString "self") := nmB_ok (by decide +kernel)
theorem n_c_Ratio_sub_1 : Nm N_c_Ratio_sub s_c_Ratio_sub 1 (PySem.Str.ofString "other") := nmB_ok (by decide +kernel)
theorem n_c_Ratio_sub_2 : Nm N_c_Ratio_sub s_c_Ratio_sub 2 (PySem.Str.ofString "less") := nmB_ok (by decide +kernel)
noncomputable def m_c_Ratio_sub : MS := (sSeq (sSet 2 (mCallD none 2 [] r_f_ratio_from (qCons (mPl 1) (qCons (mP (mC (.str (PySem.Str.ofString "other")))) qNil)))) (sRet ((mMake 1 2 [] r_c_Ratio_init (aCons (op2 fSubI (mP (op2 fMul (mP (op1 (fFld fl_top) (mPl 0))) (mP (op1 (fFld fl_bottom) (mPl 2))))) (mP (op2 fMul (mP (op1 (fFld fl_top) (mPl 2))) (mP (op1 (fFld fl_bottom) (mPl 0)))))) (aCons (op2 fMul (mP (op1 (fFld fl_bottom) (mPl 0))) (mP (op1 (fFld fl_bottom) (mPl 2)))) aNil))))))
noncomputable def r_c_Ratio_sub : List D → OF := runDef none false N_c_Ratio_sub.length m_c_Ratio_sub
theorem ok_c_Ratio_sub (z : Z P w K mg base) : ∃ fd, FD_c_Ratio_sub K fd ∧ FK P w K mg base 6 (He.ma K (He.ga K (PySem.Str.ofString "Ratio")) (PySem.Str.ofString "__sub__")) fd [(PySem.Str.ofString "self"), (PySem.Str.ofString "other")] none false r_c_Ratio_sub := by
  obtain ⟨fd, F⟩ : ∃ fd, FD_c_Ratio_sub K fd := z.s.def_ 18 rfl
  obtain ⟨fd_f_ratio_from, F_f_ratio_from, G_f_ratio_from⟩ := ok_f_ratio_from z
  obtain ⟨fd_c_Ratio_init, F_c_Ratio_init, G_c_Ratio_init⟩ := ok_c_Ratio_init z
  refine ⟨fd, F, ?_⟩
  have nd := sc_c_Ratio_sub.nd
  refine fnF F sc_c_Ratio_sub fun cdv A outer s H E hr => ?_
  exact (trB_cons (trS_set nd (trE_callD G_f_ratio_from (hr.mono (by decide)) (gl_of (by kernel_rfl)) (g_ratio_from z) F_f_ratio_from.kp (bn_f_ratio_from F_f_ratio_from) .nil (fun _ => .nil) (trQ_cons (nP n_c_Ratio_sub_1) (trQ_cons (trP_e (trE_str)) trQ_nil)) (by rfl) (by rfl) (by kernel_rfl)) (by kernel_rfl) (locB_ok (by kernel_rfl)) (by rfl) (hf_of (by kernel_rfl)))
  (trB_one (trS_ret (trE_n (trN_make (c := 1) (He.mkr_ok (mk_Ratio z)) G_c_Ratio_init (hr.mono (by decide)) (gl_of (by kernel_rfl)) (g_Ratio z) (bd0_c_Ratio_init F_c_Ratio_init).choose_spec.2 (bd0_c_Ratio_init F_c_Ratio_init).choose_spec.1 (fun _ => .nil) (trA_cons (trE_bin op_sub ok_subI (trP_e (trE_bin op_mulU ok_mulU (trP_e (trE_fld rfl (fo_top z) (nP n_c_Ratio_sub_0))) (trP_e (trE_fld rfl (fo_bottom z) (nP n_c_Ratio_sub_2))))) (trP_e (trE_bin op_mulU ok_mulU (trP_e (trE_fld rfl (fo_top z) (nP n_c_Ratio_sub_2))) (trP_e (trE_fld rfl (fo_bottom z) (nP n_c_Ratio_sub_0)))))) (trA_cons (trE_bin op_mulU ok_mulU (trP_e (trE_fld rfl (fo_bottom z) (nP n_c_Ratio_sub_0))) (trP_e (trE_fld rfl (fo_bottom z) (nP n_c_Ratio_sub_2)))) trA_nil)) (by rfl) (by kernel_rfl))))))
/-! Ratio.__repr__ -/
def N_c_Ratio_repr : List Str := [(PySem.Str.ofString "self")]
def s_c_Ratio_repr : Scope := defScope (inClass (top 22) 13)
def b_c_Ratio_repr : List Stmt := defBody (inClass (top 22) 13)
theorem sc_c_Ratio_repr : FnScope N_c_Ratio_repr [(PySem.Str.ofString "self")] s_c_Ratio_repr := ⟨rfl, rfl, rfl, by decide +kernel, rfl, by decide +kernel, by decide +kernel⟩
abbrev FD_c_Ratio_repr (K : PySem.W.Frag) (fd : FuncData) : Prop := FunD K (PySem.Str.ofString "__repr__") (PySem.Str.ofString "Ratio.__repr__") (defArgs (inClass (top 22) 13)) b_c_Ratio_repr s_c_Ratio_repr [] [] (He.ma K (He.ga K (PySem.Str.ofString "Ratio")) (PySem.Str.ofString "__repr__")) fd
theorem bn_c_Ratio_repr {fd : FuncData} (F : FD_c_Ratio_repr K fd) : Binds K fd [(PySem.Str.ofString "self")] [] := F.bindsN fun _ _ _ _ _ _ us hl => match us, hl with | [_], _ => rfl
theorem n_c_Ratio_repr_0 : Nm N_c_Ratio_repr s_c_Ratio_repr 0 (PySem.Str.ofString "self") := nmB_ok (by decide +kernel)
noncomputable def m_c_Ratio_repr : MS := (sRet (mFnX (ownS 1 r_c_Ratio_str) fStrI (qCons (mPl 0) qNil)))
noncomputable def r_c_Ratio_repr : List D → OF := runDef none false N_c_Ratio_repr.length m_c_Ratio_repr
theorem ok_c_Ratio_repr (z : Z P w K mg base) : ∃ fd, FD_c_Ratio_repr K fd ∧ FK P w K mg base 4 (He.ma K (He.ga K (PySem.Str.ofString "Ratio")) (PySem.Str.ofString "__repr__")) fd [(PySem.Str.ofString "self")] none false r_c_Ratio_repr := by
  obtain ⟨fd, F⟩ : ∃ fd, FD_c_Ratio_repr K fd := z.s.def_ 19 rfl
  obtain ⟨fd_c_Ratio_str, F_c_Ratio_str, G_c_Ratio_str⟩ := ok_c_Ratio_str z
  refine ⟨fd, F, ?_⟩
  have nd := sc_c_Ratio_repr.nd
  refine fnF F sc_c_Ratio_repr fun cdv A outer s H E hr => ?_
  exact (trB_one (trS_ret (trE_fnXT (fun E hx => call_ownStr (ownB1_ok (ob_c_Ratio_str z)) ((G_c_Ratio_str).raw (bn_c_Ratio_str F_c_Ratio_str) .nil) (hr.mono (by decide)) hx) okX_callS call_str_int ok_strI (gl_of (by kernel_rfl)) (g_str z) (by kernel_rfl) (trQ_cons (nP n_c_Ratio_repr_0) trQ_nil) (by decide) (by kernel_rfl))))
/-! Ratio.compared -/
def N_c_Ratio_compared : List Str := [(PySem.Str.ofString "self"), (PySem.Str.ofString "other"), (PySem.Str.ofString "less"), (PySem.Str.ofString "apart")]
def s_c_Ratio_compared : Scope := defScope (inClass (top 22) 15)
def b_c_Ratio_compared : List Stmt := defBody (inClass (top 22) 15)
theorem sc_c_Ratio_compared : FnScope N_c_Ratio_compared [(PySem.Str.ofString "self"), (PySem.Str.ofString "other")] s_c_Ratio_compared := ⟨rfl, rfl, rfl, by decide +kernel, rfl, by decide +kernel, by decide +kernel⟩
abbrev FD_c_Ratio_compared (K : PySem.W.Frag) (fd : FuncData) : Prop := FunD K (PySem.Str.ofString "compared") (PySem.Str.ofString "Ratio.compared") (defArgs (inClass (top 22) 15)) b_c_Ratio_compared s_c_Ratio_compared [] [] (He.ma K (He.ga K (PySem.Str.ofString "Ratio")) (PySem.Str.ofString "compared")) fd
theorem bn_c_Ratio_compared {fd : FuncData} (F : FD_c_Ratio_compared K fd) : Binds K fd [(PySem.Str.ofString "self"), (PySem.Str.ofString "other")] [] := F.bindsN fun _ _ _ _ _ _ us hl => match us, hl with | [_, _], _ => rfl
theorem n_c_Ratio_compared_0 : Nm N_c_Ratio_compared s_c_Ratio_compared 0 (PySem.Str.ofString "self") := nmB_ok (by decide +kernel)
theorem n_c_Ratio_compared_1 : Nm N_c_Ratio_compared s_c_Ratio_compared 1 (PySem.Str.ofString "other") := nmB_ok (by decide +kernel)
theorem n_c_Ratio_compared_2 : Nm N_c_Ratio_compared s_c_Ratio_compared 2 (PySem.Str.ofString "less") := nmB_ok (by decide +kernel)
theorem n_c_Ratio_compared_3 : Nm N_c_Ratio_compared s_c_Ratio_compared 3 (PySem.Str.ofString "apart") := nmB_ok (by decide +kernel)
noncomputable def m_c_Ratio_compared : MS := (sSeq (sSet 2 (mCallD none 2 [] r_f_ratio_from (qCons (mPl 1) (qCons (mP (mC (.str (PySem.Str.ofString "other")))) qNil)))) (sSeq (sSet 3 (op2 fSubI (mP (op2 fMul (mP (op1 (fFld fl_top) (mPl 0))) (mP (op1 (fFld fl_bottom) (mPl 2))))) (mP (op2 fMul (mP (op1 (fFld fl_top) (mPl 2))) (mP (op1 (fFld fl_bottom) (mPl 0))))))) (sSeq (sIf (tB1 (op2 fLtI (mPl 3) (mP (mC (.int 0))))) (sRet (op1 fNegI (mP (mC (.int 1))))) sNil) (sRet (mIf (tB1 (op2 fGtI (mPl 3) (mP (mC (.int 0))))) (mC (.int 1)) (mC (.int 0)))))))
noncomputable def r_c_Ratio_compared : List D → OF := runDef none false N_c_Ratio_compared.length m_c_Ratio_compared
theorem ok_c_Ratio_compared (z : Z P w K mg base) : ∃ fd, FD_c_Ratio_compared K fd ∧ FK P w K mg base 6 (He.ma K (He.ga K (PySem.Str.ofString "Ratio")) (PySem.Str.ofString "compared")) fd [(PySem.Str.ofString "self"), (PySem.Str.ofString "other")] none false r_c_Ratio_compared := by
  obtain ⟨fd, F⟩ : ∃ fd, FD_c_Ratio_compared K fd := z.s.def_ 20 rfl
  obtain ⟨fd_f_ratio_from, F_f_ratio_from, G_f_ratio_from⟩ := ok_f_ratio_from z
  refine ⟨fd, F, ?_⟩
  have nd := sc_c_Ratio_compared.nd
  refine fnF F sc_c_Ratio_compared fun cdv A outer s H E hr => ?_
  exact (trB_cons (trS_set nd (trE_callD G_f_ratio_from (hr.mono (by decide)) (gl_of (by kernel_rfl)) (g_ratio_from z) F_f_ratio_from.kp (bn_f_ratio_from F_f_ratio_from) .nil (fun _ => .nil) (trQ_cons (nP n_c_Ratio_compared_1) (trQ_cons (trP_e (trE_str)) trQ_nil)) (by rfl) (by rfl) (by kernel_rfl)) (by kernel_rfl) (locB_ok (by kernel_rfl)) (by rfl) (hf_of (by kernel_rfl)))
  (trB_cons (trS_set nd (trE_bin op_sub ok_subI (trP_e (trE_bin op_mulU ok_mulU (trP_e (trE_fld rfl (fo_top z) (nP n_c_Ratio_compared_0))) (trP_e (trE_fld rfl (fo_bottom z) (nP n_c_Ratio_compared_2))))) (trP_e (trE_bin op_mulU ok_mulU (trP_e (trE_fld rfl (fo_top z) (nP n_c_Ratio_compared_2))) (trP_e (trE_fld rfl (fo_bottom z) (nP n_c_Ratio_compared_0)))))) (by kernel_rfl) (locB_ok (by kernel_rfl)) (by rfl) (hf_of (by kernel_rfl)))
  (trB_cons (trS_if (trT_cmp op_lt ok_ltI (by rfl) (nP n_c_Ratio_compared_3) (trP_e (trE_int))) (trB_one (trS_ret (trE_un un_neg ok_negI (trP_e (trE_int))))) trB_nil)
  (trB_one (trS_ret (trE_if (trT_cmp op_gt ok_gtI (by rfl) (nP n_c_Ratio_compared_3) (trP_e (trE_int))) (trE_int) (trE_int)))))))
/-! Ratio.is_below -/
def N_c_Ratio_is_below : List Str := [(PySem.Str.ofString "self"), (PySem.Str.ofString "other")]
def s_c_Ratio_is_below : Scope := defScope (inClass (top 22) 16)
def b_c_Ratio_is_below : List Stmt := defBody (inClass (top 22) 16)
theorem sc_c_Ratio_is_below : FnScope N_c_Ratio_is_below [(PySem.Str.ofString "self"), (PySem.Str.ofString "other")] s_c_Ratio_is_below := ⟨rfl, rfl, rfl, by decide +kernel, rfl, by decide +kernel, by decide +kernel⟩
abbrev FD_c_Ratio_is_below (K : PySem.W.Frag) (fd : FuncData) : Prop := FunD K (PySem.Str.ofString "is_below") (PySem.Str.ofString "Ratio.is_below") (defArgs (inClass (top 22) 16)) b_c_Ratio_is_below s_c_Ratio_is_below [] [] (He.ma K (He.ga K (PySem.Str.ofString "Ratio")) (PySem.Str.ofString "is_below")) fd
theorem bn_c_Ratio_is_below {fd : FuncData} (F : FD_c_Ratio_is_below K fd) : Binds K fd [(PySem.Str.ofString "self"), (PySem.Str.ofString "other")] [] := F.bindsN fun _ _ _ _ _ _ us hl => match us, hl with | [_, _], _ => rfl
theorem n_c_Ratio_is_below_0 : Nm N_c_Ratio_is_below s_c_Ratio_is_below 0 (PySem.Str.ofString "self") := nmB_ok (by decide +kernel)
theorem n_c_Ratio_is_below_1 : Nm N_c_Ratio_is_below s_c_Ratio_is_below 1 (PySem.Str.ofString "other") := nmB_ok (by decide +kernel)
noncomputable def m_c_Ratio_is_below : MS := (sRet (op2 fEq (mP (mMethD 1 none 2 [] r_c_Ratio_compared (mPl 0) (qCons (mPl 1) qNil))) (mP (op1 fNegI (mP (mC (.int 1)))))))
noncomputable def r_c_Ratio_is_below : List D → OF := runDef none false N_c_Ratio_is_below.length m_c_Ratio_is_below
theorem ok_c_Ratio_is_below (z : Z P w K mg base) : ∃ fd, FD_c_Ratio_is_below K fd ∧ FK P w K mg base 7 (He.ma K (He.ga K (PySem.Str.ofString "Ratio")) (PySem.Str.ofString "is_below")) fd [(PySem.Str.ofString "self"), (PySem.Str.ofString "other")] none false r_c_Ratio_is_below := by
  obtain ⟨fd, F⟩ : ∃ fd, FD_c_Ratio_is_below K fd := z.s.def_ 21 rfl
  obtain ⟨fd_c_Ratio_compared, F_c_Ratio_compared, G_c_Ratio_compared⟩ := ok_c_Ratio_compared z
  refine ⟨fd, F, ?_⟩
  have nd := sc_c_Ratio_is_below.nd
  refine fnF F sc_c_Ratio_is_below fun cdv A outer s H E hr => ?_
  exact (trB_one (trS_ret (trE_cmp (op_eqD hr.units) ok_eq (by rfl) (trP_e (trE_meth (c := 1) (pl := _) (clsB_ok (cl_Ratio z)) (me_c_Ratio_compared z) (by kernel_rfl) G_c_Ratio_compared (hr.mono (by decide)) (bn_c_Ratio_compared F_c_Ratio_compared) .nil (fun _ => .nil) (nP n_c_Ratio_is_below_0) (trQ_cons (nP n_c_Ratio_is_below_1) trQ_nil))) (trP_e (trE_un un_neg ok_negI (trP_e (trE_int)))))))
/-! Ratio.over -/
def N_c_Ratio_over : List Str := [(PySem.Str.ofString "self"), (PySem.Str.ofString "other"), (PySem.Str.ofString "under")]
def s_c_Ratio_over : Scope := defScope (inClass (top 22) 14)
def b_c_Ratio_over : List Stmt := defBody (inClass (top 22) 14)
theorem sc_c_Ratio_over : FnScope N_c_Ratio_over [(PySem.Str.ofString "self"), (PySem.Str.ofString "other")] s_c_Ratio_over := ⟨rfl, rfl, rfl, by decide +kernel, rfl, by decide +kernel, by decide +kernel⟩
abbrev FD_c_Ratio_over (K : PySem.W.Frag) (fd : FuncData) : Prop := FunD K (PySem.Str.ofString "over") (PySem.Str.ofString "Ratio.over") (defArgs (inClass (top 22) 14)) b_c_Ratio_over s_c_Ratio_over [] [] (He.ma K (He.ga K (PySem.Str.ofString "Ratio")) (PySem.Str.ofString "over")) fd
theorem bn_c_Ratio_over {fd : FuncData} (F : FD_c_Ratio_over K fd) : Binds K fd [(PySem.Str.ofString "self"), (PySem.Str.ofString "other")] [] := F.bindsN fun _ _ _ _ _ _ us hl => match us, hl with | [_, _], _ => rfl
theorem n_c_Ratio_over_0 : Nm N_c_Ratio_over s_c_Ratio_over 0 (PySem.Str.ofString "self") := nmB_ok (by decide +kernel)
theorem n_c_Ratio_over_1 : Nm N_c_Ratio_over s_c_Ratio_over 1 (PySem.Str.ofString "other") := nmB_ok (by decide +kernel)
theorem n_c_Ratio_over_2 : Nm N_c_Ratio_over s_c_Ratio_over 2 (PySem.Str.ofString "under") := nmB_ok (by decide +kernel)
noncomputable def m_c_Ratio_over : MS := (sSeq (sSet 2 (mCallD none 2 [] r_f_ratio_from (qCons (mPl 1) (qCons (mP (mC (.str (PySem.Str.ofString "other")))) qNil)))) (sSeq (sIf (tB1 (op2 fEq (mP (op1 (fFld fl_top) (mPl 2))) (mP (mC (.int 0))))) (sRaise 2 1 (aCons (mC (.str (PySem.Str.ofString "zero"))) aNil)) sNil) (sRet ((mMake 1 2 [] r_c_Ratio_init (aCons (op2 fMul (mP (op1 (fFld fl_top) (mPl 0))) (mP (op1 (fFld fl_bottom) (mPl 2)))) (aCons (op2 fMul (mP (op1 (fFld fl_bottom) (mPl 0))) (mP (op1 (fFld fl_top) (mPl 2)))) aNil)))))))
noncomputable def r_c_Ratio_over : List D → OF := runDef none false N_c_Ratio_over.length m_c_Ratio_over
theorem ok_c_Ratio_over (z : Z P w K mg base) : ∃ fd, FD_c_Ratio_over K fd ∧ FK P w K mg base 6 (He.ma K (He.ga K (PySem.Str.ofString "Ratio")) (PySem.Str.ofString "over")) fd [(PySem.Str.ofString "self"), (PySem.Str.ofString "other")] none false r_c_Ratio_over := by
  obtain ⟨fd, F⟩ : ∃ fd, FD_c_Ratio_over K fd := z.s.def_ 22 rfl
  obtain ⟨fd_f_ratio_from, F_f_ratio_from, G_f_ratio_from⟩ := ok_f_ratio_from z
  obtain ⟨fd_c_BadRatio_init, F_c_BadRatio_init, G_c_BadRatio_init⟩ := ok_c_BadRatio_init z
  obtain ⟨fd_c_Ratio_init, F_c_Ratio_init, G_c_Ratio_init⟩ := ok_c_Ratio_init z
  refine ⟨fd, F, ?_⟩
  have nd := sc_c_Ratio_over.nd
  refine fnF F sc_c_Ratio_over fun cdv A outer s H E hr => ?_
  exact (trB_cons (trS_set nd (trE_callD G_f_ratio_from (hr.mono (by decide)) (gl_of (by kernel_rfl)) (g_ratio_from z) F_f_ratio_from.kp (bn_f_ratio_from F_f_ratio_from) .nil (fun _ => .nil) (trQ_cons (nP n_c_Ratio_over_1) (trQ_cons (trP_e (trE_str)) trQ_nil)) (by rfl) (by rfl) (by kernel_rfl)) (by kernel_rfl) (locB_ok (by kernel_rfl)) (by rfl) (hf_of (by kernel_rfl)))
  (trB_cons (trS_if (trT_cmp (op_eqD hr.units) ok_eq (by rfl) (trP_e (trE_fld rfl (fo_top z) (nP n_c_Ratio_over_2))) (trP_e (trE_int))) (trB_one (trS_raise (c := 2) rfl (oexB_ok (ox_BadRatio z)) (xi_BadRatio z) (xt_BadRatio z) G_c_BadRatio_init (hr.mono (by decide)) (bn_c_BadRatio_init F_c_BadRatio_init) (gl_of (by kernel_rfl)) (g_BadRatio z) (trA_cons (trE_str) trA_nil) rfl (by decide) (by rfl) (by decide) (by kernel_rfl))) trB_nil)
  (trB_one (trS_ret (trE_n (trN_make (c := 1) (He.mkr_ok (mk_Ratio z)) G_c_Ratio_init (hr.mono (by decide)) (gl_of (by kernel_rfl)) (g_Ratio z) (bd0_c_Ratio_init F_c_Ratio_init).choose_spec.2 (bd0_c_Ratio_init F_c_Ratio_init).choose_spec.1 (fun _ => .nil) (trA_cons (trE_bin op_mulU ok_mulU (trP_e (trE_fld rfl (fo_top z) (nP n_c_Ratio_over_0))) (trP_e (trE_fld rfl (fo_bottom z) (nP n_c_Ratio_over_2)))) (trA_cons (trE_bin op_mulU ok_mulU (trP_e (trE_fld rfl (fo_bottom z) (nP n_c_Ratio_over_0))) (trP_e (trE_fld rfl (fo_top z) (nP n_c_Ratio_over_2)))) trA_nil)) (by rfl) (by kernel_rfl)))))))
/-! _law_refused -/
def N_f_law_refused : List Str := [(PySem.Str.ofString "_law_ask"), (PySem.Str.ofString "_law_part"), (PySem.Str.ofString "error")]
def s_f_law_refused : Scope := defScope (top 38)
def b_f_law_refused : List Stmt := defBody (top 38)
theorem sc_f_law_refused : FnScope N_f_law_refused [(PySem.Str.ofString "_law_ask"), (PySem.Str.ofString "_law_part")] s_f_law_refused := ⟨rfl, rfl, rfl, by decide +kernel, rfl, by decide +kernel, by decide +kernel⟩
abbrev FD_f_law_refused (K : PySem.W.Frag) (fd : FuncData) : Prop := FunD K (PySem.Str.ofString "_law_refused") (PySem.Str.ofString "_law_refused") (defArgs (top 38)) b_f_law_refused s_f_law_refused [] [] (He.ga K (PySem.Str.ofString "_law_refused")) fd
theorem bn_f_law_refused {fd : FuncData} (F : FD_f_law_refused K fd) : Binds K fd [(PySem.Str.ofString "_law_ask"), (PySem.Str.ofString "_law_part")] [] := F.bindsN fun _ _ _ _ _ _ us hl => match us, hl with | [_, _], _ => rfl
def suite_f_law_refused (a dd : Addr) (cl : Nat) : MS := (sRet (op2 fEqSc (mP (op1 (fXf a dd cl fl_part) (mP (mV 2)))) (mPl 1)))
def rest_f_law_refused : MS := (sRet (mC (.bl false)))
def kf_f_law_refused : Nat → Option Bool
  | 2 => some true
  | 3 => some false
  | _ => none
theorem ok_f_law_refused (z : Z P w K mg base) : ∃ fd, FD_f_law_refused K fd := z.s.def_ 23 rfl
theorem xfk_f_law_refused (z : Z P w K mg base) : ∀ c, kf_f_law_refused c = some true → XfC K ((tab K).adr c) := fun c h => by
  unfold kf_f_law_refused at h
  split at h
  · cases h; exact xfB_ok (xf_BadRatio z)
  · cases h
  · cases h
theorem xnk_f_law_refused_part (z : Z P w K mg base) : ∀ c, kf_f_law_refused c = some true → PySem.W.findIn K (.ref ((tab K).adr c)) (PySem.Str.ofString "part") = some none := fun c h => by
  unfold kf_f_law_refused at h
  split at h
  · cases h; exact xn_BadRatio_part z
  · cases h
  · cases h
theorem kfo_f_law_refused (z : Z P w K mg base) : ∀ c b, kf_f_law_refused c = some b → PySem.W.exmOne K (.ref ((tab K).adr c)) (.ref (He.ga K (PySem.Str.ofString "BadRatio"))) = some b := fun c b h => by
  unfold kf_f_law_refused at h
  split at h
  · cases h; exact em_BadRatio_BadRatio z
  · cases h; exact em_BadText_BadRatio z
  · cases h
theorem gv_f_law_refused {X : Cx} {g : Addr} {cdg : Value} {q : Str} (z : Z X.prog X.w X.K X.mg X.base) : GivesM X N_f_law_refused (PySem.Str.ofString "_law_refused") s_f_law_refused g cdg b_f_law_refused (PySem.Str.ofString "_law_ask") q (TTm (tab X.K) kf_f_law_refused (tryOk N_f_law_refused.length rest_f_law_refused) (tryEx N_f_law_refused.length 2 kf_f_law_refused suite_f_law_refused)) :=
  gives_try (CS := He.ga X.K (PySem.Str.ofString "BadRatio")) (T := tab X.K) sc_f_law_refused.nd (by kernel_rfl) (fun s H => by kernel_rfl) (fun s H => ⟨(gl_of (by kernel_rfl)), (by kernel_rfl), .inl (g_BadRatio z)⟩) (kfo_f_law_refused z) (fun s H => (trB_one (trS_ret (trE_bl)))) (fun s H a oe cl dd pn hk hz hf => (trB_one (trS_ret (trE_cmp op_eq ok_eqSc (by rfl) (trP_e (trE_xf (xfk_f_law_refused z cl hk) (xnk_f_law_refused_part z cl hk) hz hf (fun c i h => fx_part _ c i h) (nV (nmB_ok (by kernel_rfl))))) (nP (nmB_ok (by kernel_rfl)))))))
theorem ind_f_law_refused : ∀ c fs a dd ds, tryEx 3 2 kf_f_law_refused suite_f_law_refused c fs a dd ds = tryEx 3 2 kf_f_law_refused suite_f_law_refused c fs 0 0 ds := by
  intro c fs a dd ds
  match ds with
  | [] =>
    simp [tryEx, suite_f_law_refused, lamE, putIm, sRet, sIf, op2, op1, mP, mPl, mV, mC, fXf, Out.bind, Out.bindS, PV.get, getD, ofO, endEx]
    rcases kf_f_law_refused c with _ | _ | _ <;> simp
    rcases hf : (fl_part c).bind (fun x => fs[x]?) with _ | r <;> simp
  | [d0] =>
    simp [tryEx, suite_f_law_refused, lamE, putIm, sRet, sIf, op2, op1, mP, mPl, mV, mC, fXf, Out.bind, Out.bindS, PV.get, getD, ofO, endEx]
    rcases kf_f_law_refused c with _ | _ | _ <;> simp
    rcases hf : (fl_part c).bind (fun x => fs[x]?) with _ | r <;> simp
    rcases fEqSc r d0 with _ | r2 <;> simp
  | [d0, d1] =>
    simp [tryEx, suite_f_law_refused, lamE, putIm, sRet, sIf, op2, op1, mP, mPl, mV, mC, fXf, Out.bind, Out.bindS, PV.get, getD, ofO, endEx]
    rcases kf_f_law_refused c with _ | _ | _ <;> simp
    rcases hf : (fl_part c).bind (fun x => fs[x]?) with _ | r <;> simp
    rcases fEqSc r d0 with _ | r2 <;> simp
  | _ :: _ :: _ :: _ => unfold tryEx; rw [if_neg (by simp), if_neg (by simp)]
/-! is_ratio -/
def N_f_is_ratio : List Str := [(PySem.Str.ofString "value")]
def s_f_is_ratio : Scope := defScope (top 18)
def b_f_is_ratio : List Stmt := defBody (top 18)
theorem sc_f_is_ratio : FnScope N_f_is_ratio [(PySem.Str.ofString "value")] s_f_is_ratio := ⟨rfl, rfl, rfl, by decide +kernel, rfl, by decide +kernel, by decide +kernel⟩
abbrev FD_f_is_ratio (K : PySem.W.Frag) (fd : FuncData) : Prop := FunD K (PySem.Str.ofString "is_ratio") (PySem.Str.ofString "is_ratio") (defArgs (top 18)) b_f_is_ratio s_f_is_ratio [] [] (He.ga K (PySem.Str.ofString "is_ratio")) fd
theorem bn_f_is_ratio {fd : FuncData} (F : FD_f_is_ratio K fd) : Binds K fd [(PySem.Str.ofString "value")] [] := F.bindsN fun _ _ _ _ _ _ us hl => match us, hl with | [_], _ => rfl
theorem n_f_is_ratio_0 : Nm N_f_is_ratio s_f_is_ratio 0 (PySem.Str.ofString "value") := nmB_ok (by decide +kernel)
noncomputable def m_f_is_ratio : MS := (sRet ((mOr (mFn (fIsi t0) (qCons (mPl 0) (qCons (mP (mC (.cls 1))) qNil))) (mCallD none 1 [] r_f_is_integer (qCons (mPl 0) qNil)))))
noncomputable def r_f_is_ratio : List D → OF := runDef none false N_f_is_ratio.length m_f_is_ratio
theorem ok_f_is_ratio (z : Z P w K mg base) : ∃ fd, FD_f_is_ratio K fd ∧ FK P w K mg base 2 (He.ga K (PySem.Str.ofString "is_ratio")) fd [(PySem.Str.ofString "value")] none false r_f_is_ratio := by
  obtain ⟨fd, F⟩ : ∃ fd, FD_f_is_ratio K fd := z.s.def_ 24 rfl
  obtain ⟨fd_f_is_integer, F_f_is_integer, G_f_is_integer⟩ := ok_f_is_integer z
  refine ⟨fd, F, ?_⟩
  have nd := sc_f_is_ratio.nd
  refine fnF F sc_f_is_ratio fun cdv A outer s H E hr => ?_
  exact (trB_one (trS_ret ((trE_or rfl (trE_fnB (callR_or call_isi call_isiT) (ok_isi0 (tabok z) rfl rfl) (gl_of (by kernel_rfl)) (g_isinstance z) (by kernel_rfl) (trQ_cons (nP n_f_is_ratio_0) (trQ_cons (trP_e (trE_glob (v := .ref (He.ga K (PySem.Str.ofString "Ratio"))) (gl_of (by kernel_rfl)) (g_Ratio z) rfl (fun _ => is_cls.mpr rfl) (by kernel_rfl))) trQ_nil)) (by decide) (by kernel_rfl)) (trE_one (trE_callD G_f_is_integer (hr.mono (by decide)) (gl_of (by kernel_rfl)) (g_is_integer z) F_f_is_integer.kp (bn_f_is_integer F_f_is_integer) .nil (fun _ => .nil) (trQ_cons (nP n_f_is_ratio_0) trQ_nil) (by rfl) (by rfl) (by kernel_rfl)))))))
/-! added -/
def N_f_added : List Str := [(PySem.Str.ofString "ratios"), (PySem.Str.ofString "one"), (PySem.Str.ofString "total")]
def s_f_added : Scope := defScope (top 23)
def b_f_added : List Stmt := defBody (top 23)
theorem sc_f_added : FnScope N_f_added [(PySem.Str.ofString "ratios")] s_f_added := ⟨rfl, rfl, rfl, by decide +kernel, rfl, by decide +kernel, by decide +kernel⟩
abbrev FD_f_added (K : PySem.W.Frag) (fd : FuncData) : Prop := FunD K (PySem.Str.ofString "added") (PySem.Str.ofString "added") (defArgs (top 23)) b_f_added s_f_added [] [] (He.ga K (PySem.Str.ofString "added")) fd
theorem bn_f_added {fd : FuncData} (F : FD_f_added K fd) : Binds K fd [(PySem.Str.ofString "ratios")] [] := F.bindsN fun _ _ _ _ _ _ us hl => match us, hl with | [_], _ => rfl
theorem n_f_added_0 : Nm N_f_added s_f_added 0 (PySem.Str.ofString "ratios") := nmB_ok (by decide +kernel)
theorem n_f_added_1 : Nm N_f_added s_f_added 1 (PySem.Str.ofString "one") := nmB_ok (by decide +kernel)
theorem n_f_added_2 : Nm N_f_added s_f_added 2 (PySem.Str.ofString "total") := nmB_ok (by decide +kernel)
noncomputable def m_f_added : MS := (sSeq (sIf ((tOr2 (tNt (tT (mP (mFn (fIsi t0) (qCons (mPl 0) (qCons (mP (mTup (aCons (mC (.ty "list")) (aCons (mC (.ty "tuple")) aNil)))) qNil)))))) (tNt (tT (mP (mFn (fAllL) (qCons (mP ((mLc (iSeq (mV 0)) (gNm 1) tTrue (mCallD none 1 [] r_f_is_ratio (qCons (mPl 1) qNil)) [1]))) qNil))))))) (sRaise 2 1 (aCons (mC (.str (PySem.Str.ofString "ratios"))) aNil)) sNil) (sSeq (sSet 2 ((mMake 1 1 [.int 1] r_c_Ratio_init (aCons (mC (.int 0)) aNil)))) (sSeq (sFor (iSeq (mV 0)) (gNm 1) (sSet 2 (op2X (ownB 1 [1] r_c_Ratio_add) fAdd (mPl 2) (mPl 1)))) (sRet (mV 2)))))
noncomputable def r_f_added : List D → OF := runDef none false N_f_added.length m_f_added
theorem ok_f_added (z : Z P w K mg base) : ∃ fd, FD_f_added K fd ∧ FK P w K mg base 7 (He.ga K (PySem.Str.ofString "added")) fd [(PySem.Str.ofString "ratios")] none false r_f_added := by
  obtain ⟨fd, F⟩ : ∃ fd, FD_f_added K fd := z.s.def_ 25 rfl
  obtain ⟨fd_f_is_ratio, F_f_is_ratio, G_f_is_ratio⟩ := ok_f_is_ratio z
  obtain ⟨fd_c_BadRatio_init, F_c_BadRatio_init, G_c_BadRatio_init⟩ := ok_c_BadRatio_init z
  obtain ⟨fd_c_Ratio_init, F_c_Ratio_init, G_c_Ratio_init⟩ := ok_c_Ratio_init z
  obtain ⟨fd_c_Ratio_add, F_c_Ratio_add, G_c_Ratio_add⟩ := ok_c_Ratio_add z
  refine ⟨fd, F, ?_⟩
  have nd := sc_f_added.nd
  refine fnF F sc_f_added fun cdv A outer s H E hr => ?_
  exact (trB_cons (trS_if (trT_w (trW_or (trT_not (trT_p rfl (trP_e (trE_fnB (callR_or call_isi call_isiT) (ok_isi0 (tabok z) rfl rfl) (gl_of (by kernel_rfl)) (g_isinstance z) (by kernel_rfl) (trQ_cons (nP n_f_added_0) (trQ_cons (trP_e (trE_tup (trA_cons (trE_bty (gl_of (by kernel_rfl)) (g_list z) (by kernel_rfl) (by decide) (by kernel_rfl)) (trA_cons (trE_bty (gl_of (by kernel_rfl)) (g_tuple z) (by kernel_rfl) (by decide) (by kernel_rfl)) trA_nil)))) trQ_nil)) (by decide) (by kernel_rfl))))) (trW_or1 (trT_not (trT_p rfl (trP_e (trE_fnB (cr_all rfl) ok_allL (gl_of (by kernel_rfl)) (g_all z) (by kernel_rfl) (trQ_cons (trP_e (trE_n (trN_lc rfl nd (trI_seq rfl (nV n_f_added_0)) (blkOk_by (own := [((PySem.Str.ofString "one"), 1)]) (by kernel_rfl)) (fun _ _ _ _ _ => (trG_name nd (by kernel_rfl) (locB_ok (by kernel_rfl)) (hf_of (by kernel_rfl)))) (fun _ _ _ _ _ => trTs_nil) (fun _ _ _ _ _ => (trE_callD G_f_is_ratio (hr.mono (by decide)) (gl_of (by kernel_rfl)) (g_is_ratio z) F_f_is_ratio.kp (bn_f_is_ratio F_f_is_ratio) .nil (fun _ => .nil) (trQ_cons (nP (nmB_ok (by kernel_rfl))) trQ_nil) (by rfl) (by rfl) (by kernel_rfl)))))) trQ_nil) (by decide) (by kernel_rfl)))))))) (trB_one (trS_raise (c := 2) rfl (oexB_ok (ox_BadRatio z)) (xi_BadRatio z) (xt_BadRatio z) G_c_BadRatio_init (hr.mono (by decide)) (bn_c_BadRatio_init F_c_BadRatio_init) (gl_of (by kernel_rfl)) (g_BadRatio z) (trA_cons (trE_str) trA_nil) rfl (by decide) (by rfl) (by decide) (by kernel_rfl))) trB_nil)
  (trB_cons (trS_set nd (trE_n (trN_make (c := 1) (He.mkr_ok (mk_Ratio z)) G_c_Ratio_init (hr.mono (by decide)) (gl_of (by kernel_rfl)) (g_Ratio z) (bd1_c_Ratio_init F_c_Ratio_init).choose_spec.2 (bd1_c_Ratio_init F_c_Ratio_init).choose_spec.1 (fun _ => .cons (is_int.mpr rfl) .nil) (trA_cons (trE_int) trA_nil) (by rfl) (by kernel_rfl))) (by kernel_rfl) (locB_ok (by kernel_rfl)) (by rfl) (hf_of (by kernel_rfl)))
  (trB_cons (trS_for rfl (trI_seq rfl (nV n_f_added_0)) (trG_name nd (by kernel_rfl) (locB_ok (by kernel_rfl)) (hf_of (by kernel_rfl))) (trB_one (trS_set nd (trE_binX (fun E hx => op_ownBin (binB_ok (ob_c_Ratio_add z)) ((G_c_Ratio_add).raw (bn_c_Ratio_add F_c_Ratio_add) .nil) (hr.mono (by decide)) hx) (okX_bin binTy_add) op_addU ok_addU (nP n_f_added_2) (nP n_f_added_1)) (by kernel_rfl) (locB_ok (by kernel_rfl)) (by rfl) (hf_of (by kernel_rfl)))))
  (trB_one (trS_ret (nV n_f_added_2))))))
/-! greatest_of -/
def N_f_greatest_of : List Str := [(PySem.Str.ofString "ratios"), (PySem.Str.ofString "one"), (PySem.Str.ofString "best")]
def s_f_greatest_of : Scope := defScope (top 24)
def b_f_greatest_of : List Stmt := defBody (top 24)
theorem sc_f_greatest_of : FnScope N_f_greatest_of [(PySem.Str.ofString "ratios")] s_f_greatest_of := ⟨rfl, rfl, rfl, by decide +kernel, rfl, by decide +kernel, by decide +kernel⟩
abbrev FD_f_greatest_of (K : PySem.W.Frag) (fd : FuncData) : Prop := FunD K (PySem.Str.ofString "greatest_of") (PySem.Str.ofString "greatest_of") (defArgs (top 24)) b_f_greatest_of s_f_greatest_of [] [] (He.ga K (PySem.Str.ofString "greatest_of")) fd
theorem bn_f_greatest_of {fd : FuncData} (F : FD_f_greatest_of K fd) : Binds K fd [(PySem.Str.ofString "ratios")] [] := F.bindsN fun _ _ _ _ _ _ us hl => match us, hl with | [_], _ => rfl
theorem n_f_greatest_of_0 : Nm N_f_greatest_of s_f_greatest_of 0 (PySem.Str.ofString "ratios") := nmB_ok (by decide +kernel)
theorem n_f_greatest_of_1 : Nm N_f_greatest_of s_f_greatest_of 1 (PySem.Str.ofString "one") := nmB_ok (by decide +kernel)
theorem n_f_greatest_of_2 : Nm N_f_greatest_of s_f_greatest_of 2 (PySem.Str.ofString "best") := nmB_ok (by decide +kernel)
noncomputable def m_f_greatest_of : MS := (sSeq (sIf ((tOr2 (tNt (tT (mP (mFn (fIsi t0) (qCons (mPl 0) (qCons (mP (mTup (aCons (mC (.ty "list")) (aCons (mC (.ty "tuple")) aNil)))) qNil)))))) (tOr2 (tB1 (op2X (ownB 1 [1] r_c_Ratio_eq) fEq (mP (mFn (fLen) (qCons (mPl 0) qNil))) (mP (mC (.int 0))))) (tNt (tT (mP (mFn (fAllL) (qCons (mP ((mLc (iSeq (mV 0)) (gNm 1) tTrue (mCallD none 1 [] r_f_is_ratio (qCons (mPl 1) qNil)) [1]))) qNil)))))))) (sRaise 2 1 (aCons (mC (.str (PySem.Str.ofString "ratios"))) aNil)) sNil) (sSeq (sSet 2 (mCallD none 1 [] r_c_Ratio_of (qCons (mP (op2 fIx (mPl 0) (mP (mC (.int 0))))) qNil))) (sSeq (sFor (iSeq (mV 0)) (gNm 1) (sIf (tT (mP (mMethD 1 none 2 [] r_c_Ratio_is_below (mPl 2) (qCons (mPl 1) qNil)))) (sSet 2 (mCallD none 1 [] r_c_Ratio_of (qCons (mPl 1) qNil))) sNil)) (sRet (mV 2)))))
noncomputable def r_f_greatest_of : List D → OF := runDef none false N_f_greatest_of.length m_f_greatest_of
theorem ok_f_greatest_of (z : Z P w K mg base) : ∃ fd, FD_f_greatest_of K fd ∧ FK P w K mg base 8 (He.ga K (PySem.Str.ofString "greatest_of")) fd [(PySem.Str.ofString "ratios")] none false r_f_greatest_of := by
  obtain ⟨fd, F⟩ : ∃ fd, FD_f_greatest_of K fd := z.s.def_ 26 rfl
  obtain ⟨fd_c_Ratio_eq, F_c_Ratio_eq, G_c_Ratio_eq⟩ := ok_c_Ratio_eq z
  obtain ⟨fd_f_is_ratio, F_f_is_ratio, G_f_is_ratio⟩ := ok_f_is_ratio z
  obtain ⟨fd_c_BadRatio_init, F_c_BadRatio_init, G_c_BadRatio_init⟩ := ok_c_BadRatio_init z
  obtain ⟨fd_c_Ratio_of, F_c_Ratio_of, G_c_Ratio_of⟩ := ok_c_Ratio_of z
  obtain ⟨fd_c_Ratio_is_below, F_c_Ratio_is_below, G_c_Ratio_is_below⟩ := ok_c_Ratio_is_below z
  refine ⟨fd, F, ?_⟩
  have nd := sc_f_greatest_of.nd
  refine fnF F sc_f_greatest_of fun cdv A outer s H E hr => ?_
  exact (trB_cons (trS_if (trT_w (trW_or (trT_not (trT_p rfl (trP_e (trE_fnB (callR_or call_isi call_isiT) (ok_isi0 (tabok z) rfl rfl) (gl_of (by kernel_rfl)) (g_isinstance z) (by kernel_rfl) (trQ_cons (nP n_f_greatest_of_0) (trQ_cons (trP_e (trE_tup (trA_cons (trE_bty (gl_of (by kernel_rfl)) (g_list z) (by kernel_rfl) (by decide) (by kernel_rfl)) (trA_cons (trE_bty (gl_of (by kernel_rfl)) (g_tuple z) (by kernel_rfl) (by decide) (by kernel_rfl)) trA_nil)))) trQ_nil)) (by decide) (by kernel_rfl))))) (trW_or (trT_cmpX (fun E hx => op_ownCmp (op := .Eq) (fun _ _ => rfl) (ownB1_ok (ob_c_Ratio_eq z)) ((G_c_Ratio_eq).raw (bn_c_Ratio_eq F_c_Ratio_eq) .nil) (hr.mono (by decide)) hx) (okX_cmp (fun c hc => (by cases List.mem_singleton.mp hc; simp [PySem.W.notFirst]))) (op_eqD hr.units) ok_eq (trP_e (trE_fnB (call_len_seq.or call_len_str) ok_len (gl_of (by kernel_rfl)) (g_len z) (by kernel_rfl) (trQ_cons (nP n_f_greatest_of_0) trQ_nil) (by decide) (by kernel_rfl))) (trP_e (trE_int))) (trW_or1 (trT_not (trT_p rfl (trP_e (trE_fnB (cr_all rfl) ok_allL (gl_of (by kernel_rfl)) (g_all z) (by kernel_rfl) (trQ_cons (trP_e (trE_n (trN_lc rfl nd (trI_seq rfl (nV n_f_greatest_of_0)) (blkOk_by (own := [((PySem.Str.ofString "one"), 1)]) (by kernel_rfl)) (fun _ _ _ _ _ => (trG_name nd (by kernel_rfl) (locB_ok (by kernel_rfl)) (hf_of (by kernel_rfl)))) (fun _ _ _ _ _ => trTs_nil) (fun _ _ _ _ _ => (trE_callD G_f_is_ratio (hr.mono (by decide)) (gl_of (by kernel_rfl)) (g_is_ratio z) F_f_is_ratio.kp (bn_f_is_ratio F_f_is_ratio) .nil (fun _ => .nil) (trQ_cons (nP (nmB_ok (by kernel_rfl))) trQ_nil) (by rfl) (by rfl) (by kernel_rfl)))))) trQ_nil) (by decide) (by kernel_rfl))))))))) (trB_one (trS_raise (c := 2) rfl (oexB_ok (ox_BadRatio z)) (xi_BadRatio z) (xt_BadRatio z) G_c_BadRatio_init (hr.mono (by decide)) (bn_c_BadRatio_init F_c_BadRatio_init) (gl_of (by kernel_rfl)) (g_BadRatio z) (trA_cons (trE_str) trA_nil) rfl (by decide) (by rfl) (by decide) (by kernel_rfl))) trB_nil)
  (trB_cons (trS_set nd (trE_smeth (c := 1) (pl := _) (readB_ok (rd_Ratio z)) (smetB_ok (sm_c_Ratio_of z)) (fnP G_c_Ratio_of (bn_c_Ratio_of F_c_Ratio_of) .nil) (hr.mono (by decide)) (fun _ => .nil) (trE_glob (v := .ref (He.ga K (PySem.Str.ofString "Ratio"))) (gl_of (by kernel_rfl)) (g_Ratio z) rfl (fun _ => is_cls.mpr rfl) (by kernel_rfl)) (trQ_cons (trP_e (trE_ix ix_seq ok_ix (nP n_f_greatest_of_0) (trP_e (trE_int)))) trQ_nil)) (by kernel_rfl) (locB_ok (by kernel_rfl)) (by rfl) (hf_of (by kernel_rfl)))
  (trB_cons (trS_for rfl (trI_seq rfl (nV n_f_greatest_of_0)) (trG_name nd (by kernel_rfl) (locB_ok (by kernel_rfl)) (hf_of (by kernel_rfl))) (trB_one (trS_if (trT_p rfl (trP_e (trE_meth (c := 1) (pl := _) (clsB_ok (cl_Ratio z)) (me_c_Ratio_is_below z) (by kernel_rfl) G_c_Ratio_is_below (hr.mono (by decide)) (bn_c_Ratio_is_below F_c_Ratio_is_below) .nil (fun _ => .nil) (nP n_f_greatest_of_2) (trQ_cons (nP n_f_greatest_of_1) trQ_nil)))) (trB_one (trS_set nd (trE_smeth (c := 1) (pl := _) (readB_ok (rd_Ratio z)) (smetB_ok (sm_c_Ratio_of z)) (fnP G_c_Ratio_of (bn_c_Ratio_of F_c_Ratio_of) .nil) (hr.mono (by decide)) (fun _ => .nil) (trE_glob (v := .ref (He.ga K (PySem.Str.ofString "Ratio"))) (gl_of (by kernel_rfl)) (g_Ratio z) rfl (fun _ => is_cls.mpr rfl) (by kernel_rfl)) (trQ_cons (nP n_f_greatest_of_1) trQ_nil)) (by kernel_rfl) (locB_ok (by kernel_rfl)) (by rfl) (hf_of (by kernel_rfl)))) trB_nil)))
  (trB_one (trS_ret (nV n_f_greatest_of_2))))))
/-! least_of -/
def N_f_least_of : List Str := [(PySem.Str.ofString "ratios"), (PySem.Str.ofString "one")]
def s_f_least_of : Scope := defScope (top 25)
def b_f_least_of : List Stmt := defBody (top 25)
theorem sc_f_least_of : FnScope N_f_least_of [(PySem.Str.ofString "ratios")] s_f_least_of := ⟨rfl, rfl, rfl, by decide +kernel, rfl, by decide +kernel, by decide +kernel⟩
abbrev FD_f_least_of (K : PySem.W.Frag) (fd : FuncData) : Prop := FunD K (PySem.Str.ofString "least_of") (PySem.Str.ofString "least_of") (defArgs (top 25)) b_f_least_of s_f_least_of [] [] (He.ga K (PySem.Str.ofString "least_of")) fd
theorem bn_f_least_of {fd : FuncData} (F : FD_f_least_of K fd) : Binds K fd [(PySem.Str.ofString "ratios")] [] := F.bindsN fun _ _ _ _ _ _ us hl => match us, hl with | [_], _ => rfl
theorem n_f_least_of_0 : Nm N_f_least_of s_f_least_of 0 (PySem.Str.ofString "ratios") := nmB_ok (by decide +kernel)
noncomputable def m_f_least_of : MS := (sSeq (sIf ((tOr2 (tNt (tT (mP (mFn (fIsi t0) (qCons (mPl 0) (qCons (mP (mTup (aCons (mC (.ty "list")) (aCons (mC (.ty "tuple")) aNil)))) qNil)))))) (tOr2 (tB1 (op2X (ownB 1 [1] r_c_Ratio_eq) fEq (mP (mFn (fLen) (qCons (mPl 0) qNil))) (mP (mC (.int 0))))) (tNt (tT (mP (mFn (fAllL) (qCons (mP ((mLc (iSeq (mV 0)) (gNm 1) tTrue (mCallD none 1 [] r_f_is_ratio (qCons (mPl 1) qNil)) [1]))) qNil)))))))) (sRaise 2 1 (aCons (mC (.str (PySem.Str.ofString "ratios"))) aNil)) sNil) (sRet (op1X (ownU 1 r_c_Ratio_neg) fNegI (mP (mCallD none 1 [] r_f_greatest_of (qCons (mP ((mLc (iSeq (mV 0)) (gNm 1) tTrue (op1X (ownU 1 r_c_Ratio_neg) fNegI (mP (mCallD none 1 [] r_c_Ratio_of (qCons (mPl 1) qNil)))) [1]))) qNil))))))
noncomputable def r_f_least_of : List D → OF := runDef none false N_f_least_of.length m_f_least_of
theorem ok_f_least_of (z : Z P w K mg base) : ∃ fd, FD_f_least_of K fd ∧ FK P w K mg base 9 (He.ga K (PySem.Str.ofString "least_of")) fd [(PySem.Str.ofString "ratios")] none false r_f_least_of := by
  obtain ⟨fd, F⟩ : ∃ fd, FD_f_least_of K fd := z.s.def_ 27 rfl
  obtain ⟨fd_c_Ratio_eq, F_c_Ratio_eq, G_c_Ratio_eq⟩ := ok_c_Ratio_eq z
  obtain ⟨fd_f_is_ratio, F_f_is_ratio, G_f_is_ratio⟩ := ok_f_is_ratio z
  obtain ⟨fd_c_BadRatio_init, F_c_BadRatio_init, G_c_BadRatio_init⟩ := ok_c_BadRatio_init z
  obtain ⟨fd_f_greatest_of, F_f_greatest_of, G_f_greatest_of⟩ := ok_f_greatest_of z
  obtain ⟨fd_c_Ratio_of, F_c_Ratio_of, G_c_Ratio_of⟩ := ok_c_Ratio_of z
  obtain ⟨fd_c_Ratio_neg, F_c_Ratio_neg, G_c_Ratio_neg⟩ := ok_c_Ratio_neg z
  refine ⟨fd, F, ?_⟩
  have nd := sc_f_least_of.nd
  refine fnF F sc_f_least_of fun cdv A outer s H E hr => ?_
  exact (trB_cons (trS_if (trT_w (trW_or (trT_not (trT_p rfl (trP_e (trE_fnB (callR_or call_isi call_isiT) (ok_isi0 (tabok z) rfl rfl) (gl_of (by kernel_rfl)) (g_isinstance z) (by kernel_rfl) (trQ_cons (nP n_f_least_of_0) (trQ_cons (trP_e (trE_tup (trA_cons (trE_bty (gl_of (by kernel_rfl)) (g_list z) (by kernel_rfl) (by decide) (by kernel_rfl)) (trA_cons (trE_bty (gl_of (by kernel_rfl)) (g_tuple z) (by kernel_rfl) (by decide) (by kernel_rfl)) trA_nil)))) trQ_nil)) (by decide) (by kernel_rfl))))) (trW_or (trT_cmpX (fun E hx => op_ownCmp (op := .Eq) (fun _ _ => rfl) (ownB1_ok (ob_c_Ratio_eq z)) ((G_c_Ratio_eq).raw (bn_c_Ratio_eq F_c_Ratio_eq) .nil) (hr.mono (by decide)) hx) (okX_cmp (fun c hc => (by cases List.mem_singleton.mp hc; simp [PySem.W.notFirst]))) (op_eqD hr.units) ok_eq (trP_e (trE_fnB (call_len_seq.or call_len_str) ok_len (gl_of (by kernel_rfl)) (g_len z) (by kernel_rfl) (trQ_cons (nP n_f_least_of_0) trQ_nil) (by decide) (by kernel_rfl))) (trP_e (trE_int))) (trW_or1 (trT_not (trT_p rfl (trP_e (trE_fnB (cr_all rfl) ok_allL (gl_of (by kernel_rfl)) (g_all z) (by kernel_rfl) (trQ_cons (trP_e (trE_n (trN_lc rfl nd (trI_seq rfl (nV n_f_least_of_0)) (blkOk_by (own := [((PySem.Str.ofString "one"), 1)]) (by kernel_rfl)) (fun _ _ _ _ _ => (trG_name nd (by kernel_rfl) (locB_ok (by kernel_rfl)) (hf_of (by kernel_rfl)))) (fun _ _ _ _ _ => trTs_nil) (fun _ _ _ _ _ => (trE_callD G_f_is_ratio (hr.mono (by decide)) (gl_of (by kernel_rfl)) (g_is_ratio z) F_f_is_ratio.kp (bn_f_is_ratio F_f_is_ratio) .nil (fun _ => .nil) (trQ_cons (nP (nmB_ok (by kernel_rfl))) trQ_nil) (by rfl) (by rfl) (by kernel_rfl)))))) trQ_nil) (by decide) (by kernel_rfl))))))))) (trB_one (trS_raise (c := 2) rfl (oexB_ok (ox_BadRatio z)) (xi_BadRatio z) (xt_BadRatio z) G_c_BadRatio_init (hr.mono (by decide)) (bn_c_BadRatio_init F_c_BadRatio_init) (gl_of (by kernel_rfl)) (g_BadRatio z) (trA_cons (trE_str) trA_nil) rfl (by decide) (by rfl) (by decide) (by kernel_rfl))) trB_nil)
  (trB_one (trS_ret (trE_unX (fun E hx => op_ownNeg (ownB1_ok (ob_c_Ratio_neg z)) ((G_c_Ratio_neg).raw (bn_c_Ratio_neg F_c_Ratio_neg) .nil) (hr.mono (by decide)) hx) okX_un un_neg ok_negI (trP_e (trE_callD G_f_greatest_of (hr.mono (by decide)) (gl_of (by kernel_rfl)) (g_greatest_of z) F_f_greatest_of.kp (bn_f_greatest_of F_f_greatest_of) .nil (fun _ => .nil) (trQ_cons (trP_e (trE_n (trN_lc rfl nd (trI_seq rfl (nV n_f_least_of_0)) (blkOk_by (own := [((PySem.Str.ofString "one"), 1)]) (by kernel_rfl)) (fun _ _ _ _ _ => (trG_name nd (by kernel_rfl) (locB_ok (by kernel_rfl)) (hf_of (by kernel_rfl)))) (fun _ _ _ _ _ => trTs_nil) (fun _ _ _ _ _ => (trE_unX (fun E hx => op_ownNeg (ownB1_ok (ob_c_Ratio_neg z)) ((G_c_Ratio_neg).raw (bn_c_Ratio_neg F_c_Ratio_neg) .nil) (hr.mono (by decide)) hx) okX_un un_neg ok_negI (trP_e (trE_smeth (c := 1) (pl := _) (readB_ok (rd_Ratio z)) (smetB_ok (sm_c_Ratio_of z)) (fnP G_c_Ratio_of (bn_c_Ratio_of F_c_Ratio_of) .nil) (hr.mono (by decide)) (fun _ => .nil) (trE_glob (v := .ref (He.ga K (PySem.Str.ofString "Ratio"))) (gl_of (by kernel_rfl)) (g_Ratio z) rfl (fun _ => is_cls.mpr rfl) (by kernel_rfl)) (trQ_cons (nP (nmB_ok (by kernel_rfl))) trQ_nil)))))))) trQ_nil) (by rfl) (by rfl) (by kernel_rfl)))))))
/-! _law_errors_right -/
def N_f_law_errors_right : List Str := [(PySem.Str.ofString "_law_one"), (PySem.Str.ofString "_law_odd"), (PySem.Str.ofString "_law_found")]
def s_f_law_errors_right : Scope := defScope (top 39)
def b_f_law_errors_right : List Stmt := defBody (top 39)
theorem sc_f_law_errors_right : FnScope N_f_law_errors_right [(PySem.Str.ofString "_law_one"), (PySem.Str.ofString "_law_odd")] s_f_law_errors_right := ⟨rfl, rfl, rfl, by decide +kernel, rfl, by decide +kernel, by decide +kernel⟩
abbrev FD_f_law_errors_right (K : PySem.W.Frag) (fd : FuncData) : Prop := FunD K (PySem.Str.ofString "_law_errors_right") (PySem.Str.ofString "_law_errors_right") (defArgs (top 39)) b_f_law_errors_right s_f_law_errors_right [] [] (He.ga K (PySem.Str.ofString "_law_errors_right")) fd
theorem bn_f_law_errors_right {fd : FuncData} (F : FD_f_law_errors_right K fd) : Binds K fd [(PySem.Str.ofString "_law_one"), (PySem.Str.ofString "_law_odd")] [] := F.bindsN fun _ _ _ _ _ _ us hl => match us, hl with | [_, _], _ => rfl
theorem n_f_law_errors_right_0 : Nm N_f_law_errors_right s_f_law_errors_right 0 (PySem.Str.ofString "_law_one") := nmB_ok (by decide +kernel)
theorem n_f_law_errors_right_1 : Nm N_f_law_errors_right s_f_law_errors_right 1 (PySem.Str.ofString "_law_odd") := nmB_ok (by decide +kernel)
theorem n_f_law_errors_right_2 : Nm N_f_law_errors_right s_f_law_errors_right 2 (PySem.Str.ofString "_law_found") := nmB_ok (by decide +kernel)
noncomputable def m_f_law_errors_right : MS := (sSeq (sIf ((tOr2 (tT (mP (mCallD none 1 [] r_f_is_ratio (qCons (mPl 1) qNil)))) (tOr2 (tNt (tT (mP (mCallD none 1 [] r_f_is_ratio (qCons (mPl 0) qNil))))) (tNt (tT (mP (mCallD none 1 [] r_f_is_ratio (qCons (mP (op1 (fFld fl_top) (mPl 0))) qNil)))))))) (sRet (mC (.bl false))) sNil) (sSeq (sSetN 2 (mLst aNil)) (sSeq (sExpr (mMut "list" fApp 2 (aCons (mLam1 kf_f_law_refused (tryOk 3 rest_f_law_refused) (tryEx 3 2 kf_f_law_refused suite_f_law_refused) ((mMake 1 1 [.int 1] r_c_Ratio_init (aCons (mV 1) aNil))) (PySem.Str.ofString "top")) aNil))) (sSeq (sExpr (mMut "list" fApp 2 (aCons (mLam1 kf_f_law_refused (tryOk 3 rest_f_law_refused) (tryEx 3 2 kf_f_law_refused suite_f_law_refused) ((mMake 1 2 [] r_c_Ratio_init (aCons (mC (.int 1)) (aCons (mV 1) aNil)))) (PySem.Str.ofString "bottom")) aNil))) (sSeq (sExpr (mMut "list" fApp 2 (aCons (mLam1 kf_f_law_refused (tryOk 3 rest_f_law_refused) (tryEx 3 2 kf_f_law_refused suite_f_law_refused) ((mMake 1 2 [] r_c_Ratio_init (aCons (mV 1) (aCons (mV 1) aNil)))) (PySem.Str.ofString "top")) aNil))) (sSeq (sExpr (mMut "list" fApp 2 (aCons (mLam1 kf_f_law_refused (tryOk 3 rest_f_law_refused) (tryEx 3 2 kf_f_law_refused suite_f_law_refused) ((mMake 1 2 [] r_c_Ratio_init (aCons (op1 (fFld fl_top) (mPl 0)) (aCons (mC (.int 0)) aNil)))) (PySem.Str.ofString "bottom")) aNil))) (sSeq (sExpr (mMut "list" fApp 2 (aCons (mLam1 kf_f_law_refused (tryOk 3 rest_f_law_refused) (tryEx 3 2 kf_f_law_refused suite_f_law_refused) (op2X (ownB 1 [1] r_c_Ratio_add) fAdd (mPl 0) (mPl 1)) (PySem.Str.ofString "other")) aNil))) (sSeq (sExpr (mMut "list" fApp 2 (aCons (mLam1 kf_f_law_refused (tryOk 3 rest_f_law_refused) (tryEx 3 2 kf_f_law_refused suite_f_law_refused) (op2X (ownB 1 [1] r_c_Ratio_sub) fSubI (mPl 0) (mPl 1)) (PySem.Str.ofString "other")) aNil))) (sSeq (sExpr (mMut "list" fApp 2 (aCons (mLam1 kf_f_law_refused (tryOk 3 rest_f_law_refused) (tryEx 3 2 kf_f_law_refused suite_f_law_refused) (op2X (ownB 1 [1] r_c_Ratio_mul) fMul (mPl 0) (mPl 1)) (PySem.Str.ofString "other")) aNil))) (sSeq (sExpr (mMut "list" fApp 2 (aCons (mLam1 kf_f_law_refused (tryOk 3 rest_f_law_refused) (tryEx 3 2 kf_f_law_refused suite_f_law_refused) (mMethD 1 none 2 [] r_c_Ratio_over (mPl 0) (qCons (mPl 1) qNil)) (PySem.Str.ofString "other")) aNil))) (sSeq (sExpr (mMut "list" fApp 2 (aCons (mLam1 kf_f_law_refused (tryOk 3 rest_f_law_refused) (tryEx 3 2 kf_f_law_refused suite_f_law_refused) (mMethD 1 none 2 [] r_c_Ratio_compared (mPl 0) (qCons (mPl 1) qNil)) (PySem.Str.ofString "other")) aNil))) (sSeq (sExpr (mMut "list" fApp 2 (aCons (mLam1 kf_f_law_refused (tryOk 3 rest_f_law_refused) (tryEx 3 2 kf_f_law_refused suite_f_law_refused) (mMethD 1 none 2 [] r_c_Ratio_is_below (mPl 0) (qCons (mPl 1) qNil)) (PySem.Str.ofString "other")) aNil))) (sSeq (sExpr (mMut "list" fApp 2 (aCons (mLam1 kf_f_law_refused (tryOk 3 rest_f_law_refused) (tryEx 3 2 kf_f_law_refused suite_f_law_refused) (mMethD 1 none 2 [] r_c_Ratio_over (mPl 0) (qCons (mP (mC (.int 0))) qNil)) (PySem.Str.ofString "zero")) aNil))) (sSeq (sExpr (mMut "list" fApp 2 (aCons (mLam1 kf_f_law_refused (tryOk 3 rest_f_law_refused) (tryEx 3 2 kf_f_law_refused suite_f_law_refused) (mCallD none 1 [] r_c_Ratio_of (qCons (mPl 1) qNil)) (PySem.Str.ofString "value")) aNil))) (sSeq (sExpr (mMut "list" fApp 2 (aCons (mLam1 kf_f_law_refused (tryOk 3 rest_f_law_refused) (tryEx 3 2 kf_f_law_refused suite_f_law_refused) (mCallD none 1 [] r_f_added (qCons (mP ((mLst (aCons (mV 0) (aCons (mV 1) aNil))))) qNil)) (PySem.Str.ofString "ratios")) aNil))) (sSeq (sExpr (mMut "list" fApp 2 (aCons (mLam1 kf_f_law_refused (tryOk 3 rest_f_law_refused) (tryEx 3 2 kf_f_law_refused suite_f_law_refused) (mCallD none 1 [] r_f_least_of (qCons (mP ((mLst (aCons (mV 1) aNil)))) qNil)) (PySem.Str.ofString "ratios")) aNil))) (sSeq (sExpr (mMut "list" fApp 2 (aCons (mLam1 kf_f_law_refused (tryOk 3 rest_f_law_refused) (tryEx 3 2 kf_f_law_refused suite_f_law_refused) (mCallD none 1 [] r_f_greatest_of (qCons (mP ((mLst aNil))) qNil)) (PySem.Str.ofString "ratios")) aNil))) (sSeq (sExpr (mMut "list" fApp 2 (aCons (mLam1 kf_f_law_refused (tryOk 3 rest_f_law_refused) (tryEx 3 2 kf_f_law_refused suite_f_law_refused) (mCallD none 1 [] r_f_least_of (qCons (mP (mTup aNil)) qNil)) (PySem.Str.ofString "ratios")) aNil))) (sSeq (sExpr (mMut "list" fApp 2 (aCons (mLam1 kf_f_law_refused (tryOk 3 rest_f_law_refused) (tryEx 3 2 kf_f_law_refused suite_f_law_refused) (mCallD none 1 [] r_f_added (qCons (mPl 0) qNil)) (PySem.Str.ofString "ratios")) aNil))) (sSeq (sExpr (mMut "list" fApp 2 (aCons (mLam1 kf_f_law_refused (tryOk 3 rest_f_law_refused) (tryEx 3 2 kf_f_law_refused suite_f_law_refused) ((mMake 1 1 [.int 1] r_c_Ratio_init (aCons (mV 0) aNil))) (PySem.Str.ofString "top")) aNil))) (sRet ((mAnd (op2X (ownB 1 [1] r_c_Ratio_eq) fEq (mPl 2) (mP (op2X (ownB 1 [1] r_c_Ratio_mul) fMul (mP ((mLst (aCons (mC (.bl true)) aNil)))) (mP (mC (.int 18)))))) (mAnd (op2X (ownB 1 [1] r_c_Ratio_eq) fEq (mP (mCallD none 1 [] r_f_added (qCons (mP ((mLst aNil))) qNil))) (mP (mC (.int 0)))) (mAnd (mFn (fIsi t0) (qCons (mP (mCallD none 1 [] r_f_added (qCons (mP (mTup aNil)) qNil))) (qCons (mP (mC (.cls 1))) qNil))) (op2X (ownB 1 [1] r_c_Ratio_eq) fEq (mP (mCallD none 1 [] r_c_Ratio_of (qCons (mPl 0) qNil))) (mPl 0)))))))))))))))))))))))))))
noncomputable def r_f_law_errors_right : List D → OF := runDef none false N_f_law_errors_right.length m_f_law_errors_right
theorem ok_f_law_errors_right (z : Z P w K mg base) : ∃ fd, FD_f_law_errors_right K fd ∧ FK P w K mg base 12 (He.ga K (PySem.Str.ofString "_law_errors_right")) fd [(PySem.Str.ofString "_law_one"), (PySem.Str.ofString "_law_odd")] none false r_f_law_errors_right := by
  obtain ⟨fd, F⟩ : ∃ fd, FD_f_law_errors_right K fd := z.s.def_ 28 rfl
  obtain ⟨fd_f_is_ratio, F_f_is_ratio, G_f_is_ratio⟩ := ok_f_is_ratio z
  obtain ⟨fd_f_law_refused, F_f_law_refused⟩ := ok_f_law_refused z
  obtain ⟨oc_, od_, dV_, kV_, doc_, pm_, an_, cdv_, ct_, osl_, rfl, lk_f_law_refused, hcg_f_law_refused, hD_, hK_⟩ := id F_f_law_refused.ex
  obtain ⟨fd_c_Ratio_init, F_c_Ratio_init, G_c_Ratio_init⟩ := ok_c_Ratio_init z
  obtain ⟨fd_c_Ratio_add, F_c_Ratio_add, G_c_Ratio_add⟩ := ok_c_Ratio_add z
  obtain ⟨fd_c_Ratio_sub, F_c_Ratio_sub, G_c_Ratio_sub⟩ := ok_c_Ratio_sub z
  obtain ⟨fd_c_Ratio_mul, F_c_Ratio_mul, G_c_Ratio_mul⟩ := ok_c_Ratio_mul z
  obtain ⟨fd_c_Ratio_over, F_c_Ratio_over, G_c_Ratio_over⟩ := ok_c_Ratio_over z
  obtain ⟨fd_c_Ratio_compared, F_c_Ratio_compared, G_c_Ratio_compared⟩ := ok_c_Ratio_compared z
  obtain ⟨fd_c_Ratio_is_below, F_c_Ratio_is_below, G_c_Ratio_is_below⟩ := ok_c_Ratio_is_below z
  obtain ⟨fd_c_Ratio_of, F_c_Ratio_of, G_c_Ratio_of⟩ := ok_c_Ratio_of z
  obtain ⟨fd_f_added, F_f_added, G_f_added⟩ := ok_f_added z
  obtain ⟨fd_f_least_of, F_f_least_of, G_f_least_of⟩ := ok_f_least_of z
  obtain ⟨fd_f_greatest_of, F_f_greatest_of, G_f_greatest_of⟩ := ok_f_greatest_of z
  obtain ⟨fd_c_Ratio_eq, F_c_Ratio_eq, G_c_Ratio_eq⟩ := ok_c_Ratio_eq z
  refine ⟨fd, F, ?_⟩
  have nd := sc_f_law_errors_right.nd
  refine fnFc (p := ((PySem.Str.ofString "_law_errors_right"), none)) rfl F sc_f_law_errors_right fun A outer s H E hr => ?_
  exact (trB_cons (trS_if (trT_w (trW_or (trT_p rfl (trP_e (trE_callD G_f_is_ratio (hr.mono (by decide)) (gl_of (by kernel_rfl)) (g_is_ratio z) F_f_is_ratio.kp (bn_f_is_ratio F_f_is_ratio) .nil (fun _ => .nil) (trQ_cons (nP n_f_law_errors_right_1) trQ_nil) (by rfl) (by rfl) (by kernel_rfl)))) (trW_or (trT_not (trT_p rfl (trP_e (trE_callD G_f_is_ratio (hr.mono (by decide)) (gl_of (by kernel_rfl)) (g_is_ratio z) F_f_is_ratio.kp (bn_f_is_ratio F_f_is_ratio) .nil (fun _ => .nil) (trQ_cons (nP n_f_law_errors_right_0) trQ_nil) (by rfl) (by rfl) (by kernel_rfl))))) (trW_or1 (trT_not (trT_p rfl (trP_e (trE_callD G_f_is_ratio (hr.mono (by decide)) (gl_of (by kernel_rfl)) (g_is_ratio z) F_f_is_ratio.kp (bn_f_is_ratio F_f_is_ratio) .nil (fun _ => .nil) (trQ_cons (trP_e (trE_fld rfl (fo_top z) (nP n_f_law_errors_right_0))) trQ_nil) (by rfl) (by rfl) (by kernel_rfl))))))))) (trB_one (trS_ret (trE_bl))) trB_nil)
  (trB_cons (trS_setN nd (trN_lst trA_nil) (by kernel_rfl) (locB_ok (by kernel_rfl)) (by rfl) (hf_of (by kernel_rfl)))
  (trB_cons (trS_expr (trE_mut rfl PySem.F.plainAttrs_list PySem.F.slot_list_append PySem.F.type_list_append mt_append ok_app (trA_cons (trE_lam1 (k := 9) (gl_of (by kernel_rfl)) (g__law_refused z) F_f_law_refused.kp lk_f_law_refused hcg_f_law_refused (bn_f_law_refused F_f_law_refused) sc_f_law_refused (by kernel_rfl) (visB_ok (by kernel_rfl)) (gv_f_law_refused z) ind_f_law_refused (tb_f_law_errors_right z) (by rfl) (tm_f_law_errors_right K) (tabs_u K) (hr.mono (by decide)) (LamX.lamS_by (by kernel_rfl)) (by rfl) (fun _ _ _ _ _ => rfl) (fun A2 outer2 s2 H2 E2 f2 c2 hr => (trE_n (trN_make (c := 1) (He.mkr_ok (mk_Ratio z)) G_c_Ratio_init (hr.mono (by decide)) (gl_of (by kernel_rfl)) (g_Ratio z) (bd1_c_Ratio_init F_c_Ratio_init).choose_spec.2 (bd1_c_Ratio_init F_c_Ratio_init).choose_spec.1 (fun _ => .cons (is_int.mpr rfl) .nil) (trA_cons (nV (nmB_ok (by kernel_rfl))) trA_nil) (by rfl) (by kernel_rfl)))) (by kernel_rfl) (by kernel_rfl) (by kernel_rfl)) trA_nil) (n_f_law_errors_right_2).n (n_f_law_errors_right_2).v (n_f_law_errors_right_2).d (n_f_law_errors_right_2).c))
  (trB_cons (trS_expr (trE_mut rfl PySem.F.plainAttrs_list PySem.F.slot_list_append PySem.F.type_list_append mt_append ok_app (trA_cons (trE_lam1 (k := 9) (gl_of (by kernel_rfl)) (g__law_refused z) F_f_law_refused.kp lk_f_law_refused hcg_f_law_refused (bn_f_law_refused F_f_law_refused) sc_f_law_refused (by kernel_rfl) (visB_ok (by kernel_rfl)) (gv_f_law_refused z) ind_f_law_refused (tb_f_law_errors_right z) (by rfl) (tm_f_law_errors_right K) (tabs_u K) (hr.mono (by decide)) (LamX.lamS_by (by kernel_rfl)) (by rfl) (fun _ _ _ _ _ => rfl) (fun A2 outer2 s2 H2 E2 f2 c2 hr => (trE_n (trN_make (c := 1) (He.mkr_ok (mk_Ratio z)) G_c_Ratio_init (hr.mono (by decide)) (gl_of (by kernel_rfl)) (g_Ratio z) (bd0_c_Ratio_init F_c_Ratio_init).choose_spec.2 (bd0_c_Ratio_init F_c_Ratio_init).choose_spec.1 (fun _ => .nil) (trA_cons (trE_int) (trA_cons (nV (nmB_ok (by kernel_rfl))) trA_nil)) (by rfl) (by kernel_rfl)))) (by kernel_rfl) (by kernel_rfl) (by kernel_rfl)) trA_nil) (n_f_law_errors_right_2).n (n_f_law_errors_right_2).v (n_f_law_errors_right_2).d (n_f_law_errors_right_2).c))
  (trB_cons (trS_expr (trE_mut rfl PySem.F.plainAttrs_list PySem.F.slot_list_append PySem.F.type_list_append mt_append ok_app (trA_cons (trE_lam1 (k := 9) (gl_of (by kernel_rfl)) (g__law_refused z) F_f_law_refused.kp lk_f_law_refused hcg_f_law_refused (bn_f_law_refused F_f_law_refused) sc_f_law_refused (by kernel_rfl) (visB_ok (by kernel_rfl)) (gv_f_law_refused z) ind_f_law_refused (tb_f_law_errors_right z) (by rfl) (tm_f_law_errors_right K) (tabs_u K) (hr.mono (by decide)) (LamX.lamS_by (by kernel_rfl)) (by rfl) (fun _ _ _ _ _ => rfl) (fun A2 outer2 s2 H2 E2 f2 c2 hr => (trE_n (trN_make (c := 1) (He.mkr_ok (mk_Ratio z)) G_c_Ratio_init (hr.mono (by decide)) (gl_of (by kernel_rfl)) (g_Ratio z) (bd0_c_Ratio_init F_c_Ratio_init).choose_spec.2 (bd0_c_Ratio_init F_c_Ratio_init).choose_spec.1 (fun _ => .nil) (trA_cons (nV (nmB_ok (by kernel_rfl))) (trA_cons (nV (nmB_ok (by kernel_rfl))) trA_nil)) (by rfl) (by kernel_rfl)))) (by kernel_rfl) (by kernel_rfl) (by kernel_rfl)) trA_nil) (n_f_law_errors_right_2).n (n_f_law_errors_right_2).v (n_f_law_errors_right_2).d (n_f_law_errors_right_2).c))
  (trB_cons (trS_expr (trE_mut rfl PySem.F.plainAttrs_list PySem.F.slot_list_append PySem.F.type_list_append mt_append ok_app (trA_cons (trE_lam1 (k := 9) (gl_of (by kernel_rfl)) (g__law_refused z) F_f_law_refused.kp lk_f_law_refused hcg_f_law_refused (bn_f_law_refused F_f_law_refused) sc_f_law_refused (by kernel_rfl) (visB_ok (by kernel_rfl)) (gv_f_law_refused z) ind_f_law_refused (tb_f_law_errors_right z) (by rfl) (tm_f_law_errors_right K) (tabs_u K) (hr.mono (by decide)) (LamX.lamS_by (by kernel_rfl)) (by rfl) (fun _ _ _ _ _ => rfl) (fun A2 outer2 s2 H2 E2 f2 c2 hr => (trE_n (trN_make (c := 1) (He.mkr_ok (mk_Ratio z)) G_c_Ratio_init (hr.mono (by decide)) (gl_of (by kernel_rfl)) (g_Ratio z) (bd0_c_Ratio_init F_c_Ratio_init).choose_spec.2 (bd0_c_Ratio_init F_c_Ratio_init).choose_spec.1 (fun _ => .nil) (trA_cons (trE_fld rfl (fo_top z) (nP (nmB_ok (by kernel_rfl)))) (trA_cons (trE_int) trA_nil)) (by rfl) (by kernel_rfl)))) (by kernel_rfl) (by kernel_rfl) (by kernel_rfl)) trA_nil) (n_f_law_errors_right_2).n (n_f_law_errors_right_2).v (n_f_law_errors_right_2).d (n_f_law_errors_right_2).c))
  (trB_cons (trS_expr (trE_mut rfl PySem.F.plainAttrs_list PySem.F.slot_list_append PySem.F.type_list_append mt_append ok_app (trA_cons (trE_lam1 (k := 9) (gl_of (by kernel_rfl)) (g__law_refused z) F_f_law_refused.kp lk_f_law_refused hcg_f_law_refused (bn_f_law_refused F_f_law_refused) sc_f_law_refused (by kernel_rfl) (visB_ok (by kernel_rfl)) (gv_f_law_refused z) ind_f_law_refused (tb_f_law_errors_right z) (by rfl) (tm_f_law_errors_right K) (tabs_u K) (hr.mono (by decide)) (LamX.lamS_by (by kernel_rfl)) (by rfl) (fun _ _ _ _ _ => rfl) (fun A2 outer2 s2 H2 E2 f2 c2 hr => (trE_binX (fun E hx => op_ownBin (binB_ok (ob_c_Ratio_add z)) ((G_c_Ratio_add).raw (bn_c_Ratio_add F_c_Ratio_add) .nil) (hr.mono (by decide)) hx) (okX_bin binTy_add) op_addU ok_addU (nP (nmB_ok (by kernel_rfl))) (nP (nmB_ok (by kernel_rfl))))) (by kernel_rfl) (by kernel_rfl) (by kernel_rfl)) trA_nil) (n_f_law_errors_right_2).n (n_f_law_errors_right_2).v (n_f_law_errors_right_2).d (n_f_law_errors_right_2).c))
  (trB_cons (trS_expr (trE_mut rfl PySem.F.plainAttrs_list PySem.F.slot_list_append PySem.F.type_list_append mt_append ok_app (trA_cons (trE_lam1 (k := 9) (gl_of (by kernel_rfl)) (g__law_refused z) F_f_law_refused.kp lk_f_law_refused hcg_f_law_refused (bn_f_law_refused F_f_law_refused) sc_f_law_refused (by kernel_rfl) (visB_ok (by kernel_rfl)) (gv_f_law_refused z) ind_f_law_refused (tb_f_law_errors_right z) (by rfl) (tm_f_law_errors_right K) (tabs_u K) (hr.mono (by decide)) (LamX.lamS_by (by kernel_rfl)) (by rfl) (fun _ _ _ _ _ => rfl) (fun A2 outer2 s2 H2 E2 f2 c2 hr => (trE_binX (fun E hx => op_ownBin (binB_ok (ob_c_Ratio_sub z)) ((G_c_Ratio_sub).raw (bn_c_Ratio_sub F_c_Ratio_sub) .nil) (hr.mono (by decide)) hx) (okX_bin binTy_sub) op_sub ok_subI (nP (nmB_ok (by kernel_rfl))) (nP (nmB_ok (by kernel_rfl))))) (by kernel_rfl) (by kernel_rfl) (by kernel_rfl)) trA_nil) (n_f_law_errors_right_2).n (n_f_law_errors_right_2).v (n_f_law_errors_right_2).d (n_f_law_errors_right_2).c))
  (trB_cons (trS_expr (trE_mut rfl PySem.F.plainAttrs_list PySem.F.slot_list_append PySem.F.type_list_append mt_append ok_app (trA_cons (trE_lam1 (k := 9) (gl_of (by kernel_rfl)) (g__law_refused z) F_f_law_refused.kp lk_f_law_refused hcg_f_law_refused (bn_f_law_refused F_f_law_refused) sc_f_law_refused (by kernel_rfl) (visB_ok (by kernel_rfl)) (gv_f_law_refused z) ind_f_law_refused (tb_f_law_errors_right z) (by rfl) (tm_f_law_errors_right K) (tabs_u K) (hr.mono (by decide)) (LamX.lamS_by (by kernel_rfl)) (by rfl) (fun _ _ _ _ _ => rfl) (fun A2 outer2 s2 H2 E2 f2 c2 hr => (trE_binX (fun E hx => op_ownBin (binB_ok (ob_c_Ratio_mul z)) ((G_c_Ratio_mul).raw (bn_c_Ratio_mul F_c_Ratio_mul) .nil) (hr.mono (by decide)) hx) (okX_bin binTy_mul) op_mulU ok_mulU (nP (nmB_ok (by kernel_rfl))) (nP (nmB_ok (by kernel_rfl))))) (by kernel_rfl) (by kernel_rfl) (by kernel_rfl)) trA_nil) (n_f_law_errors_right_2).n (n_f_law_errors_right_2).v (n_f_law_errors_right_2).d (n_f_law_errors_right_2).c))
  (trB_cons (trS_expr (trE_mut rfl PySem.F.plainAttrs_list PySem.F.slot_list_append PySem.F.type_list_append mt_append ok_app (trA_cons (trE_lam1 (k := 9) (gl_of (by kernel_rfl)) (g__law_refused z) F_f_law_refused.kp lk_f_law_refused hcg_f_law_refused (bn_f_law_refused F_f_law_refused) sc_f_law_refused (by kernel_rfl) (visB_ok (by kernel_rfl)) (gv_f_law_refused z) ind_f_law_refused (tb_f_law_errors_right z) (by rfl) (tm_f_law_errors_right K) (tabs_u K) (hr.mono (by decide)) (LamX.lamS_by (by kernel_rfl)) (by rfl) (fun _ _ _ _ _ => rfl) (fun A2 outer2 s2 H2 E2 f2 c2 hr => (trE_meth (c := 1) (pl := _) (clsB_ok (cl_Ratio z)) (me_c_Ratio_over z) (by kernel_rfl) G_c_Ratio_over (hr.mono (by decide)) (bn_c_Ratio_over F_c_Ratio_over) .nil (fun _ => .nil) (nP (nmB_ok (by kernel_rfl))) (trQ_cons (nP (nmB_ok (by kernel_rfl))) trQ_nil))) (by kernel_rfl) (by kernel_rfl) (by kernel_rfl)) trA_nil) (n_f_law_errors_right_2).n (n_f_law_errors_right_2).v (n_f_law_errors_right_2).d (n_f_law_errors_right_2).c))
  (trB_cons (trS_expr (trE_mut rfl PySem.F.plainAttrs_list PySem.F.slot_list_append PySem.F.type_list_append mt_append ok_app (trA_cons (trE_lam1 (k := 9) (gl_of (by kernel_rfl)) (g__law_refused z) F_f_law_refused.kp lk_f_law_refused hcg_f_law_refused (bn_f_law_refused F_f_law_refused) sc_f_law_refused (by kernel_rfl) (visB_ok (by kernel_rfl)) (gv_f_law_refused z) ind_f_law_refused (tb_f_law_errors_right z) (by rfl) (tm_f_law_errors_right K) (tabs_u K) (hr.mono (by decide)) (LamX.lamS_by (by kernel_rfl)) (by rfl) (fun _ _ _ _ _ => rfl) (fun A2 outer2 s2 H2 E2 f2 c2 hr => (trE_meth (c := 1) (pl := _) (clsB_ok (cl_Ratio z)) (me_c_Ratio_compared z) (by kernel_rfl) G_c_Ratio_compared (hr.mono (by decide)) (bn_c_Ratio_compared F_c_Ratio_compared) .nil (fun _ => .nil) (nP (nmB_ok (by kernel_rfl))) (trQ_cons (nP (nmB_ok (by kernel_rfl))) trQ_nil))) (by kernel_rfl) (by kernel_rfl) (by kernel_rfl)) trA_nil) (n_f_law_errors_right_2).n (n_f_law_errors_right_2).v (n_f_law_errors_right_2).d (n_f_law_errors_right_2).c))
  (trB_cons (trS_expr (trE_mut rfl PySem.F.plainAttrs_list PySem.F.slot_list_append PySem.F.type_list_append mt_append ok_app (trA_cons (trE_lam1 (k := 9) (gl_of (by kernel_rfl)) (g__law_refused z) F_f_law_refused.kp lk_f_law_refused hcg_f_law_refused (bn_f_law_refused F_f_law_refused) sc_f_law_refused (by kernel_rfl) (visB_ok (by kernel_rfl)) (gv_f_law_refused z) ind_f_law_refused (tb_f_law_errors_right z) (by rfl) (tm_f_law_errors_right K) (tabs_u K) (hr.mono (by decide)) (LamX.lamS_by (by kernel_rfl)) (by rfl) (fun _ _ _ _ _ => rfl) (fun A2 outer2 s2 H2 E2 f2 c2 hr => (trE_meth (c := 1) (pl := _) (clsB_ok (cl_Ratio z)) (me_c_Ratio_is_below z) (by kernel_rfl) G_c_Ratio_is_below (hr.mono (by decide)) (bn_c_Ratio_is_below F_c_Ratio_is_below) .nil (fun _ => .nil) (nP (nmB_ok (by kernel_rfl))) (trQ_cons (nP (nmB_ok (by kernel_rfl))) trQ_nil))) (by kernel_rfl) (by kernel_rfl) (by kernel_rfl)) trA_nil) (n_f_law_errors_right_2).n (n_f_law_errors_right_2).v (n_f_law_errors_right_2).d (n_f_law_errors_right_2).c))
  (trB_cons (trS_expr (trE_mut rfl PySem.F.plainAttrs_list PySem.F.slot_list_append PySem.F.type_list_append mt_append ok_app (trA_cons (trE_lam1 (k := 9) (gl_of (by kernel_rfl)) (g__law_refused z) F_f_law_refused.kp lk_f_law_refused hcg_f_law_refused (bn_f_law_refused F_f_law_refused) sc_f_law_refused (by kernel_rfl) (visB_ok (by kernel_rfl)) (gv_f_law_refused z) ind_f_law_refused (tb_f_law_errors_right z) (by rfl) (tm_f_law_errors_right K) (tabs_u K) (hr.mono (by decide)) (LamX.lamS_by (by kernel_rfl)) (by rfl) (fun _ _ _ _ _ => rfl) (fun A2 outer2 s2 H2 E2 f2 c2 hr => (trE_meth (c := 1) (pl := _) (clsB_ok (cl_Ratio z)) (me_c_Ratio_over z) (by kernel_rfl) G_c_Ratio_over (hr.mono (by decide)) (bn_c_Ratio_over F_c_Ratio_over) .nil (fun _ => .nil) (nP (nmB_ok (by kernel_rfl))) (trQ_cons (trP_e (trE_int)) trQ_nil))) (by kernel_rfl) (by kernel_rfl) (by kernel_rfl)) trA_nil) (n_f_law_errors_right_2).n (n_f_law_errors_right_2).v (n_f_law_errors_right_2).d (n_f_law_errors_right_2).c))
  (trB_cons (trS_expr (trE_mut rfl PySem.F.plainAttrs_list PySem.F.slot_list_append PySem.F.type_list_append mt_append ok_app (trA_cons (trE_lam1 (k := 9) (gl_of (by kernel_rfl)) (g__law_refused z) F_f_law_refused.kp lk_f_law_refused hcg_f_law_refused (bn_f_law_refused F_f_law_refused) sc_f_law_refused (by kernel_rfl) (visB_ok (by kernel_rfl)) (gv_f_law_refused z) ind_f_law_refused (tb_f_law_errors_right z) (by rfl) (tm_f_law_errors_right K) (tabs_u K) (hr.mono (by decide)) (LamX.lamS_by (by kernel_rfl)) (by rfl) (fun _ _ _ _ _ => rfl) (fun A2 outer2 s2 H2 E2 f2 c2 hr => (trE_smeth (c := 1) (pl := _) (readB_ok (rd_Ratio z)) (smetB_ok (sm_c_Ratio_of z)) (fnP G_c_Ratio_of (bn_c_Ratio_of F_c_Ratio_of) .nil) (hr.mono (by decide)) (fun _ => .nil) (trE_glob (v := .ref (He.ga K (PySem.Str.ofString "Ratio"))) (gl_of (by kernel_rfl)) (g_Ratio z) rfl (fun _ => is_cls.mpr rfl) (by kernel_rfl)) (trQ_cons (nP (nmB_ok (by kernel_rfl))) trQ_nil))) (by kernel_rfl) (by kernel_rfl) (by kernel_rfl)) trA_nil) (n_f_law_errors_right_2).n (n_f_law_errors_right_2).v (n_f_law_errors_right_2).d (n_f_law_errors_right_2).c))
  (trB_cons (trS_expr (trE_mut rfl PySem.F.plainAttrs_list PySem.F.slot_list_append PySem.F.type_list_append mt_append ok_app (trA_cons (trE_lam1 (k := 9) (gl_of (by kernel_rfl)) (g__law_refused z) F_f_law_refused.kp lk_f_law_refused hcg_f_law_refused (bn_f_law_refused F_f_law_refused) sc_f_law_refused (by kernel_rfl) (visB_ok (by kernel_rfl)) (gv_f_law_refused z) ind_f_law_refused (tb_f_law_errors_right z) (by rfl) (tm_f_law_errors_right K) (tabs_u K) (hr.mono (by decide)) (LamX.lamS_by (by kernel_rfl)) (by rfl) (fun _ _ _ _ _ => rfl) (fun A2 outer2 s2 H2 E2 f2 c2 hr => (trE_callD G_f_added (hr.mono (by decide)) (gl_of (by kernel_rfl)) (g_added z) F_f_added.kp (bn_f_added F_f_added) .nil (fun _ => .nil) (trQ_cons (trP_e (trE_n (trN_lst (trA_cons (nV (nmB_ok (by kernel_rfl))) (trA_cons (nV (nmB_ok (by kernel_rfl))) trA_nil))))) trQ_nil) (by rfl) (by rfl) (by kernel_rfl))) (by kernel_rfl) (by kernel_rfl) (by kernel_rfl)) trA_nil) (n_f_law_errors_right_2).n (n_f_law_errors_right_2).v (n_f_law_errors_right_2).d (n_f_law_errors_right_2).c))
  (trB_cons (trS_expr (trE_mut rfl PySem.F.plainAttrs_list PySem.F.slot_list_append PySem.F.type_list_append mt_append ok_app (trA_cons (trE_lam1 (k := 9) (gl_of (by kernel_rfl)) (g__law_refused z) F_f_law_refused.kp lk_f_law_refused hcg_f_law_refused (bn_f_law_refused F_f_law_refused) sc_f_law_refused (by kernel_rfl) (visB_ok (by kernel_rfl)) (gv_f_law_refused z) ind_f_law_refused (tb_f_law_errors_right z) (by rfl) (tm_f_law_errors_right K) (tabs_u K) (hr.mono (by decide)) (LamX.lamS_by (by kernel_rfl)) (by rfl) (fun _ _ _ _ _ => rfl) (fun A2 outer2 s2 H2 E2 f2 c2 hr => (trE_callD G_f_least_of (hr.mono (by decide)) (gl_of (by kernel_rfl)) (g_least_of z) F_f_least_of.kp (bn_f_least_of F_f_least_of) .nil (fun _ => .nil) (trQ_cons (trP_e (trE_n (trN_lst (trA_cons (nV (nmB_ok (by kernel_rfl))) trA_nil)))) trQ_nil) (by rfl) (by rfl) (by kernel_rfl))) (by kernel_rfl) (by kernel_rfl) (by kernel_rfl)) trA_nil) (n_f_law_errors_right_2).n (n_f_law_errors_right_2).v (n_f_law_errors_right_2).d (n_f_law_errors_right_2).c))
  (trB_cons (trS_expr (trE_mut rfl PySem.F.plainAttrs_list PySem.F.slot_list_append PySem.F.type_list_append mt_append ok_app (trA_cons (trE_lam1 (k := 9) (gl_of (by kernel_rfl)) (g__law_refused z) F_f_law_refused.kp lk_f_law_refused hcg_f_law_refused (bn_f_law_refused F_f_law_refused) sc_f_law_refused (by kernel_rfl) (visB_ok (by kernel_rfl)) (gv_f_law_refused z) ind_f_law_refused (tb_f_law_errors_right z) (by rfl) (tm_f_law_errors_right K) (tabs_u K) (hr.mono (by decide)) (LamX.lamS_by (by kernel_rfl)) (by rfl) (fun _ _ _ _ _ => rfl) (fun A2 outer2 s2 H2 E2 f2 c2 hr => (trE_callD G_f_greatest_of (hr.mono (by decide)) (gl_of (by kernel_rfl)) (g_greatest_of z) F_f_greatest_of.kp (bn_f_greatest_of F_f_greatest_of) .nil (fun _ => .nil) (trQ_cons (trP_e (trE_n (trN_lst trA_nil))) trQ_nil) (by rfl) (by rfl) (by kernel_rfl))) (by kernel_rfl) (by kernel_rfl) (by kernel_rfl)) trA_nil) (n_f_law_errors_right_2).n (n_f_law_errors_right_2).v (n_f_law_errors_right_2).d (n_f_law_errors_right_2).c))
  (trB_cons (trS_expr (trE_mut rfl PySem.F.plainAttrs_list PySem.F.slot_list_append PySem.F.type_list_append mt_append ok_app (trA_cons (trE_lam1 (k := 9) (gl_of (by kernel_rfl)) (g__law_refused z) F_f_law_refused.kp lk_f_law_refused hcg_f_law_refused (bn_f_law_refused F_f_law_refused) sc_f_law_refused (by kernel_rfl) (visB_ok (by kernel_rfl)) (gv_f_law_refused z) ind_f_law_refused (tb_f_law_errors_right z) (by rfl) (tm_f_law_errors_right K) (tabs_u K) (hr.mono (by decide)) (LamX.lamS_by (by kernel_rfl)) (by rfl) (fun _ _ _ _ _ => rfl) (fun A2 outer2 s2 H2 E2 f2 c2 hr => (trE_callD G_f_least_of (hr.mono (by decide)) (gl_of (by kernel_rfl)) (g_least_of z) F_f_least_of.kp (bn_f_least_of F_f_least_of) .nil (fun _ => .nil) (trQ_cons (trP_e (trE_tup trA_nil)) trQ_nil) (by rfl) (by rfl) (by kernel_rfl))) (by kernel_rfl) (by kernel_rfl) (by kernel_rfl)) trA_nil) (n_f_law_errors_right_2).n (n_f_law_errors_right_2).v (n_f_law_errors_right_2).d (n_f_law_errors_right_2).c))
  (trB_cons (trS_expr (trE_mut rfl PySem.F.plainAttrs_list PySem.F.slot_list_append PySem.F.type_list_append mt_append ok_app (trA_cons (trE_lam1 (k := 9) (gl_of (by kernel_rfl)) (g__law_refused z) F_f_law_refused.kp lk_f_law_refused hcg_f_law_refused (bn_f_law_refused F_f_law_refused) sc_f_law_refused (by kernel_rfl) (visB_ok (by kernel_rfl)) (gv_f_law_refused z) ind_f_law_refused (tb_f_law_errors_right z) (by rfl) (tm_f_law_errors_right K) (tabs_u K) (hr.mono (by decide)) (LamX.lamS_by (by kernel_rfl)) (by rfl) (fun _ _ _ _ _ => rfl) (fun A2 outer2 s2 H2 E2 f2 c2 hr => (trE_callD G_f_added (hr.mono (by decide)) (gl_of (by kernel_rfl)) (g_added z) F_f_added.kp (bn_f_added F_f_added) .nil (fun _ => .nil) (trQ_cons (nP (nmB_ok (by kernel_rfl))) trQ_nil) (by rfl) (by rfl) (by kernel_rfl))) (by kernel_rfl) (by kernel_rfl) (by kernel_rfl)) trA_nil) (n_f_law_errors_right_2).n (n_f_law_errors_right_2).v (n_f_law_errors_right_2).d (n_f_law_errors_right_2).c))
  (trB_cons (trS_expr (trE_mut rfl PySem.F.plainAttrs_list PySem.F.slot_list_append PySem.F.type_list_append mt_append ok_app (trA_cons (trE_lam1 (k := 9) (gl_of (by kernel_rfl)) (g__law_refused z) F_f_law_refused.kp lk_f_law_refused hcg_f_law_refused (bn_f_law_refused F_f_law_refused) sc_f_law_refused (by kernel_rfl) (visB_ok (by kernel_rfl)) (gv_f_law_refused z) ind_f_law_refused (tb_f_law_errors_right z) (by rfl) (tm_f_law_errors_right K) (tabs_u K) (hr.mono (by decide)) (LamX.lamS_by (by kernel_rfl)) (by rfl) (fun _ _ _ _ _ => rfl) (fun A2 outer2 s2 H2 E2 f2 c2 hr => (trE_n (trN_make (c := 1) (He.mkr_ok (mk_Ratio z)) G_c_Ratio_init (hr.mono (by decide)) (gl_of (by kernel_rfl)) (g_Ratio z) (bd1_c_Ratio_init F_c_Ratio_init).choose_spec.2 (bd1_c_Ratio_init F_c_Ratio_init).choose_spec.1 (fun _ => .cons (is_int.mpr rfl) .nil) (trA_cons (nV (nmB_ok (by kernel_rfl))) trA_nil) (by rfl) (by kernel_rfl)))) (by kernel_rfl) (by kernel_rfl) (by kernel_rfl)) trA_nil) (n_f_law_errors_right_2).n (n_f_law_errors_right_2).v (n_f_law_errors_right_2).d (n_f_law_errors_right_2).c))
  (trB_one (trS_ret ((trE_and rfl (trE_cmpX (fun E hx => op_ownCmp (op := .Eq) (fun _ _ => rfl) (ownB1_ok (ob_c_Ratio_eq z)) ((G_c_Ratio_eq).raw (bn_c_Ratio_eq F_c_Ratio_eq) .nil) (hr.mono (by decide)) hx) (okX_cmp (fun c hc => (by cases List.mem_singleton.mp hc; simp [PySem.W.notFirst]))) (op_eqD hr.units) ok_eq (nP n_f_law_errors_right_2) (trP_e (trE_binX (fun E hx => op_ownBin (binB_ok (ob_c_Ratio_mul z)) ((G_c_Ratio_mul).raw (bn_c_Ratio_mul F_c_Ratio_mul) .nil) (hr.mono (by decide)) hx) (okX_bin binTy_mul) op_mulU ok_mulU (trP_e (trE_n (trN_lst (trA_cons (trE_bl) trA_nil)))) (trP_e (trE_int))))) (trE_and rfl (trE_cmpX (fun E hx => op_ownCmp (op := .Eq) (fun _ _ => rfl) (ownB1_ok (ob_c_Ratio_eq z)) ((G_c_Ratio_eq).raw (bn_c_Ratio_eq F_c_Ratio_eq) .nil) (hr.mono (by decide)) hx) (okX_cmp (fun c hc => (by cases List.mem_singleton.mp hc; simp [PySem.W.notFirst]))) (op_eqD hr.units) ok_eq (trP_e (trE_callD G_f_added (hr.mono (by decide)) (gl_of (by kernel_rfl)) (g_added z) F_f_added.kp (bn_f_added F_f_added) .nil (fun _ => .nil) (trQ_cons (trP_e (trE_n (trN_lst trA_nil))) trQ_nil) (by rfl) (by rfl) (by kernel_rfl))) (trP_e (trE_int))) (trE_and rfl (trE_fnB (callR_or call_isi call_isiT) (ok_isi0 (tabok z) rfl rfl) (gl_of (by kernel_rfl)) (g_isinstance z) (by kernel_rfl) (trQ_cons (trP_e (trE_callD G_f_added (hr.mono (by decide)) (gl_of (by kernel_rfl)) (g_added z) F_f_added.kp (bn_f_added F_f_added) .nil (fun _ => .nil) (trQ_cons (trP_e (trE_tup trA_nil)) trQ_nil) (by rfl) (by rfl) (by kernel_rfl))) (trQ_cons (trP_e (trE_glob (v := .ref (He.ga K (PySem.Str.ofString "Ratio"))) (gl_of (by kernel_rfl)) (g_Ratio z) rfl (fun _ => is_cls.mpr rfl) (by kernel_rfl))) trQ_nil)) (by decide) (by kernel_rfl)) (trE_one (trE_cmpX (fun E hx => op_ownCmp (op := .Eq) (fun _ _ => rfl) (ownB1_ok (ob_c_Ratio_eq z)) ((G_c_Ratio_eq).raw (bn_c_Ratio_eq F_c_Ratio_eq) .nil) (hr.mono (by decide)) hx) (okX_cmp (fun c hc => (by cases List.mem_singleton.mp hc; simp [PySem.W.notFirst]))) (op_eqD hr.units) ok_eq (trP_e (trE_smeth (c := 1) (pl := _) (readB_ok (rd_Ratio z)) (smetB_ok (sm_c_Ratio_of z)) (fnP G_c_Ratio_of (bn_c_Ratio_of F_c_Ratio_of) .nil) (hr.mono (by decide)) (fun _ => .nil) (trE_glob (v := .ref (He.ga K (PySem.Str.ofString "Ratio"))) (gl_of (by kernel_rfl)) (g_Ratio z) rfl (fun _ => is_cls.mpr rfl) (by kernel_rfl)) (trQ_cons (nP n_f_law_errors_right_0) trQ_nil))) (nP n_f_law_errors_right_0)))))))))))))))))))))))))))))
/-! _law_divisor -/
def N_f_law_divisor : List Str := [(PySem.Str.ofString "_law_one"), (PySem.Str.ofString "_law_other")]
def s_f_law_divisor : Scope := defScope (top 33)
def b_f_law_divisor : List Stmt := defBody (top 33)
theorem sc_f_law_divisor : FnScope N_f_law_divisor [(PySem.Str.ofString "_law_one"), (PySem.Str.ofString "_law_other")] s_f_law_divisor := ⟨rfl, rfl, rfl, by decide +kernel, rfl, by decide +kernel, by decide +kernel⟩
abbrev FD_f_law_divisor (K : PySem.W.Frag) (fd : FuncData) : Prop := FunD K (PySem.Str.ofString "_law_divisor") (PySem.Str.ofString "_law_divisor") (defArgs (top 33)) b_f_law_divisor s_f_law_divisor [] [] (He.ga K (PySem.Str.ofString "_law_divisor")) fd
theorem bn_f_law_divisor {fd : FuncData} (F : FD_f_law_divisor K fd) : Binds K fd [(PySem.Str.ofString "_law_one"), (PySem.Str.ofString "_law_other")] [] := F.bindsN fun _ _ _ _ _ _ us hl => match us, hl with | [_, _], _ => rfl
theorem n_f_law_divisor_0 : Nm N_f_law_divisor s_f_law_divisor 0 (PySem.Str.ofString "_law_one") := nmB_ok (by decide +kernel)
theorem n_f_law_divisor_1 : Nm N_f_law_divisor s_f_law_divisor 1 (PySem.Str.ofString "_law_other") := nmB_ok (by decide +kernel)
noncomputable def m_f_law_divisor : MS := (sSeq (sWhile (tB1 (op2 fNe (mPl 1) (mP (mC (.int 0))))) (sPar [0, 1] (aCons (mV 1) (aCons (op2 fModI (mPl 0) (mPl 1)) aNil)))) (sRet (mFn (fAbs) (qCons (mPl 0) qNil))))
noncomputable def r_f_law_divisor : List D → OF := runDef none false N_f_law_divisor.length m_f_law_divisor
theorem ok_f_law_divisor (z : Z P w K mg base) : ∃ fd, FD_f_law_divisor K fd ∧ FK P w K mg base 1 (He.ga K (PySem.Str.ofString "_law_divisor")) fd [(PySem.Str.ofString "_law_one"), (PySem.Str.ofString "_law_other")] none false r_f_law_divisor := by
  obtain ⟨fd, F⟩ : ∃ fd, FD_f_law_divisor K fd := z.s.def_ 29 rfl
  refine ⟨fd, F, ?_⟩
  have nd := sc_f_law_divisor.nd
  refine fnF F sc_f_law_divisor fun cdv A outer s H E hr => ?_
  exact (trB_cons (trS_while (trT_cmp (op_neD hr.units) ok_ne (by rfl) (nP n_f_law_divisor_1) (trP_e (trE_int))) (trB_one (trS_par2 rfl nd (trA_cons (nV n_f_law_divisor_1) (trA_cons (trE_bin op_modN ok_modI (nP n_f_law_divisor_0) (nP n_f_law_divisor_1)) trA_nil)) (by kernel_rfl) (by kernel_rfl) (by kernel_rfl) (by decide) (by kernel_rfl) (by kernel_rfl))))
  (trB_one (trS_ret (trE_fnB call_abs ok_abs (gl_of (by kernel_rfl)) (g_abs z) (by kernel_rfl) (trQ_cons (nP n_f_law_divisor_0) trQ_nil) (by decide) (by kernel_rfl)))))
/-! _law_due -/
def N_f_law_due : List Str := [(PySem.Str.ofString "_law_top"), (PySem.Str.ofString "_law_bottom"), (PySem.Str.ofString "_law_common")]
def s_f_law_due : Scope := defScope (top 34)
def b_f_law_due : List Stmt := defBody (top 34)
theorem sc_f_law_due : FnScope N_f_law_due [(PySem.Str.ofString "_law_top"), (PySem.Str.ofString "_law_bottom")] s_f_law_due := ⟨rfl, rfl, rfl, by decide +kernel, rfl, by decide +kernel, by decide +kernel⟩
abbrev FD_f_law_due (K : PySem.W.Frag) (fd : FuncData) : Prop := FunD K (PySem.Str.ofString "_law_due") (PySem.Str.ofString "_law_due") (defArgs (top 34)) b_f_law_due s_f_law_due [] [] (He.ga K (PySem.Str.ofString "_law_due")) fd
theorem bn_f_law_due {fd : FuncData} (F : FD_f_law_due K fd) : Binds K fd [(PySem.Str.ofString "_law_top"), (PySem.Str.ofString "_law_bottom")] [] := F.bindsN fun _ _ _ _ _ _ us hl => match us, hl with | [_, _], _ => rfl
theorem n_f_law_due_0 : Nm N_f_law_due s_f_law_due 0 (PySem.Str.ofString "_law_top") := nmB_ok (by decide +kernel)
theorem n_f_law_due_1 : Nm N_f_law_due s_f_law_due 1 (PySem.Str.ofString "_law_bottom") := nmB_ok (by decide +kernel)
theorem n_f_law_due_2 : Nm N_f_law_due s_f_law_due 2 (PySem.Str.ofString "_law_common") := nmB_ok (by decide +kernel)
noncomputable def m_f_law_due : MS := (sSeq (sSet 2 (mCallD none 2 [] r_f_law_divisor (qCons (mPl 0) (qCons (mPl 1) qNil)))) (sSeq (sIf (tB1 (op2 fLtI (mPl 1) (mP (mC (.int 0))))) (sSet 2 (op1 fNegI (mPl 2))) sNil) (sRet (mTup (aCons (op2 fDivA (mPl 0) (mPl 2)) (aCons (op2 fDivA (mPl 1) (mPl 2)) aNil))))))
noncomputable def r_f_law_due : List D → OF := runDef none false N_f_law_due.length m_f_law_due
theorem ok_f_law_due (z : Z P w K mg base) : ∃ fd, FD_f_law_due K fd ∧ FK P w K mg base 2 (He.ga K (PySem.Str.ofString "_law_due")) fd [(PySem.Str.ofString "_law_top"), (PySem.Str.ofString "_law_bottom")] none false r_f_law_due := by
  obtain ⟨fd, F⟩ : ∃ fd, FD_f_law_due K fd := z.s.def_ 30 rfl
  obtain ⟨fd_f_law_divisor, F_f_law_divisor, G_f_law_divisor⟩ := ok_f_law_divisor z
  refine ⟨fd, F, ?_⟩
  have nd := sc_f_law_due.nd
  refine fnF F sc_f_law_due fun cdv A outer s H E hr => ?_
  exact (trB_cons (trS_set nd (trE_callD G_f_law_divisor (hr.mono (by decide)) (gl_of (by kernel_rfl)) (g__law_divisor z) F_f_law_divisor.kp (bn_f_law_divisor F_f_law_divisor) .nil (fun _ => .nil) (trQ_cons (nP n_f_law_due_0) (trQ_cons (nP n_f_law_due_1) trQ_nil)) (by rfl) (by rfl) (by kernel_rfl)) (by kernel_rfl) (locB_ok (by kernel_rfl)) (by rfl) (hf_of (by kernel_rfl)))
  (trB_cons (trS_if (trT_cmp op_lt ok_ltI (by rfl) (nP n_f_law_due_1) (trP_e (trE_int))) (trB_one (trS_set nd (trE_un un_neg ok_negI (nP n_f_law_due_2)) (by kernel_rfl) (locB_ok (by kernel_rfl)) (by rfl) (hf_of (by kernel_rfl)))) trB_nil)
  (trB_one (trS_ret (trE_tup (trA_cons (trE_bin op_fdivA ok_divA (nP n_f_law_due_0) (nP n_f_law_due_2)) (trA_cons (trE_bin op_fdivA ok_divA (nP n_f_law_due_1) (nP n_f_law_due_2)) trA_nil)))))))
/-! _law_is -/
def N_f_law_is : List Str := [(PySem.Str.ofString "_law_ratio"), (PySem.Str.ofString "_law_top"), (PySem.Str.ofString "_law_bottom")]
def s_f_law_is : Scope := defScope (top 35)
def b_f_law_is : List Stmt := defBody (top 35)
theorem sc_f_law_is : FnScope N_f_law_is [(PySem.Str.ofString "_law_ratio"), (PySem.Str.ofString "_law_top"), (PySem.Str.ofString "_law_bottom")] s_f_law_is := ⟨rfl, rfl, rfl, by decide +kernel, rfl, by decide +kernel, by decide +kernel⟩
abbrev FD_f_law_is (K : PySem.W.Frag) (fd : FuncData) : Prop := FunD K (PySem.Str.ofString "_law_is") (PySem.Str.ofString "_law_is") (defArgs (top 35)) b_f_law_is s_f_law_is [] [] (He.ga K (PySem.Str.ofString "_law_is")) fd
theorem bn_f_law_is {fd : FuncData} (F : FD_f_law_is K fd) : Binds K fd [(PySem.Str.ofString "_law_ratio"), (PySem.Str.ofString "_law_top"), (PySem.Str.ofString "_law_bottom")] [] := F.bindsN fun _ _ _ _ _ _ us hl => match us, hl with | [_, _, _], _ => rfl
theorem n_f_law_is_0 : Nm N_f_law_is s_f_law_is 0 (PySem.Str.ofString "_law_ratio") := nmB_ok (by decide +kernel)
theorem n_f_law_is_1 : Nm N_f_law_is s_f_law_is 1 (PySem.Str.ofString "_law_top") := nmB_ok (by decide +kernel)
theorem n_f_law_is_2 : Nm N_f_law_is s_f_law_is 2 (PySem.Str.ofString "_law_bottom") := nmB_ok (by decide +kernel)
noncomputable def m_f_law_is : MS := (sRet ((mAnd (mFn (fIsi t0) (qCons (mPl 0) (qCons (mP (mC (.cls 1))) qNil))) (op2 fEq (mP (mTup (aCons (op1 (fFld fl_top) (mPl 0)) (aCons (op1 (fFld fl_bottom) (mPl 0)) aNil)))) (mP (mCallD none 2 [] r_f_law_due (qCons (mPl 1) (qCons (mPl 2) qNil))))))))
noncomputable def r_f_law_is : List D → OF := runDef none false N_f_law_is.length m_f_law_is
theorem ok_f_law_is (z : Z P w K mg base) : ∃ fd, FD_f_law_is K fd ∧ FK P w K mg base 3 (He.ga K (PySem.Str.ofString "_law_is")) fd [(PySem.Str.ofString "_law_ratio"), (PySem.Str.ofString "_law_top"), (PySem.Str.ofString "_law_bottom")] none false r_f_law_is := by
  obtain ⟨fd, F⟩ : ∃ fd, FD_f_law_is K fd := z.s.def_ 31 rfl
  obtain ⟨fd_f_law_due, F_f_law_due, G_f_law_due⟩ := ok_f_law_due z
  refine ⟨fd, F, ?_⟩
  have nd := sc_f_law_is.nd
  refine fnF F sc_f_law_is fun cdv A outer s H E hr => ?_
  exact (trB_one (trS_ret ((trE_and rfl (trE_fnB (callR_or call_isi call_isiT) (ok_isi0 (tabok z) rfl rfl) (gl_of (by kernel_rfl)) (g_isinstance z) (by kernel_rfl) (trQ_cons (nP n_f_law_is_0) (trQ_cons (trP_e (trE_glob (v := .ref (He.ga K (PySem.Str.ofString "Ratio"))) (gl_of (by kernel_rfl)) (g_Ratio z) rfl (fun _ => is_cls.mpr rfl) (by kernel_rfl))) trQ_nil)) (by decide) (by kernel_rfl)) (trE_one (trE_cmp (op_eqD hr.units) ok_eq (by rfl) (trP_e (trE_tup (trA_cons (trE_fld rfl (fo_top z) (nP n_f_law_is_0)) (trA_cons (trE_fld rfl (fo_bottom z) (nP n_f_law_is_0)) trA_nil)))) (trP_e (trE_callD G_f_law_due (hr.mono (by decide)) (gl_of (by kernel_rfl)) (g__law_due z) F_f_law_due.kp (bn_f_law_due F_f_law_due) .nil (fun _ => .nil) (trQ_cons (nP n_f_law_is_1) (trQ_cons (nP n_f_law_is_2) trQ_nil)) (by rfl) (by rfl) (by kernel_rfl)))))))))
/-! _law_pair -/
def N_f_law_pair : List Str := [(PySem.Str.ofString "_law_tub_here"), (PySem.Str.ofString "_law_great"), (PySem.Str.ofString "_law_bottom")]
def s_f_law_pair : Scope := defScope (top 32)
def b_f_law_pair : List Stmt := defBody (top 32)
theorem sc_f_law_pair : FnScope N_f_law_pair [(PySem.Str.ofString "_law_tub_here")] s_f_law_pair := ⟨rfl, rfl, rfl, by decide +kernel, rfl, by decide +kernel, by decide +kernel⟩
abbrev FD_f_law_pair (K : PySem.W.Frag) (fd : FuncData) : Prop := FunD K (PySem.Str.ofString "_law_pair") (PySem.Str.ofString "_law_pair") (defArgs (top 32)) b_f_law_pair s_f_law_pair [] [] (He.ga K (PySem.Str.ofString "_law_pair")) fd
theorem bn_f_law_pair {fd : FuncData} (F : FD_f_law_pair K fd) : Binds K fd [(PySem.Str.ofString "_law_tub_here")] [] := F.bindsN fun _ _ _ _ _ _ us hl => match us, hl with | [_], _ => rfl
theorem n_f_law_pair_0 : Nm N_f_law_pair s_f_law_pair 0 (PySem.Str.ofString "_law_tub_here") := nmB_ok (by decide +kernel)
theorem n_f_law_pair_1 : Nm N_f_law_pair s_f_law_pair 1 (PySem.Str.ofString "_law_great") := nmB_ok (by decide +kernel)
theorem n_f_law_pair_2 : Nm N_f_law_pair s_f_law_pair 2 (PySem.Str.ofString "_law_bottom") := nmB_ok (by decide +kernel)
noncomputable def m_f_law_pair : MS := (sSeq (sSet 1 (op2 fIx (mP (mTup (aCons (mC (.int 4)) (aCons (mC (.int 13)) (aCons (op2 fPowI (mP (mC (.int 10))) (mP (mC (.int 7)))) (aCons (op2 fPowI (mP (mC (.int 10))) (mP (mC (.int 25)))) aNil)))))) (mP (mCallD (some 0) 2 [] r_f_law_scoop (qCons (mPl 0) (qCons (mP (mC (.int 4))) qNil)))))) (sSeq (sSet 2 (op2 fMul (mP (op2 fSubI (mP (op2 fMul (mP (mC (.int 2))) (mP (mCallD (some 0) 2 [] r_f_law_scoop (qCons (mPl 0) (qCons (mP (mC (.int 2))) qNil)))))) (mP (mC (.int 1))))) (mP (op2 fAdd (mP (mC (.int 1))) (mP (mCallD (some 0) 2 [] r_f_law_scoop (qCons (mPl 0) (qCons (mPl 1) qNil)))))))) (sRet (mTup (aCons (op2 fMul (mP (op2 fSubI (mP (op2 fMul (mP (mC (.int 2))) (mP (mCallD (some 0) 2 [] r_f_law_scoop (qCons (mPl 0) (qCons (mP (mC (.int 2))) qNil)))))) (mP (mC (.int 1))))) (mP (mCallD (some 0) 2 [] r_f_law_scoop (qCons (mPl 0) (qCons (mPl 1) qNil))))) (aCons (mV 2) aNil))))))
noncomputable def r_f_law_pair : List D → OF := runDef (some 0) false N_f_law_pair.length m_f_law_pair
theorem ok_f_law_pair (z : Z P w K mg base) : ∃ fd, FD_f_law_pair K fd ∧ FK P w K mg base 2 (He.ga K (PySem.Str.ofString "_law_pair")) fd [(PySem.Str.ofString "_law_tub_here")] (some 0) false r_f_law_pair := by
  obtain ⟨fd, F⟩ : ∃ fd, FD_f_law_pair K fd := z.s.def_ 32 rfl
  obtain ⟨fd_f_law_scoop, F_f_law_scoop, G_f_law_scoop⟩ := ok_f_law_scoop z
  refine ⟨fd, F, ?_⟩
  have nd := sc_f_law_pair.nd
  refine fnF F sc_f_law_pair fun cdv A outer s H E hr => ?_
  exact (trB_cons (trS_set nd (trE_ix ix_seq ok_ix (trP_e (trE_tup (trA_cons (trE_int) (trA_cons (trE_int) (trA_cons (trE_bin op_pow ok_powI (trP_e (trE_int)) (trP_e (trE_int))) (trA_cons (trE_bin op_pow ok_powI (trP_e (trE_int)) (trP_e (trE_int))) trA_nil)))))) (trP_e (trE_callD G_f_law_scoop (hr.mono (by decide)) (gl_of (by kernel_rfl)) (g__law_scoop z) F_f_law_scoop.kp (bn_f_law_scoop F_f_law_scoop) .nil (fun _ => .nil) (trQ_cons (nP n_f_law_pair_0) (trQ_cons (trP_e (trE_int)) trQ_nil)) (by rfl) (by rfl) (by kernel_rfl)))) (by kernel_rfl) (locB_ok (by kernel_rfl)) (by rfl) (hf_of (by kernel_rfl)))
  (trB_cons (trS_set nd (trE_bin op_mulU ok_mulU (trP_e (trE_bin op_sub ok_subI (trP_e (trE_bin op_mulU ok_mulU (trP_e (trE_int)) (trP_e (trE_callD G_f_law_scoop (hr.mono (by decide)) (gl_of (by kernel_rfl)) (g__law_scoop z) F_f_law_scoop.kp (bn_f_law_scoop F_f_law_scoop) .nil (fun _ => .nil) (trQ_cons (nP n_f_law_pair_0) (trQ_cons (trP_e (trE_int)) trQ_nil)) (by rfl) (by rfl) (by kernel_rfl))))) (trP_e (trE_int)))) (trP_e (trE_bin op_addU ok_addU (trP_e (trE_int)) (trP_e (trE_callD G_f_law_scoop (hr.mono (by decide)) (gl_of (by kernel_rfl)) (g__law_scoop z) F_f_law_scoop.kp (bn_f_law_scoop F_f_law_scoop) .nil (fun _ => .nil) (trQ_cons (nP n_f_law_pair_0) (trQ_cons (nP n_f_law_pair_1) trQ_nil)) (by rfl) (by rfl) (by kernel_rfl)))))) (by kernel_rfl) (locB_ok (by kernel_rfl)) (by rfl) (hf_of (by kernel_rfl)))
  (trB_one (trS_ret (trE_tup (trA_cons (trE_bin op_mulU ok_mulU (trP_e (trE_bin op_sub ok_subI (trP_e (trE_bin op_mulU ok_mulU (trP_e (trE_int)) (trP_e (trE_callD G_f_law_scoop (hr.mono (by decide)) (gl_of (by kernel_rfl)) (g__law_scoop z) F_f_law_scoop.kp (bn_f_law_scoop F_f_law_scoop) .nil (fun _ => .nil) (trQ_cons (nP n_f_law_pair_0) (trQ_cons (trP_e (trE_int)) trQ_nil)) (by rfl) (by rfl) (by kernel_rfl))))) (trP_e (trE_int)))) (trP_e (trE_callD G_f_law_scoop (hr.mono (by decide)) (gl_of (by kernel_rfl)) (g__law_scoop z) F_f_law_scoop.kp (bn_f_law_scoop F_f_law_scoop) .nil (fun _ => .nil) (trQ_cons (nP n_f_law_pair_0) (trQ_cons (nP n_f_law_pair_1) trQ_nil)) (by rfl) (by rfl) (by kernel_rfl)))) (trA_cons (nV n_f_law_pair_2) trA_nil)))))))
/-! _law_sums_right -/
def N_f_law_sums_right : List Str := [(PySem.Str.ofString "_law_a"), (PySem.Str.ofString "_law_b"), (PySem.Str.ofString "_law_one"), (PySem.Str.ofString "_law_other"), (PySem.Str.ofString "_law_apart"), (PySem.Str.ofString "_law_least"), (PySem.Str.ofString "_law_greatest")]
def s_f_law_sums_right : Scope := defScope (top 37)
def b_f_law_sums_right : List Stmt := defBody (top 37)
theorem sc_f_law_sums_right : FnScope N_f_law_sums_right [(PySem.Str.ofString "_law_a"), (PySem.Str.ofString "_law_b"), (PySem.Str.ofString "_law_one"), (PySem.Str.ofString "_law_other")] s_f_law_sums_right := ⟨rfl, rfl, rfl, by decide +kernel, rfl, by decide +kernel, by decide +kernel⟩
abbrev FD_f_law_sums_right (K : PySem.W.Frag) (fd : FuncData) : Prop := FunD K (PySem.Str.ofString "_law_sums_right") (PySem.Str.ofString "_law_sums_right") (defArgs (top 37)) b_f_law_sums_right s_f_law_sums_right [] [] (He.ga K (PySem.Str.ofString "_law_sums_right")) fd
theorem bn_f_law_sums_right {fd : FuncData} (F : FD_f_law_sums_right K fd) : Binds K fd [(PySem.Str.ofString "_law_a"), (PySem.Str.ofString "_law_b"), (PySem.Str.ofString "_law_one"), (PySem.Str.ofString "_law_other")] [] := F.bindsN fun _ _ _ _ _ _ us hl => match us, hl with | [_, _, _, _], _ => rfl
theorem n_f_law_sums_right_0 : Nm N_f_law_sums_right s_f_law_sums_right 0 (PySem.Str.ofString "_law_a") := nmB_ok (by decide +kernel)
theorem n_f_law_sums_right_1 : Nm N_f_law_sums_right s_f_law_sums_right 1 (PySem.Str.ofString "_law_b") := nmB_ok (by decide +kernel)
theorem n_f_law_sums_right_2 : Nm N_f_law_sums_right s_f_law_sums_right 2 (PySem.Str.ofString "_law_one") := nmB_ok (by decide +kernel)
theorem n_f_law_sums_right_3 : Nm N_f_law_sums_right s_f_law_sums_right 3 (PySem.Str.ofString "_law_other") := nmB_ok (by decide +kernel)
theorem n_f_law_sums_right_4 : Nm N_f_law_sums_right s_f_law_sums_right 4 (PySem.Str.ofString "_law_apart") := nmB_ok (by decide +kernel)
theorem n_f_law_sums_right_5 : Nm N_f_law_sums_right s_f_law_sums_right 5 (PySem.Str.ofString "_law_least") := nmB_ok (by decide +kernel)
theorem n_f_law_sums_right_6 : Nm N_f_law_sums_right s_f_law_sums_right 6 (PySem.Str.ofString "_law_greatest") := nmB_ok (by decide +kernel)
noncomputable def m_f_law_sums_right : MS := (sSeq (sIf (tNt (tT (mP (mCallD none 3 [] r_f_law_is (qCons (mP (op2X (ownB 1 [1] r_c_Ratio_add) fAdd (mPl 2) (mPl 3))) (qCons (mP (op2X (ownB 1 [1] r_c_Ratio_add) fAdd (mP (op2X (ownB 1 [1] r_c_Ratio_mul) fMul (mP (op2 fIx (mPl 0) (mP (mC (.int 0))))) (mP (op2 fIx (mPl 1) (mP (mC (.int 1))))))) (mP (op2X (ownB 1 [1] r_c_Ratio_mul) fMul (mP (op2 fIx (mPl 1) (mP (mC (.int 0))))) (mP (op2 fIx (mPl 0) (mP (mC (.int 1))))))))) (qCons (mP (op2X (ownB 1 [1] r_c_Ratio_mul) fMul (mP (op2 fIx (mPl 0) (mP (mC (.int 1))))) (mP (op2 fIx (mPl 1) (mP (mC (.int 1))))))) qNil))))))) (sRet (mC (.bl false))) sNil) (sSeq (sIf ((tOr2 (tNt (tT (mP (mCallD none 3 [] r_f_law_is (qCons (mP (op2X (ownB 1 [1] r_c_Ratio_sub) fSubI (mPl 2) (mPl 3))) (qCons (mP (op2X (ownB 1 [1] r_c_Ratio_sub) fSubI (mP (op2X (ownB 1 [1] r_c_Ratio_mul) fMul (mP (op2 fIx (mPl 0) (mP (mC (.int 0))))) (mP (op2 fIx (mPl 1) (mP (mC (.int 1))))))) (mP (op2X (ownB 1 [1] r_c_Ratio_mul) fMul (mP (op2 fIx (mPl 1) (mP (mC (.int 0))))) (mP (op2 fIx (mPl 0) (mP (mC (.int 1))))))))) (qCons (mP (op2X (ownB 1 [1] r_c_Ratio_mul) fMul (mP (op2 fIx (mPl 0) (mP (mC (.int 1))))) (mP (op2 fIx (mPl 1) (mP (mC (.int 1))))))) qNil))))))) (tNt (tT (mP (mCallD none 3 [] r_f_law_is (qCons (mP (op2X (ownB 1 [1] r_c_Ratio_mul) fMul (mPl 2) (mPl 3))) (qCons (mP (op2X (ownB 1 [1] r_c_Ratio_mul) fMul (mP (op2 fIx (mPl 0) (mP (mC (.int 0))))) (mP (op2 fIx (mPl 1) (mP (mC (.int 0))))))) (qCons (mP (op2X (ownB 1 [1] r_c_Ratio_mul) fMul (mP (op2 fIx (mPl 0) (mP (mC (.int 1))))) (mP (op2 fIx (mPl 1) (mP (mC (.int 1))))))) qNil))))))))) (sRet (mC (.bl false))) sNil) (sSeq (sIf ((tAn (tB1 (op2 fNe (mP (op2 fIx (mPl 1) (mP (mC (.int 0))))) (mP (mC (.int 0))))) (tNt (tT (mP (mCallD none 3 [] r_f_law_is (qCons (mP (mMethD 1 none 2 [] r_c_Ratio_over (mPl 2) (qCons (mPl 3) qNil))) (qCons (mP (op2X (ownB 1 [1] r_c_Ratio_mul) fMul (mP (op2 fIx (mPl 0) (mP (mC (.int 0))))) (mP (op2 fIx (mPl 1) (mP (mC (.int 1))))))) (qCons (mP (op2X (ownB 1 [1] r_c_Ratio_mul) fMul (mP (op2 fIx (mPl 0) (mP (mC (.int 1))))) (mP (op2 fIx (mPl 1) (mP (mC (.int 0))))))) qNil))))))))) (sRet (mC (.bl false))) sNil) (sSeq (sSet 4 (op2X (ownB 1 [1] r_c_Ratio_mul) fMul (mP (op2X (ownB 1 [1] r_c_Ratio_sub) fSubI (mP (op2X (ownB 1 [1] r_c_Ratio_mul) fMul (mP (op2 fIx (mPl 0) (mP (mC (.int 0))))) (mP (op2 fIx (mPl 1) (mP (mC (.int 1))))))) (mP (op2X (ownB 1 [1] r_c_Ratio_mul) fMul (mP (op2 fIx (mPl 1) (mP (mC (.int 0))))) (mP (op2 fIx (mPl 0) (mP (mC (.int 1))))))))) (mP (op2X (ownB 1 [1] r_c_Ratio_mul) fMul (mP (op2 fIx (mPl 0) (mP (mC (.int 1))))) (mP (op2 fIx (mPl 1) (mP (mC (.int 1))))))))) (sSeq (sIf ((tOr2 (tB1 (op2 fNe (mP (mMethD 1 none 2 [] r_c_Ratio_compared (mPl 2) (qCons (mPl 3) qNil))) (mP (op2X (ownB 1 [1] r_c_Ratio_sub) fSubI (mP (mFn (fIntU) (qCons (mP (op2 fGtI (mPl 4) (mP (mC (.int 0))))) qNil))) (mP (mFn (fIntU) (qCons (mP (op2 fLtI (mPl 4) (mP (mC (.int 0))))) qNil))))))) (tB1 (op2 fNe (mP (mMethD 1 none 2 [] r_c_Ratio_is_below (mPl 2) (qCons (mPl 3) qNil))) (mP (op2 fLtI (mPl 4) (mP (mC (.int 0))))))))) (sRet (mC (.bl false))) sNil) (sSeq (sIf (tB1 (op2 fNe (mP (op2X (ownB 1 [1] r_c_Ratio_eq) fEq (mPl 2) (mPl 3))) (mP (op2X (ownB 1 [1] r_c_Ratio_eq) fEq (mPl 4) (mP (mC (.int 0))))))) (sRet (mC (.bl false))) sNil) (sSeq (sAsg (mIf (tB1 (op2 fLeI (mPl 4) (mP (mC (.int 0))))) (mTup (aCons (mV 2) (aCons (mV 3) aNil))) (mTup (aCons (mV 3) (aCons (mV 2) aNil)))) (gTp 2 (gsCons (gNm 5) (gsCons (gNm 6) gsNil)))) (sSeq (sIf ((tOr2 (tNt (tB1 (op2X (ownB 1 [1] r_c_Ratio_eq) fEq (mP (mCallD none 1 [] r_f_least_of (qCons (mP ((mLst (aCons (mV 2) (aCons (mV 3) aNil))))) qNil))) (mPl 5)))) (tNt (tB1 (op2X (ownB 1 [1] r_c_Ratio_eq) fEq (mP (mCallD none 1 [] r_f_greatest_of (qCons (mP (mTup (aCons (mV 2) (aCons (mV 3) aNil)))) qNil))) (mPl 6)))))) (sRet (mC (.bl false))) sNil) (sRet (op2X (ownB 1 [1] r_c_Ratio_eq) fEq (mP (mCallD none 1 [] r_f_added (qCons (mP ((mLst (aCons (mV 2) (aCons (mV 3) (aCons (mV 2) aNil)))))) qNil))) (mP (op2X (ownB 1 [1] r_c_Ratio_add) fAdd (mP (op2X (ownB 1 [1] r_c_Ratio_add) fAdd (mPl 2) (mPl 3))) (mPl 2)))))))))))))
noncomputable def r_f_law_sums_right : List D → OF := runDef none false N_f_law_sums_right.length m_f_law_sums_right
theorem ok_f_law_sums_right (z : Z P w K mg base) : ∃ fd, FD_f_law_sums_right K fd ∧ FK P w K mg base 10 (He.ga K (PySem.Str.ofString "_law_sums_right")) fd [(PySem.Str.ofString "_law_a"), (PySem.Str.ofString "_law_b"), (PySem.Str.ofString "_law_one"), (PySem.Str.ofString "_law_other")] none false r_f_law_sums_right := by
  obtain ⟨fd, F⟩ : ∃ fd, FD_f_law_sums_right K fd := z.s.def_ 33 rfl
  obtain ⟨fd_f_law_is, F_f_law_is, G_f_law_is⟩ := ok_f_law_is z
  obtain ⟨fd_c_Ratio_mul, F_c_Ratio_mul, G_c_Ratio_mul⟩ := ok_c_Ratio_mul z
  obtain ⟨fd_c_Ratio_add, F_c_Ratio_add, G_c_Ratio_add⟩ := ok_c_Ratio_add z
  obtain ⟨fd_c_Ratio_sub, F_c_Ratio_sub, G_c_Ratio_sub⟩ := ok_c_Ratio_sub z
  obtain ⟨fd_c_Ratio_over, F_c_Ratio_over, G_c_Ratio_over⟩ := ok_c_Ratio_over z
  obtain ⟨fd_c_Ratio_compared, F_c_Ratio_compared, G_c_Ratio_compared⟩ := ok_c_Ratio_compared z
  obtain ⟨fd_c_Ratio_is_below, F_c_Ratio_is_below, G_c_Ratio_is_below⟩ := ok_c_Ratio_is_below z
  obtain ⟨fd_c_Ratio_eq, F_c_Ratio_eq, G_c_Ratio_eq⟩ := ok_c_Ratio_eq z
  obtain ⟨fd_f_least_of, F_f_least_of, G_f_least_of⟩ := ok_f_least_of z
  obtain ⟨fd_f_greatest_of, F_f_greatest_of, G_f_greatest_of⟩ := ok_f_greatest_of z
  obtain ⟨fd_f_added, F_f_added, G_f_added⟩ := ok_f_added z
  refine ⟨fd, F, ?_⟩
  have nd := sc_f_law_sums_right.nd
  refine fnF F sc_f_law_sums_right fun cdv A outer s H E hr => ?_
  exact (trB_cons (trS_if (trT_not (trT_p rfl (trP_e (trE_callD G_f_law_is (hr.mono (by decide)) (gl_of (by kernel_rfl)) (g__law_is z) F_f_law_is.kp (bn_f_law_is F_f_law_is) .nil (fun _ => .nil) (trQ_cons (trP_e (trE_binX (fun E hx => op_ownBin (binB_ok (ob_c_Ratio_add z)) ((G_c_Ratio_add).raw (bn_c_Ratio_add F_c_Ratio_add) .nil) (hr.mono (by decide)) hx) (okX_bin binTy_add) op_addU ok_addU (nP n_f_law_sums_right_2) (nP n_f_law_sums_right_3))) (trQ_cons (trP_e (trE_binX (fun E hx => op_ownBin (binB_ok (ob_c_Ratio_add z)) ((G_c_Ratio_add).raw (bn_c_Ratio_add F_c_Ratio_add) .nil) (hr.mono (by decide)) hx) (okX_bin binTy_add) op_addU ok_addU (trP_e (trE_binX (fun E hx => op_ownBin (binB_ok (ob_c_Ratio_mul z)) ((G_c_Ratio_mul).raw (bn_c_Ratio_mul F_c_Ratio_mul) .nil) (hr.mono (by decide)) hx) (okX_bin binTy_mul) op_mulU ok_mulU (trP_e (trE_ix ix_seq ok_ix (nP n_f_law_sums_right_0) (trP_e (trE_int)))) (trP_e (trE_ix ix_seq ok_ix (nP n_f_law_sums_right_1) (trP_e (trE_int)))))) (trP_e (trE_binX (fun E hx => op_ownBin (binB_ok (ob_c_Ratio_mul z)) ((G_c_Ratio_mul).raw (bn_c_Ratio_mul F_c_Ratio_mul) .nil) (hr.mono (by decide)) hx) (okX_bin binTy_mul) op_mulU ok_mulU (trP_e (trE_ix ix_seq ok_ix (nP n_f_law_sums_right_1) (trP_e (trE_int)))) (trP_e (trE_ix ix_seq ok_ix (nP n_f_law_sums_right_0) (trP_e (trE_int)))))))) (trQ_cons (trP_e (trE_binX (fun E hx => op_ownBin (binB_ok (ob_c_Ratio_mul z)) ((G_c_Ratio_mul).raw (bn_c_Ratio_mul F_c_Ratio_mul) .nil) (hr.mono (by decide)) hx) (okX_bin binTy_mul) op_mulU ok_mulU (trP_e (trE_ix ix_seq ok_ix (nP n_f_law_sums_right_0) (trP_e (trE_int)))) (trP_e (trE_ix ix_seq ok_ix (nP n_f_law_sums_right_1) (trP_e (trE_int)))))) trQ_nil))) (by rfl) (by rfl) (by kernel_rfl))))) (trB_one (trS_ret (trE_bl))) trB_nil)
  (trB_cons (trS_if (trT_w (trW_or (trT_not (trT_p rfl (trP_e (trE_callD G_f_law_is (hr.mono (by decide)) (gl_of (by kernel_rfl)) (g__law_is z) F_f_law_is.kp (bn_f_law_is F_f_law_is) .nil (fun _ => .nil) (trQ_cons (trP_e (trE_binX (fun E hx => op_ownBin (binB_ok (ob_c_Ratio_sub z)) ((G_c_Ratio_sub).raw (bn_c_Ratio_sub F_c_Ratio_sub) .nil) (hr.mono (by decide)) hx) (okX_bin binTy_sub) op_sub ok_subI (nP n_f_law_sums_right_2) (nP n_f_law_sums_right_3))) (trQ_cons (trP_e (trE_binX (fun E hx => op_ownBin (binB_ok (ob_c_Ratio_sub z)) ((G_c_Ratio_sub).raw (bn_c_Ratio_sub F_c_Ratio_sub) .nil) (hr.mono (by decide)) hx) (okX_bin binTy_sub) op_sub ok_subI (trP_e (trE_binX (fun E hx => op_ownBin (binB_ok (ob_c_Ratio_mul z)) ((G_c_Ratio_mul).raw (bn_c_Ratio_mul F_c_Ratio_mul) .nil) (hr.mono (by decide)) hx) (okX_bin binTy_mul) op_mulU ok_mulU (trP_e (trE_ix ix_seq ok_ix (nP n_f_law_sums_right_0) (trP_e (trE_int)))) (trP_e (trE_ix ix_seq ok_ix (nP n_f_law_sums_right_1) (trP_e (trE_int)))))) (trP_e (trE_binX (fun E hx => op_ownBin (binB_ok (ob_c_Ratio_mul z)) ((G_c_Ratio_mul).raw (bn_c_Ratio_mul F_c_Ratio_mul) .nil) (hr.mono (by decide)) hx) (okX_bin binTy_mul) op_mulU ok_mulU (trP_e (trE_ix ix_seq ok_ix (nP n_f_law_sums_right_1) (trP_e (trE_int)))) (trP_e (trE_ix ix_seq ok_ix (nP n_f_law_sums_right_0) (trP_e (trE_int)))))))) (trQ_cons (trP_e (trE_binX (fun E hx => op_ownBin (binB_ok (ob_c_Ratio_mul z)) ((G_c_Ratio_mul).raw (bn_c_Ratio_mul F_c_Ratio_mul) .nil) (hr.mono (by decide)) hx) (okX_bin binTy_mul) op_mulU ok_mulU (trP_e (trE_ix ix_seq ok_ix (nP n_f_law_sums_right_0) (trP_e (trE_int)))) (trP_e (trE_ix ix_seq ok_ix (nP n_f_law_sums_right_1) (trP_e (trE_int)))))) trQ_nil))) (by rfl) (by rfl) (by kernel_rfl))))) (trW_or1 (trT_not (trT_p rfl (trP_e (trE_callD G_f_law_is (hr.mono (by decide)) (gl_of (by kernel_rfl)) (g__law_is z) F_f_law_is.kp (bn_f_law_is F_f_law_is) .nil (fun _ => .nil) (trQ_cons (trP_e (trE_binX (fun E hx => op_ownBin (binB_ok (ob_c_Ratio_mul z)) ((G_c_Ratio_mul).raw (bn_c_Ratio_mul F_c_Ratio_mul) .nil) (hr.mono (by decide)) hx) (okX_bin binTy_mul) op_mulU ok_mulU (nP n_f_law_sums_right_2) (nP n_f_law_sums_right_3))) (trQ_cons (trP_e (trE_binX (fun E hx => op_ownBin (binB_ok (ob_c_Ratio_mul z)) ((G_c_Ratio_mul).raw (bn_c_Ratio_mul F_c_Ratio_mul) .nil) (hr.mono (by decide)) hx) (okX_bin binTy_mul) op_mulU ok_mulU (trP_e (trE_ix ix_seq ok_ix (nP n_f_law_sums_right_0) (trP_e (trE_int)))) (trP_e (trE_ix ix_seq ok_ix (nP n_f_law_sums_right_1) (trP_e (trE_int)))))) (trQ_cons (trP_e (trE_binX (fun E hx => op_ownBin (binB_ok (ob_c_Ratio_mul z)) ((G_c_Ratio_mul).raw (bn_c_Ratio_mul F_c_Ratio_mul) .nil) (hr.mono (by decide)) hx) (okX_bin binTy_mul) op_mulU ok_mulU (trP_e (trE_ix ix_seq ok_ix (nP n_f_law_sums_right_0) (trP_e (trE_int)))) (trP_e (trE_ix ix_seq ok_ix (nP n_f_law_sums_right_1) (trP_e (trE_int)))))) trQ_nil))) (by rfl) (by rfl) (by kernel_rfl)))))))) (trB_one (trS_ret (trE_bl))) trB_nil)
  (trB_cons (trS_if (trT_w (trW_and (trT_cmp (op_neD hr.units) ok_ne (by rfl) (trP_e (trE_ix ix_seq ok_ix (nP n_f_law_sums_right_1) (trP_e (trE_int)))) (trP_e (trE_int))) (trW_and1 (trT_not (trT_p rfl (trP_e (trE_callD G_f_law_is (hr.mono (by decide)) (gl_of (by kernel_rfl)) (g__law_is z) F_f_law_is.kp (bn_f_law_is F_f_law_is) .nil (fun _ => .nil) (trQ_cons (trP_e (trE_meth (c := 1) (pl := _) (clsB_ok (cl_Ratio z)) (me_c_Ratio_over z) (by kernel_rfl) G_c_Ratio_over (hr.mono (by decide)) (bn_c_Ratio_over F_c_Ratio_over) .nil (fun _ => .nil) (nP n_f_law_sums_right_2) (trQ_cons (nP n_f_law_sums_right_3) trQ_nil))) (trQ_cons (trP_e (trE_binX (fun E hx => op_ownBin (binB_ok (ob_c_Ratio_mul z)) ((G_c_Ratio_mul).raw (bn_c_Ratio_mul F_c_Ratio_mul) .nil) (hr.mono (by decide)) hx) (okX_bin binTy_mul) op_mulU ok_mulU (trP_e (trE_ix ix_seq ok_ix (nP n_f_law_sums_right_0) (trP_e (trE_int)))) (trP_e (trE_ix ix_seq ok_ix (nP n_f_law_sums_right_1) (trP_e (trE_int)))))) (trQ_cons (trP_e (trE_binX (fun E hx => op_ownBin (binB_ok (ob_c_Ratio_mul z)) ((G_c_Ratio_mul).raw (bn_c_Ratio_mul F_c_Ratio_mul) .nil) (hr.mono (by decide)) hx) (okX_bin binTy_mul) op_mulU ok_mulU (trP_e (trE_ix ix_seq ok_ix (nP n_f_law_sums_right_0) (trP_e (trE_int)))) (trP_e (trE_ix ix_seq ok_ix (nP n_f_law_sums_right_1) (trP_e (trE_int)))))) trQ_nil))) (by rfl) (by rfl) (by kernel_rfl)))))))) (trB_one (trS_ret (trE_bl))) trB_nil)
  (trB_cons (trS_set nd (trE_binX (fun E hx => op_ownBin (binB_ok (ob_c_Ratio_mul z)) ((G_c_Ratio_mul).raw (bn_c_Ratio_mul F_c_Ratio_mul) .nil) (hr.mono (by decide)) hx) (okX_bin binTy_mul) op_mulU ok_mulU (trP_e (trE_binX (fun E hx => op_ownBin (binB_ok (ob_c_Ratio_sub z)) ((G_c_Ratio_sub).raw (bn_c_Ratio_sub F_c_Ratio_sub) .nil) (hr.mono (by decide)) hx) (okX_bin binTy_sub) op_sub ok_subI (trP_e (trE_binX (fun E hx => op_ownBin (binB_ok (ob_c_Ratio_mul z)) ((G_c_Ratio_mul).raw (bn_c_Ratio_mul F_c_Ratio_mul) .nil) (hr.mono (by decide)) hx) (okX_bin binTy_mul) op_mulU ok_mulU (trP_e (trE_ix ix_seq ok_ix (nP n_f_law_sums_right_0) (trP_e (trE_int)))) (trP_e (trE_ix ix_seq ok_ix (nP n_f_law_sums_right_1) (trP_e (trE_int)))))) (trP_e (trE_binX (fun E hx => op_ownBin (binB_ok (ob_c_Ratio_mul z)) ((G_c_Ratio_mul).raw (bn_c_Ratio_mul F_c_Ratio_mul) .nil) (hr.mono (by decide)) hx) (okX_bin binTy_mul) op_mulU ok_mulU (trP_e (trE_ix ix_seq ok_ix (nP n_f_law_sums_right_1) (trP_e (trE_int)))) (trP_e (trE_ix ix_seq ok_ix (nP n_f_law_sums_right_0) (trP_e (trE_int)))))))) (trP_e (trE_binX (fun E hx => op_ownBin (binB_ok (ob_c_Ratio_mul z)) ((G_c_Ratio_mul).raw (bn_c_Ratio_mul F_c_Ratio_mul) .nil) (hr.mono (by decide)) hx) (okX_bin binTy_mul) op_mulU ok_mulU (trP_e (trE_ix ix_seq ok_ix (nP n_f_law_sums_right_0) (trP_e (trE_int)))) (trP_e (trE_ix ix_seq ok_ix (nP n_f_law_sums_right_1) (trP_e (trE_int))))))) (by kernel_rfl) (locB_ok (by kernel_rfl)) (by rfl) (hf_of (by kernel_rfl)))
  (trB_cons (trS_if (trT_w (trW_or (trT_cmp (op_neD hr.units) ok_ne (by rfl) (trP_e (trE_meth (c := 1) (pl := _) (clsB_ok (cl_Ratio z)) (me_c_Ratio_compared z) (by kernel_rfl) G_c_Ratio_compared (hr.mono (by decide)) (bn_c_Ratio_compared F_c_Ratio_compared) .nil (fun _ => .nil) (nP n_f_law_sums_right_2) (trQ_cons (nP n_f_law_sums_right_3) trQ_nil))) (trP_e (trE_binX (fun E hx => op_ownBin (binB_ok (ob_c_Ratio_sub z)) ((G_c_Ratio_sub).raw (bn_c_Ratio_sub F_c_Ratio_sub) .nil) (hr.mono (by decide)) hx) (okX_bin binTy_sub) op_sub ok_subI (trP_e (trE_fnT (callR_or call_int1 call_int_str) ok_intU (gl_of (by kernel_rfl)) (g_int z) (by kernel_rfl) (trQ_cons (trP_e (trE_cmp op_gt ok_gtI (by rfl) (nP n_f_law_sums_right_4) (trP_e (trE_int)))) trQ_nil) (by decide) (by kernel_rfl))) (trP_e (trE_fnT (callR_or call_int1 call_int_str) ok_intU (gl_of (by kernel_rfl)) (g_int z) (by kernel_rfl) (trQ_cons (trP_e (trE_cmp op_lt ok_ltI (by rfl) (nP n_f_law_sums_right_4) (trP_e (trE_int)))) trQ_nil) (by decide) (by kernel_rfl)))))) (trW_or1 (trT_cmp (op_neD hr.units) ok_ne (by rfl) (trP_e (trE_meth (c := 1) (pl := _) (clsB_ok (cl_Ratio z)) (me_c_Ratio_is_below z) (by kernel_rfl) G_c_Ratio_is_below (hr.mono (by decide)) (bn_c_Ratio_is_below F_c_Ratio_is_below) .nil (fun _ => .nil) (nP n_f_law_sums_right_2) (trQ_cons (nP n_f_law_sums_right_3) trQ_nil))) (trP_e (trE_cmp op_lt ok_ltI (by rfl) (nP n_f_law_sums_right_4) (trP_e (trE_int)))))))) (trB_one (trS_ret (trE_bl))) trB_nil)
  (trB_cons (trS_if (trT_cmp (op_neD hr.units) ok_ne (by rfl) (trP_e (trE_cmpX (fun E hx => op_ownCmp (op := .Eq) (fun _ _ => rfl) (ownB1_ok (ob_c_Ratio_eq z)) ((G_c_Ratio_eq).raw (bn_c_Ratio_eq F_c_Ratio_eq) .nil) (hr.mono (by decide)) hx) (okX_cmp (fun c hc => (by cases List.mem_singleton.mp hc; simp [PySem.W.notFirst]))) (op_eqD hr.units) ok_eq (nP n_f_law_sums_right_2) (nP n_f_law_sums_right_3))) (trP_e (trE_cmpX (fun E hx => op_ownCmp (op := .Eq) (fun _ _ => rfl) (ownB1_ok (ob_c_Ratio_eq z)) ((G_c_Ratio_eq).raw (bn_c_Ratio_eq F_c_Ratio_eq) .nil) (hr.mono (by decide)) hx) (okX_cmp (fun c hc => (by cases List.mem_singleton.mp hc; simp [PySem.W.notFirst]))) (op_eqD hr.units) ok_eq (nP n_f_law_sums_right_4) (trP_e (trE_int))))) (trB_one (trS_ret (trE_bl))) trB_nil)
  (trB_cons (trS_asg (trE_if (trT_cmp op_le ok_leI (by rfl) (nP n_f_law_sums_right_4) (trP_e (trE_int))) (trE_tup (trA_cons (nV n_f_law_sums_right_2) (trA_cons (nV n_f_law_sums_right_3) trA_nil))) (trE_tup (trA_cons (nV n_f_law_sums_right_3) (trA_cons (nV n_f_law_sums_right_2) trA_nil)))) (trG_tup rfl (trGs_cons (trG_name nd (by kernel_rfl) (locB_ok (by kernel_rfl)) (hf_of (by kernel_rfl))) (trGs_cons (trG_name nd (by kernel_rfl) (locB_ok (by kernel_rfl)) (hf_of (by kernel_rfl))) trGs_nil))))
  (trB_cons (trS_if (trT_w (trW_or (trT_not (trT_cmpX (fun E hx => op_ownCmp (op := .Eq) (fun _ _ => rfl) (ownB1_ok (ob_c_Ratio_eq z)) ((G_c_Ratio_eq).raw (bn_c_Ratio_eq F_c_Ratio_eq) .nil) (hr.mono (by decide)) hx) (okX_cmp (fun c hc => (by cases List.mem_singleton.mp hc; simp [PySem.W.notFirst]))) (op_eqD hr.units) ok_eq (trP_e (trE_callD G_f_least_of (hr.mono (by decide)) (gl_of (by kernel_rfl)) (g_least_of z) F_f_least_of.kp (bn_f_least_of F_f_least_of) .nil (fun _ => .nil) (trQ_cons (trP_e (trE_n (trN_lst (trA_cons (nV n_f_law_sums_right_2) (trA_cons (nV n_f_law_sums_right_3) trA_nil))))) trQ_nil) (by rfl) (by rfl) (by kernel_rfl))) (nP n_f_law_sums_right_5))) (trW_or1 (trT_not (trT_cmpX (fun E hx => op_ownCmp (op := .Eq) (fun _ _ => rfl) (ownB1_ok (ob_c_Ratio_eq z)) ((G_c_Ratio_eq).raw (bn_c_Ratio_eq F_c_Ratio_eq) .nil) (hr.mono (by decide)) hx) (okX_cmp (fun c hc => (by cases List.mem_singleton.mp hc; simp [PySem.W.notFirst]))) (op_eqD hr.units) ok_eq (trP_e (trE_callD G_f_greatest_of (hr.mono (by decide)) (gl_of (by kernel_rfl)) (g_greatest_of z) F_f_greatest_of.kp (bn_f_greatest_of F_f_greatest_of) .nil (fun _ => .nil) (trQ_cons (trP_e (trE_tup (trA_cons (nV n_f_law_sums_right_2) (trA_cons (nV n_f_law_sums_right_3) trA_nil)))) trQ_nil) (by rfl) (by rfl) (by kernel_rfl))) (nP n_f_law_sums_right_6)))))) (trB_one (trS_ret (trE_bl))) trB_nil)
  (trB_one (trS_ret (trE_cmpX (fun E hx => op_ownCmp (op := .Eq) (fun _ _ => rfl) (ownB1_ok (ob_c_Ratio_eq z)) ((G_c_Ratio_eq).raw (bn_c_Ratio_eq F_c_Ratio_eq) .nil) (hr.mono (by decide)) hx) (okX_cmp (fun c hc => (by cases List.mem_singleton.mp hc; simp [PySem.W.notFirst]))) (op_eqD hr.units) ok_eq (trP_e (trE_callD G_f_added (hr.mono (by decide)) (gl_of (by kernel_rfl)) (g_added z) F_f_added.kp (bn_f_added F_f_added) .nil (fun _ => .nil) (trQ_cons (trP_e (trE_n (trN_lst (trA_cons (nV n_f_law_sums_right_2) (trA_cons (nV n_f_law_sums_right_3) (trA_cons (nV n_f_law_sums_right_2) trA_nil)))))) trQ_nil) (by rfl) (by rfl) (by kernel_rfl))) (trP_e (trE_binX (fun E hx => op_ownBin (binB_ok (ob_c_Ratio_add z)) ((G_c_Ratio_add).raw (bn_c_Ratio_add F_c_Ratio_add) .nil) (hr.mono (by decide)) hx) (okX_bin binTy_add) op_addU ok_addU (trP_e (trE_binX (fun E hx => op_ownBin (binB_ok (ob_c_Ratio_add z)) ((G_c_Ratio_add).raw (bn_c_Ratio_add F_c_Ratio_add) .nil) (hr.mono (by decide)) hx) (okX_bin binTy_add) op_addU ok_addU (nP n_f_law_sums_right_2) (nP n_f_law_sums_right_3))) (nP n_f_law_sums_right_2))))))))))))))
/-! Ratio.is_whole -/
def N_c_Ratio_is_whole : List Str := [(PySem.Str.ofString "self")]
def s_c_Ratio_is_whole : Scope := defScope (inClass (top 22) 4)
def b_c_Ratio_is_whole : List Stmt := defBody (inClass (top 22) 4)
theorem sc_c_Ratio_is_whole : FnScope N_c_Ratio_is_whole [(PySem.Str.ofString "self")] s_c_Ratio_is_whole := ⟨rfl, rfl, rfl, by decide +kernel, rfl, by decide +kernel, by decide +kernel⟩
abbrev FD_c_Ratio_is_whole (K : PySem.W.Frag) (fd : FuncData) : Prop := FunD K (PySem.Str.ofString "is_whole") (PySem.Str.ofString "Ratio.is_whole") (defArgs (inClass (top 22) 4)) b_c_Ratio_is_whole s_c_Ratio_is_whole [] [] (inner "property" K (PySem.Str.ofString "Ratio") (PySem.Str.ofString "is_whole")) fd
theorem bn_c_Ratio_is_whole {fd : FuncData} (F : FD_c_Ratio_is_whole K fd) : Binds K fd [(PySem.Str.ofString "self")] [] := F.bindsN fun _ _ _ _ _ _ us hl => match us, hl with | [_], _ => rfl
theorem n_c_Ratio_is_whole_0 : Nm N_c_Ratio_is_whole s_c_Ratio_is_whole 0 (PySem.Str.ofString "self") := nmB_ok (by decide +kernel)
noncomputable def m_c_Ratio_is_whole : MS := (sRet (op2 fEq (mP (op1 (fFld fl_bottom) (mPl 0))) (mP (mC (.int 1)))))
noncomputable def r_c_Ratio_is_whole : List D → OF := runDef none false N_c_Ratio_is_whole.length m_c_Ratio_is_whole
theorem ok_c_Ratio_is_whole (z : Z P w K mg base) : ∃ fd, FD_c_Ratio_is_whole K fd ∧ FK P w K mg base 1 (inner "property" K (PySem.Str.ofString "Ratio") (PySem.Str.ofString "is_whole")) fd [(PySem.Str.ofString "self")] none false r_c_Ratio_is_whole := by
  obtain ⟨fd, F⟩ : ∃ fd, FD_c_Ratio_is_whole K fd := z.s.def_ 34 rfl
  refine ⟨fd, F, ?_⟩
  have nd := sc_c_Ratio_is_whole.nd
  refine fnF F sc_c_Ratio_is_whole fun cdv A outer s H E hr => ?_
  exact (trB_one (trS_ret (trE_cmp (op_eqD hr.units) ok_eq (by rfl) (trP_e (trE_fld rfl (fo_bottom z) (nP n_c_Ratio_is_whole_0))) (trP_e (trE_int)))))
/-! BadText.__init__ -/
def N_c_BadText_init : List Str := [(PySem.Str.ofString "self"), (PySem.Str.ofString "line"), (PySem.Str.ofString "word")]
def s_c_BadText_init : Scope := defScope (inClass (top 12) 0)
def b_c_BadText_init : List Stmt := defBody (inClass (top 12) 0)
theorem sc_c_BadText_init : FnScope N_c_BadText_init [(PySem.Str.ofString "self"), (PySem.Str.ofString "line"), (PySem.Str.ofString "word")] s_c_BadText_init := ⟨rfl, rfl, rfl, by decide +kernel, rfl, by decide +kernel, by decide +kernel⟩
abbrev FD_c_BadText_init (K : PySem.W.Frag) (fd : FuncData) : Prop := FunD K (PySem.Str.ofString "__init__") (PySem.Str.ofString "BadText.__init__") (defArgs (inClass (top 12) 0)) b_c_BadText_init s_c_BadText_init [] [] (He.ma K (He.ga K (PySem.Str.ofString "BadText")) (PySem.Str.ofString "__init__")) fd
theorem bn_c_BadText_init {fd : FuncData} (F : FD_c_BadText_init K fd) : Binds K fd [(PySem.Str.ofString "self"), (PySem.Str.ofString "line"), (PySem.Str.ofString "word")] [] := F.bindsN fun _ _ _ _ _ _ us hl => match us, hl with | [_, _, _], _ => rfl
theorem ok_c_BadText_init (z : Z P w K mg base) : ∃ fd, FD_c_BadText_init K fd ∧ FnOk P w K mg base (L2.CX P w) 1 (He.ma K (He.ga K (PySem.Str.ofString "BadText")) (PySem.Str.ofString "__init__")) fd [(PySem.Str.ofString "self"), (PySem.Str.ofString "line"), (PySem.Str.ofString "word")] (spX (He.ga K (PySem.Str.ofString "BadText")) [(PySem.Str.ofString "line"), (PySem.Str.ofString "word")]) := by
  obtain ⟨fd, F⟩ : ∃ fd, FD_c_BadText_init K fd := z.s.def_ 35 rfl
  refine ⟨fd, F, ?_⟩
  exact fnX (q := ⟨(PySem.Str.ofString "line"), (PySem.Str.ofString "line"), 1, _, _, _, _⟩) (l := [⟨(PySem.Str.ofString "word"), (PySem.Str.ofString "word"), 2, _, _, _, _⟩]) rfl F sc_c_BadText_init rfl rfl (fun j z h => match j, h with | 0, h => by cases h; rfl | 1, h => by cases h; rfl | j + 2, h => by simp at h) (oexB_ok (ox_BadText z)) (fun q hq => by
    rcases List.mem_cons.mp hq with rfl | hq
    · exact xn_BadText_line z
    rcases List.mem_cons.mp hq with rfl | hq
    · exact xn_BadText_word z
    cases hq) (by decide) (fun cdv A outer s H E q hq => by
    rcases List.mem_cons.mp hq with rfl | hq
    · exact ⟨by kernel_rfl, visB_ok (by kernel_rfl), by kernel_rfl, by kernel_rfl, rfl⟩
    rcases List.mem_cons.mp hq with rfl | hq
    · exact ⟨by kernel_rfl, visB_ok (by kernel_rfl), by kernel_rfl, by kernel_rfl, rfl⟩
    cases hq) (by rfl) (visB_ok (by kernel_rfl))
/-! Scan.__init__ -/
def N_c_Scan_init : List Str := [(PySem.Str.ofString "self"), (PySem.Str.ofString "text")]
def s_c_Scan_init : Scope := defScope (inClass (top 16) 0)
def b_c_Scan_init : List Stmt := defBody (inClass (top 16) 0)
theorem sc_c_Scan_init : FnScope N_c_Scan_init [(PySem.Str.ofString "self"), (PySem.Str.ofString "text")] s_c_Scan_init := ⟨rfl, rfl, rfl, by decide +kernel, rfl, by decide +kernel, by decide +kernel⟩
abbrev FD_c_Scan_init (K : PySem.W.Frag) (fd : FuncData) : Prop := FunD K (PySem.Str.ofString "__init__") (PySem.Str.ofString "Scan.__init__") (defArgs (inClass (top 16) 0)) b_c_Scan_init s_c_Scan_init [] [] (He.ma K (He.ga K (PySem.Str.ofString "Scan")) (PySem.Str.ofString "__init__")) fd
theorem bn_c_Scan_init {fd : FuncData} (F : FD_c_Scan_init K fd) : Binds K fd [(PySem.Str.ofString "self"), (PySem.Str.ofString "text")] [] := F.bindsN fun _ _ _ _ _ _ us hl => match us, hl with | [_, _], _ => rfl
theorem n_c_Scan_init_0 : Nm N_c_Scan_init s_c_Scan_init 0 (PySem.Str.ofString "self") := nmB_ok (by decide +kernel)
theorem n_c_Scan_init_1 : Nm N_c_Scan_init s_c_Scan_init 1 (PySem.Str.ofString "text") := nmB_ok (by decide +kernel)
noncomputable def m_c_Scan_init : MS := (sSeq (sIf (tNt (tT (mP (mFn (fIsi t0) (qCons (mPl 1) (qCons (mP (mC (.ty "str"))) qNil)))))) (sRaise 3 2 (aCons (mC (.int 0)) (aCons (mC (.int 0)) aNil))) sNil) (sSeq (sSetF 0 fl_words ((mSplit (mV 1) (mC (.str (PySem.Str.ofString " ")))))) (sSetF 0 fl_at (mC (.int 0)))))
noncomputable def r_c_Scan_init : List D → OF := runDef (some 0) false N_c_Scan_init.length m_c_Scan_init
theorem ok_c_Scan_init (z : Z P w K mg base) : ∃ fd, FD_c_Scan_init K fd ∧ FK P w K mg base 3 (He.ma K (He.ga K (PySem.Str.ofString "Scan")) (PySem.Str.ofString "__init__")) fd [(PySem.Str.ofString "self"), (PySem.Str.ofString "text")] (some 0) false r_c_Scan_init := by
  obtain ⟨fd, F⟩ : ∃ fd, FD_c_Scan_init K fd := z.s.def_ 36 rfl
  obtain ⟨fd_c_BadText_init, F_c_BadText_init, G_c_BadText_init⟩ := ok_c_BadText_init z
  refine ⟨fd, F, ?_⟩
  have nd := sc_c_Scan_init.nd
  refine fnF F sc_c_Scan_init fun cdv A outer s H E hr => ?_
  exact (trB_cons (trS_if (trT_not (trT_p rfl (trP_e (trE_fnB (callR_or call_isi call_isiT) (ok_isi0 (tabok z) rfl rfl) (gl_of (by kernel_rfl)) (g_isinstance z) (by kernel_rfl) (trQ_cons (nP n_c_Scan_init_1) (trQ_cons (trP_e (trE_bty (gl_of (by kernel_rfl)) (g_str z) (by kernel_rfl) (by decide) (by kernel_rfl))) trQ_nil)) (by decide) (by kernel_rfl))))) (trB_one (trS_raise (c := 3) rfl (oexB_ok (ox_BadText z)) (xi_BadText z) (xt_BadText z) G_c_BadText_init (hr.mono (by decide)) (bn_c_BadText_init F_c_BadText_init) (gl_of (by kernel_rfl)) (g_BadText z) (trA_cons (trE_int) (trA_cons (trE_int) trA_nil)) rfl (by decide) (by rfl) (by decide) (by kernel_rfl))) trB_nil)
  (trB_cons (trS_setF rfl (fo_words z) (trE_n (trN_split (nV n_c_Scan_init_1) (trE_str))) (n_c_Scan_init_0).n (n_c_Scan_init_0).v (n_c_Scan_init_0).d (n_c_Scan_init_0).c)
  (trB_one (trS_setF rfl (fo_at z) (trE_int) (n_c_Scan_init_0).n (n_c_Scan_init_0).v (n_c_Scan_init_0).d (n_c_Scan_init_0).c))))
/-! Scan.refuse -/
def N_c_Scan_refuse : List Str := [(PySem.Str.ofString "self")]
def s_c_Scan_refuse : Scope := defScope (inClass (top 16) 3)
def b_c_Scan_refuse : List Stmt := defBody (inClass (top 16) 3)
theorem sc_c_Scan_refuse : FnScope N_c_Scan_refuse [(PySem.Str.ofString "self")] s_c_Scan_refuse := ⟨rfl, rfl, rfl, by decide +kernel, rfl, by decide +kernel, by decide +kernel⟩
abbrev FD_c_Scan_refuse (K : PySem.W.Frag) (fd : FuncData) : Prop := FunD K (PySem.Str.ofString "refuse") (PySem.Str.ofString "Scan.refuse") (defArgs (inClass (top 16) 3)) b_c_Scan_refuse s_c_Scan_refuse [] [] (He.ma K (He.ga K (PySem.Str.ofString "Scan")) (PySem.Str.ofString "refuse")) fd
theorem bn_c_Scan_refuse {fd : FuncData} (F : FD_c_Scan_refuse K fd) : Binds K fd [(PySem.Str.ofString "self")] [] := F.bindsN fun _ _ _ _ _ _ us hl => match us, hl with | [_], _ => rfl
theorem n_c_Scan_refuse_0 : Nm N_c_Scan_refuse s_c_Scan_refuse 0 (PySem.Str.ofString "self") := nmB_ok (by decide +kernel)
noncomputable def m_c_Scan_refuse : MS := (sRaise 3 2 (aCons (mC (.int 0)) (aCons (op1 (fFld fl_at) (mPl 0)) aNil)))
noncomputable def r_c_Scan_refuse : List D → OF := runDef (some 0) false N_c_Scan_refuse.length m_c_Scan_refuse
theorem ok_c_Scan_refuse (z : Z P w K mg base) : ∃ fd, FD_c_Scan_refuse K fd ∧ FK P w K mg base 3 (He.ma K (He.ga K (PySem.Str.ofString "Scan")) (PySem.Str.ofString "refuse")) fd [(PySem.Str.ofString "self")] (some 0) false r_c_Scan_refuse := by
  obtain ⟨fd, F⟩ : ∃ fd, FD_c_Scan_refuse K fd := z.s.def_ 37 rfl
  obtain ⟨fd_c_BadText_init, F_c_BadText_init, G_c_BadText_init⟩ := ok_c_BadText_init z
  refine ⟨fd, F, ?_⟩
  have nd := sc_c_Scan_refuse.nd
  refine fnF F sc_c_Scan_refuse fun cdv A outer s H E hr => ?_
  exact (trB_one (trS_raise (c := 3) rfl (oexB_ok (ox_BadText z)) (xi_BadText z) (xt_BadText z) G_c_BadText_init (hr.mono (by decide)) (bn_c_BadText_init F_c_BadText_init) (gl_of (by kernel_rfl)) (g_BadText z) (trA_cons (trE_int) (trA_cons (trE_fld rfl (fo_at z) (nP n_c_Scan_refuse_0)) trA_nil)) rfl (by decide) (by rfl) (by decide) (by kernel_rfl)))
/-! Scan.finish -/
def N_c_Scan_finish : List Str := [(PySem.Str.ofString "self")]
def s_c_Scan_finish : Scope := defScope (inClass (top 16) 11)
def b_c_Scan_finish : List Stmt := defBody (inClass (top 16) 11)
theorem sc_c_Scan_finish : FnScope N_c_Scan_finish [(PySem.Str.ofString "self")] s_c_Scan_finish := ⟨rfl, rfl, rfl, by decide +kernel, rfl, by decide +kernel, by decide +kernel⟩
abbrev FD_c_Scan_finish (K : PySem.W.Frag) (fd : FuncData) : Prop := FunD K (PySem.Str.ofString "finish") (PySem.Str.ofString "Scan.finish") (defArgs (inClass (top 16) 11)) b_c_Scan_finish s_c_Scan_finish [] [] (He.ma K (He.ga K (PySem.Str.ofString "Scan")) (PySem.Str.ofString "finish")) fd
theorem bn_c_Scan_finish {fd : FuncData} (F : FD_c_Scan_finish K fd) : Binds K fd [(PySem.Str.ofString "self")] [] := F.bindsN fun _ _ _ _ _ _ us hl => match us, hl with | [_], _ => rfl
theorem n_c_Scan_finish_0 : Nm N_c_Scan_finish s_c_Scan_finish 0 (PySem.Str.ofString "self") := nmB_ok (by decide +kernel)
noncomputable def m_c_Scan_finish : MS := (sIf (tB1 (op2 fLtI (mP (op1 (fFld fl_at) (mPl 0))) (mP (mFn (fLen) (qCons (mP (op1 (fFld fl_words) (mPl 0))) qNil))))) (sExpr (mMethD 0 (some 0) 1 [] r_c_Scan_refuse (mPl 0) qNil)) sNil)
noncomputable def r_c_Scan_finish : List D → OF := runDef (some 0) false N_c_Scan_finish.length m_c_Scan_finish
theorem ok_c_Scan_finish (z : Z P w K mg base) : ∃ fd, FD_c_Scan_finish K fd ∧ FK P w K mg base 4 (He.ma K (He.ga K (PySem.Str.ofString "Scan")) (PySem.Str.ofString "finish")) fd [(PySem.Str.ofString "self")] (some 0) false r_c_Scan_finish := by
  obtain ⟨fd, F⟩ : ∃ fd, FD_c_Scan_finish K fd := z.s.def_ 38 rfl
  obtain ⟨fd_c_Scan_refuse, F_c_Scan_refuse, G_c_Scan_refuse⟩ := ok_c_Scan_refuse z
  refine ⟨fd, F, ?_⟩
  have nd := sc_c_Scan_finish.nd
  refine fnF F sc_c_Scan_finish fun cdv A outer s H E hr => ?_
  exact (trB_one (trS_if (trT_cmp op_lt ok_ltI (by rfl) (trP_e (trE_fld rfl (fo_at z) (nP n_c_Scan_finish_0))) (trP_e (trE_fnB (call_len_seq.or call_len_str) ok_len (gl_of (by kernel_rfl)) (g_len z) (by kernel_rfl) (trQ_cons (trP_e (trE_fld rfl (fo_words z) (nP n_c_Scan_finish_0))) trQ_nil) (by decide) (by kernel_rfl)))) (trB_one (trS_expr (trE_meth0 (c := 0) (pl := _) (clsB_ok (cl_Scan z)) (me_c_Scan_refuse z) (by kernel_rfl) G_c_Scan_refuse (hr.mono (by decide)) (bn_c_Scan_refuse F_c_Scan_refuse) .nil (fun _ => .nil) (nP n_c_Scan_finish_0)))) trB_nil))
/-! Scan.is_over -/
def N_c_Scan_is_over : List Str := [(PySem.Str.ofString "self")]
def s_c_Scan_is_over : Scope := defScope (inClass (top 16) 1)
def b_c_Scan_is_over : List Stmt := defBody (inClass (top 16) 1)
theorem sc_c_Scan_is_over : FnScope N_c_Scan_is_over [(PySem.Str.ofString "self")] s_c_Scan_is_over := ⟨rfl, rfl, rfl, by decide +kernel, rfl, by decide +kernel, by decide +kernel⟩
abbrev FD_c_Scan_is_over (K : PySem.W.Frag) (fd : FuncData) : Prop := FunD K (PySem.Str.ofString "is_over") (PySem.Str.ofString "Scan.is_over") (defArgs (inClass (top 16) 1)) b_c_Scan_is_over s_c_Scan_is_over [] [] (He.ma K (He.ga K (PySem.Str.ofString "Scan")) (PySem.Str.ofString "is_over")) fd
theorem bn_c_Scan_is_over {fd : FuncData} (F : FD_c_Scan_is_over K fd) : Binds K fd [(PySem.Str.ofString "self")] [] := F.bindsN fun _ _ _ _ _ _ us hl => match us, hl with | [_], _ => rfl
theorem n_c_Scan_is_over_0 : Nm N_c_Scan_is_over s_c_Scan_is_over 0 (PySem.Str.ofString "self") := nmB_ok (by decide +kernel)
noncomputable def m_c_Scan_is_over : MS := (sRet (op2 fGeI (mP (op1 (fFld fl_at) (mPl 0))) (mP (mFn (fLen) (qCons (mP (op1 (fFld fl_words) (mPl 0))) qNil)))))
noncomputable def r_c_Scan_is_over : List D → OF := runDef (some 0) false N_c_Scan_is_over.length m_c_Scan_is_over
theorem ok_c_Scan_is_over (z : Z P w K mg base) : ∃ fd, FD_c_Scan_is_over K fd ∧ FK P w K mg base 1 (He.ma K (He.ga K (PySem.Str.ofString "Scan")) (PySem.Str.ofString "is_over")) fd [(PySem.Str.ofString "self")] (some 0) false r_c_Scan_is_over := by
  obtain ⟨fd, F⟩ : ∃ fd, FD_c_Scan_is_over K fd := z.s.def_ 39 rfl
  refine ⟨fd, F, ?_⟩
  have nd := sc_c_Scan_is_over.nd
  refine fnF F sc_c_Scan_is_over fun cdv A outer s H E hr => ?_
  exact (trB_one (trS_ret (trE_cmp op_ge ok_geI (by rfl) (trP_e (trE_fld rfl (fo_at z) (nP n_c_Scan_is_over_0))) (trP_e (trE_fnB (call_len_seq.or call_len_str) ok_len (gl_of (by kernel_rfl)) (g_len z) (by kernel_rfl) (trQ_cons (trP_e (trE_fld rfl (fo_words z) (nP n_c_Scan_is_over_0))) trQ_nil) (by decide) (by kernel_rfl))))))
/-! Scan.seen -/
def N_c_Scan_seen : List Str := [(PySem.Str.ofString "self")]
def s_c_Scan_seen : Scope := defScope (inClass (top 16) 2)
def b_c_Scan_seen : List Stmt := defBody (inClass (top 16) 2)
theorem sc_c_Scan_seen : FnScope N_c_Scan_seen [(PySem.Str.ofString "self")] s_c_Scan_seen := ⟨rfl, rfl, rfl, by decide +kernel, rfl, by decide +kernel, by decide +kernel⟩
abbrev FD_c_Scan_seen (K : PySem.W.Frag) (fd : FuncData) : Prop := FunD K (PySem.Str.ofString "seen") (PySem.Str.ofString "Scan.seen") (defArgs (inClass (top 16) 2)) b_c_Scan_seen s_c_Scan_seen [] [] (He.ma K (He.ga K (PySem.Str.ofString "Scan")) (PySem.Str.ofString "seen")) fd
theorem bn_c_Scan_seen {fd : FuncData} (F : FD_c_Scan_seen K fd) : Binds K fd [(PySem.Str.ofString "self")] [] := F.bindsN fun _ _ _ _ _ _ us hl => match us, hl with | [_], _ => rfl
theorem n_c_Scan_seen_0 : Nm N_c_Scan_seen s_c_Scan_seen 0 (PySem.Str.ofString "self") := nmB_ok (by decide +kernel)
noncomputable def m_c_Scan_seen : MS := (sSeq (sIf (tB1 (op2 fGeI (mP (op1 (fFld fl_at) (mPl 0))) (mP (mFn (fLen) (qCons (mP (op1 (fFld fl_words) (mPl 0))) qNil))))) (sRet (mC .non)) sNil) (sRet (op2 fIx (mP (op1 (fFld fl_words) (mPl 0))) (mP (op1 (fFld fl_at) (mPl 0))))))
noncomputable def r_c_Scan_seen : List D → OF := runDef (some 0) false N_c_Scan_seen.length m_c_Scan_seen
theorem ok_c_Scan_seen (z : Z P w K mg base) : ∃ fd, FD_c_Scan_seen K fd ∧ FK P w K mg base 1 (He.ma K (He.ga K (PySem.Str.ofString "Scan")) (PySem.Str.ofString "seen")) fd [(PySem.Str.ofString "self")] (some 0) false r_c_Scan_seen := by
  obtain ⟨fd, F⟩ : ∃ fd, FD_c_Scan_seen K fd := z.s.def_ 40 rfl
  refine ⟨fd, F, ?_⟩
  have nd := sc_c_Scan_seen.nd
  refine fnF F sc_c_Scan_seen fun cdv A outer s H E hr => ?_
  exact (trB_cons (trS_if (trT_cmp op_ge ok_geI (by rfl) (trP_e (trE_fld rfl (fo_at z) (nP n_c_Scan_seen_0))) (trP_e (trE_fnB (call_len_seq.or call_len_str) ok_len (gl_of (by kernel_rfl)) (g_len z) (by kernel_rfl) (trQ_cons (trP_e (trE_fld rfl (fo_words z) (nP n_c_Scan_seen_0))) trQ_nil) (by decide) (by kernel_rfl)))) (trB_one (trS_ret (trE_non))) trB_nil)
  (trB_one (trS_ret (trE_ix ix_seq ok_ix (trP_e (trE_fld rfl (fo_words z) (nP n_c_Scan_seen_0))) (trP_e (trE_fld rfl (fo_at z) (nP n_c_Scan_seen_0)))))))
/-! Scan.take -/
def N_c_Scan_take : List Str := [(PySem.Str.ofString "self"), (PySem.Str.ofString "word")]
def s_c_Scan_take : Scope := defScope (inClass (top 16) 5)
def b_c_Scan_take : List Stmt := defBody (inClass (top 16) 5)
theorem sc_c_Scan_take : FnScope N_c_Scan_take [(PySem.Str.ofString "self")] s_c_Scan_take := ⟨rfl, rfl, rfl, by decide +kernel, rfl, by decide +kernel, by decide +kernel⟩
abbrev FD_c_Scan_take (K : PySem.W.Frag) (fd : FuncData) : Prop := FunD K (PySem.Str.ofString "take") (PySem.Str.ofString "Scan.take") (defArgs (inClass (top 16) 5)) b_c_Scan_take s_c_Scan_take [] [] (He.ma K (He.ga K (PySem.Str.ofString "Scan")) (PySem.Str.ofString "take")) fd
theorem bn_c_Scan_take {fd : FuncData} (F : FD_c_Scan_take K fd) : Binds K fd [(PySem.Str.ofString "self")] [] := F.bindsN fun _ _ _ _ _ _ us hl => match us, hl with | [_], _ => rfl
theorem n_c_Scan_take_0 : Nm N_c_Scan_take s_c_Scan_take 0 (PySem.Str.ofString "self") := nmB_ok (by decide +kernel)
theorem n_c_Scan_take_1 : Nm N_c_Scan_take s_c_Scan_take 1 (PySem.Str.ofString "word") := nmB_ok (by decide +kernel)
noncomputable def m_c_Scan_take : MS := (sSeq (sSet 1 (mMethD 0 (some 0) 1 [] r_c_Scan_seen (mPl 0) qNil)) (sSeq (sIf (tB1 (op2 fIsN (mPl 1) (mP (mC .non)))) (sExpr (mMethD 0 (some 0) 1 [] r_c_Scan_refuse (mPl 0) qNil)) sNil) (sSeq (sSetF 0 fl_at (op2 fAdd (mP (op1 (fFld fl_at) (mPl 0))) (mP (mC (.int 1))))) (sRet (mV 1)))))
noncomputable def r_c_Scan_take : List D → OF := runDef (some 0) false N_c_Scan_take.length m_c_Scan_take
theorem ok_c_Scan_take (z : Z P w K mg base) : ∃ fd, FD_c_Scan_take K fd ∧ FK P w K mg base 4 (He.ma K (He.ga K (PySem.Str.ofString "Scan")) (PySem.Str.ofString "take")) fd [(PySem.Str.ofString "self")] (some 0) false r_c_Scan_take := by
  obtain ⟨fd, F⟩ : ∃ fd, FD_c_Scan_take K fd := z.s.def_ 41 rfl
  obtain ⟨fd_c_Scan_seen, F_c_Scan_seen, G_c_Scan_seen⟩ := ok_c_Scan_seen z
  obtain ⟨fd_c_Scan_refuse, F_c_Scan_refuse, G_c_Scan_refuse⟩ := ok_c_Scan_refuse z
  refine ⟨fd, F, ?_⟩
  have nd := sc_c_Scan_take.nd
  refine fnF F sc_c_Scan_take fun cdv A outer s H E hr => ?_
  exact (trB_cons (trS_set nd (trE_meth0 (c := 0) (pl := _) (clsB_ok (cl_Scan z)) (me_c_Scan_seen z) (by kernel_rfl) G_c_Scan_seen (hr.mono (by decide)) (bn_c_Scan_seen F_c_Scan_seen) .nil (fun _ => .nil) (nP n_c_Scan_take_0)) (by kernel_rfl) (locB_ok (by kernel_rfl)) (by rfl) (hf_of (by kernel_rfl)))
  (trB_cons (trS_if (trT_cmp op_isN ok_isN (by rfl) (nP n_c_Scan_take_1) (trP_e (trE_non))) (trB_one (trS_expr (trE_meth0 (c := 0) (pl := _) (clsB_ok (cl_Scan z)) (me_c_Scan_refuse z) (by kernel_rfl) G_c_Scan_refuse (hr.mono (by decide)) (bn_c_Scan_refuse F_c_Scan_refuse) .nil (fun _ => .nil) (nP n_c_Scan_take_0)))) trB_nil)
  (trB_cons (trS_setF rfl (fo_at z) (trE_bin op_addU ok_addU (trP_e (trE_fld rfl (fo_at z) (nP n_c_Scan_take_0))) (trP_e (trE_int))) (n_c_Scan_take_0).n (n_c_Scan_take_0).v (n_c_Scan_take_0).d (n_c_Scan_take_0).c)
  (trB_one (trS_ret (nV n_c_Scan_take_1))))))
/-! number_in -/
def N_f_number_in : List Str := [(PySem.Str.ofString "word"), (PySem.Str.ofString "body"), (PySem.Str.ofString "sign")]
def s_f_number_in : Scope := defScope (top 15)
def b_f_number_in : List Stmt := defBody (top 15)
theorem sc_f_number_in : FnScope N_f_number_in [(PySem.Str.ofString "word")] s_f_number_in := ⟨rfl, rfl, rfl, by decide +kernel, rfl, by decide +kernel, by decide +kernel⟩
abbrev FD_f_number_in (K : PySem.W.Frag) (fd : FuncData) : Prop := FunD K (PySem.Str.ofString "number_in") (PySem.Str.ofString "number_in") (defArgs (top 15)) b_f_number_in s_f_number_in [] [] (He.ga K (PySem.Str.ofString "number_in")) fd
theorem bn_f_number_in {fd : FuncData} (F : FD_f_number_in K fd) : Binds K fd [(PySem.Str.ofString "word")] [] := F.bindsN fun _ _ _ _ _ _ us hl => match us, hl with | [_], _ => rfl
theorem n_f_number_in_0 : Nm N_f_number_in s_f_number_in 0 (PySem.Str.ofString "word") := nmB_ok (by decide +kernel)
theorem n_f_number_in_1 : Nm N_f_number_in s_f_number_in 1 (PySem.Str.ofString "body") := nmB_ok (by decide +kernel)
theorem n_f_number_in_2 : Nm N_f_number_in s_f_number_in 2 (PySem.Str.ofString "sign") := nmB_ok (by decide +kernel)
noncomputable def m_f_number_in : MS := (sSeq (sSet 1 (mIf (tB1 (op2 fEq (mP ((mAlt (mSl fSl (mPl 0) oNo (oSo (mC (.int 1)))) (mSl fSlN (mPl 0) oNo (oSo (mC (.int 1))))))) (mP (mC (.str (PySem.Str.ofString "-")))))) ((mAlt (mSl fSl (mPl 0) (oSo (mC (.int 1))) oNo) (mSl fSlN (mPl 0) (oSo (mC (.int 1))) oNo))) (mV 0))) (sSeq (sIf (tNt (tB1 (mChain fLeI fLeI (mC (.int 1)) (mFn (fLen) (qCons (mPl 1) qNil)) (mC (.int 60))))) (sRet (mC .non)) sNil) (sSeq (sFor (iStr (mV 1)) (gNm 2) (sIf (tB1 (op2 fNi (mPl 2) (mP (mC (.str (PySem.Str.ofString "0123456789")))))) (sRet (mC .non)) sNil)) (sSeq (sIf ((tAn (tB1 (op2 fEq (mP (op2 fIx (mPl 1) (mP (mC (.int 0))))) (mP (mC (.str (PySem.Str.ofString "0")))))) (tB1 (op2 fNe (mPl 0) (mP (mC (.str (PySem.Str.ofString "0")))))))) (sRet (mC .non)) sNil) (sRet (mFn (fIntU) (qCons (mPl 0) qNil)))))))
noncomputable def r_f_number_in : List D → OF := runDef none false N_f_number_in.length m_f_number_in
theorem ok_f_number_in (z : Z P w K mg base) : ∃ fd, FD_f_number_in K fd ∧ FK P w K mg base 1 (He.ga K (PySem.Str.ofString "number_in")) fd [(PySem.Str.ofString "word")] none false r_f_number_in := by
  obtain ⟨fd, F⟩ : ∃ fd, FD_f_number_in K fd := z.s.def_ 42 rfl
  refine ⟨fd, F, ?_⟩
  have nd := sc_f_number_in.nd
  refine fnF F sc_f_number_in fun cdv A outer s H E hr => ?_
  exact (trB_cons (trS_set nd (trE_if (trT_cmp (op_eqD hr.units) ok_eq (by rfl) (trP_e ((trE_alt (trE_sl rfl (nP n_f_number_in_0) trO_no (trO_so (trE_int))) (trE_n (trN_sl rfl (nP n_f_number_in_0) trO_no (trO_so (trE_int))))))) (trP_e (trE_str))) ((trE_alt (trE_sl rfl (nP n_f_number_in_0) (trO_so (trE_int)) trO_no) (trE_n (trN_sl rfl (nP n_f_number_in_0) (trO_so (trE_int)) trO_no)))) (nV n_f_number_in_0)) (by kernel_rfl) (locB_ok (by kernel_rfl)) (by rfl) (hf_of (by kernel_rfl)))
  (trB_cons (trS_if (trT_not (trT_chain op_le op_le ok_leI ok_leI (trE_int) (trE_fnB (call_len_seq.or call_len_str) ok_len (gl_of (by kernel_rfl)) (g_len z) (by kernel_rfl) (trQ_cons (nP n_f_number_in_1) trQ_nil) (by decide) (by kernel_rfl)) (trE_glob (gl_of (by kernel_rfl)) (gc_MOST_DIGITS z).choose_spec.1 (gc_MOST_DIGITS z).choose_spec.2 (fun _ => is_int.mpr rfl) (by kernel_rfl)))) (trB_one (trS_ret (trE_non))) trB_nil)
  (trB_cons (trS_for rfl (trI_str (nV n_f_number_in_1)) (trG_name nd (by kernel_rfl) (locB_ok (by kernel_rfl)) (hf_of (by kernel_rfl))) (trB_one (trS_if (trT_cmp (op_niU hr.units65) ok_niU (by rfl) (nP n_f_number_in_2) (trP_e (trE_glob (gl_of (by kernel_rfl)) (gc_DIGITS z).choose_spec.1 (gc_DIGITS z).choose_spec.2 (fun _ => is_str.mpr rfl) (by kernel_rfl)))) (trB_one (trS_ret (trE_non))) trB_nil)))
  (trB_cons (trS_if (trT_w (trW_and (trT_cmp (op_eqD hr.units) ok_eq (by rfl) (trP_e (trE_ix ix_seq ok_ix (nP n_f_number_in_1) (trP_e (trE_int)))) (trP_e (trE_str))) (trW_and1 (trT_cmp (op_neD hr.units) ok_ne (by rfl) (nP n_f_number_in_0) (trP_e (trE_str)))))) (trB_one (trS_ret (trE_non))) trB_nil)
  (trB_one (trS_ret (trE_fnT (callR_or call_int1 call_int_str) ok_intU (gl_of (by kernel_rfl)) (g_int z) (by kernel_rfl) (trQ_cons (nP n_f_number_in_0) trQ_nil) (by decide) (by kernel_rfl))))))))
/-! ratio_in -/
def N_f_ratio_in : List Str := [(PySem.Str.ofString "word"), (PySem.Str.ofString "parts"), (PySem.Str.ofString "top"), (PySem.Str.ofString "bottom")]
def s_f_ratio_in : Scope := defScope (top 20)
def b_f_ratio_in : List Stmt := defBody (top 20)
theorem sc_f_ratio_in : FnScope N_f_ratio_in [(PySem.Str.ofString "word")] s_f_ratio_in := ⟨rfl, rfl, rfl, by decide +kernel, rfl, by decide +kernel, by decide +kernel⟩
abbrev FD_f_ratio_in (K : PySem.W.Frag) (fd : FuncData) : Prop := FunD K (PySem.Str.ofString "ratio_in") (PySem.Str.ofString "ratio_in") (defArgs (top 20)) b_f_ratio_in s_f_ratio_in [] [] (He.ga K (PySem.Str.ofString "ratio_in")) fd
theorem bn_f_ratio_in {fd : FuncData} (F : FD_f_ratio_in K fd) : Binds K fd [(PySem.Str.ofString "word")] [] := F.bindsN fun _ _ _ _ _ _ us hl => match us, hl with | [_], _ => rfl
theorem n_f_ratio_in_0 : Nm N_f_ratio_in s_f_ratio_in 0 (PySem.Str.ofString "word") := nmB_ok (by decide +kernel)
theorem n_f_ratio_in_1 : Nm N_f_ratio_in s_f_ratio_in 1 (PySem.Str.ofString "parts") := nmB_ok (by decide +kernel)
theorem n_f_ratio_in_2 : Nm N_f_ratio_in s_f_ratio_in 2 (PySem.Str.ofString "top") := nmB_ok (by decide +kernel)
theorem n_f_ratio_in_3 : Nm N_f_ratio_in s_f_ratio_in 3 (PySem.Str.ofString "bottom") := nmB_ok (by decide +kernel)
noncomputable def m_f_ratio_in : MS := (sSeq (sSet 1 ((mSplit (mV 0) (mC (.str (PySem.Str.ofString "/")))))) (sSeq (sSet 2 (mCallD none 1 [] r_f_number_in (qCons (mP (op2 fIx (mPl 1) (mP (mC (.int 0))))) qNil))) (sSeq (sIf ((tOr2 (tB1 (op2 fIsN (mPl 2) (mP (mC .non)))) (tB1 (op2 fGtI (mP (mFn (fLen) (qCons (mPl 1) qNil))) (mP (mC (.int 2))))))) (sRet (mC .non)) sNil) (sSeq (sIf (tB1 (op2 fEq (mP (mFn (fLen) (qCons (mPl 1) qNil))) (mP (mC (.int 1))))) (sRet ((mMake 1 1 [.int 1] r_c_Ratio_init (aCons (mV 2) aNil)))) sNil) (sSeq (sSet 3 (mCallD none 1 [] r_f_number_in (qCons (mP (op2 fIx (mPl 1) (mP (mC (.int 1))))) qNil))) (sSeq (sIf ((tOr2 (tB1 (op2 fIsN (mPl 3) (mP (mC .non)))) (tOr2 (tB1 (op2 fLtI (mPl 3) (mP (mC (.int 2))))) (tB1 (op2 fNe (mP (mFn fGcd (qCons (mPl 2) (qCons (mPl 3) qNil)))) (mP (mC (.int 1)))))))) (sRet (mC .non)) sNil) (sRet ((mMake 1 2 [] r_c_Ratio_init (aCons (mV 2) (aCons (mV 3) aNil)))))))))))
noncomputable def r_f_ratio_in : List D → OF := runDef none false N_f_ratio_in.length m_f_ratio_in
theorem ok_f_ratio_in (z : Z P w K mg base) : ∃ fd, FD_f_ratio_in K fd ∧ FK P w K mg base 5 (He.ga K (PySem.Str.ofString "ratio_in")) fd [(PySem.Str.ofString "word")] none false r_f_ratio_in := by
  obtain ⟨fd, F⟩ : ∃ fd, FD_f_ratio_in K fd := z.s.def_ 43 rfl
  obtain ⟨fd_f_number_in, F_f_number_in, G_f_number_in⟩ := ok_f_number_in z
  obtain ⟨fd_c_Ratio_init, F_c_Ratio_init, G_c_Ratio_init⟩ := ok_c_Ratio_init z
  refine ⟨fd, F, ?_⟩
  have nd := sc_f_ratio_in.nd
  refine fnF F sc_f_ratio_in fun cdv A outer s H E hr => ?_
  exact (trB_cons (trS_set nd (trE_n (trN_split (nV n_f_ratio_in_0) (trE_str))) (by kernel_rfl) (locB_ok (by kernel_rfl)) (by rfl) (hf_of (by kernel_rfl)))
  (trB_cons (trS_set nd (trE_callD G_f_number_in (hr.mono (by decide)) (gl_of (by kernel_rfl)) (g_number_in z) F_f_number_in.kp (bn_f_number_in F_f_number_in) .nil (fun _ => .nil) (trQ_cons (trP_e (trE_ix ix_seq ok_ix (nP n_f_ratio_in_1) (trP_e (trE_int)))) trQ_nil) (by rfl) (by rfl) (by kernel_rfl)) (by kernel_rfl) (locB_ok (by kernel_rfl)) (by rfl) (hf_of (by kernel_rfl)))
  (trB_cons (trS_if (trT_w (trW_or (trT_cmp op_isN ok_isN (by rfl) (nP n_f_ratio_in_2) (trP_e (trE_non))) (trW_or1 (trT_cmp op_gt ok_gtI (by rfl) (trP_e (trE_fnB (call_len_seq.or call_len_str) ok_len (gl_of (by kernel_rfl)) (g_len z) (by kernel_rfl) (trQ_cons (nP n_f_ratio_in_1) trQ_nil) (by decide) (by kernel_rfl))) (trP_e (trE_int)))))) (trB_one (trS_ret (trE_non))) trB_nil)
  (trB_cons (trS_if (trT_cmp (op_eqD hr.units) ok_eq (by rfl) (trP_e (trE_fnB (call_len_seq.or call_len_str) ok_len (gl_of (by kernel_rfl)) (g_len z) (by kernel_rfl) (trQ_cons (nP n_f_ratio_in_1) trQ_nil) (by decide) (by kernel_rfl))) (trP_e (trE_int))) (trB_one (trS_ret (trE_n (trN_make (c := 1) (He.mkr_ok (mk_Ratio z)) G_c_Ratio_init (hr.mono (by decide)) (gl_of (by kernel_rfl)) (g_Ratio z) (bd1_c_Ratio_init F_c_Ratio_init).choose_spec.2 (bd1_c_Ratio_init F_c_Ratio_init).choose_spec.1 (fun _ => .cons (is_int.mpr rfl) .nil) (trA_cons (nV n_f_ratio_in_2) trA_nil) (by rfl) (by kernel_rfl))))) trB_nil)
  (trB_cons (trS_set nd (trE_callD G_f_number_in (hr.mono (by decide)) (gl_of (by kernel_rfl)) (g_number_in z) F_f_number_in.kp (bn_f_number_in F_f_number_in) .nil (fun _ => .nil) (trQ_cons (trP_e (trE_ix ix_seq ok_ix (nP n_f_ratio_in_1) (trP_e (trE_int)))) trQ_nil) (by rfl) (by rfl) (by kernel_rfl)) (by kernel_rfl) (locB_ok (by kernel_rfl)) (by rfl) (hf_of (by kernel_rfl)))
  (trB_cons (trS_if (trT_w (trW_or (trT_cmp op_isN ok_isN (by rfl) (nP n_f_ratio_in_3) (trP_e (trE_non))) (trW_or (trT_cmp op_lt ok_ltI (by rfl) (nP n_f_ratio_in_3) (trP_e (trE_int))) (trW_or1 (trT_cmp (op_neD hr.units) ok_ne (by rfl) (trP_e (trE_fnI cr_gcd ok_gcd (gl_of (by kernel_rfl)) (g_gcd z) (trQ_cons (nP n_f_ratio_in_2) (trQ_cons (nP n_f_ratio_in_3) trQ_nil)) (by kernel_rfl))) (trP_e (trE_int))))))) (trB_one (trS_ret (trE_non))) trB_nil)
  (trB_one (trS_ret (trE_n (trN_make (c := 1) (He.mkr_ok (mk_Ratio z)) G_c_Ratio_init (hr.mono (by decide)) (gl_of (by kernel_rfl)) (g_Ratio z) (bd0_c_Ratio_init F_c_Ratio_init).choose_spec.2 (bd0_c_Ratio_init F_c_Ratio_init).choose_spec.1 (fun _ => .nil) (trA_cons (nV n_f_ratio_in_2) (trA_cons (nV n_f_ratio_in_3) trA_nil)) (by rfl) (by kernel_rfl)))))))))))
/-! take_ratio -/
def N_f_take_ratio : List Str := [(PySem.Str.ofString "scan"), (PySem.Str.ofString "found")]
def s_f_take_ratio : Scope := defScope (top 21)
def b_f_take_ratio : List Stmt := defBody (top 21)
theorem sc_f_take_ratio : FnScope N_f_take_ratio [(PySem.Str.ofString "scan")] s_f_take_ratio := ⟨rfl, rfl, rfl, by decide +kernel, rfl, by decide +kernel, by decide +kernel⟩
abbrev FD_f_take_ratio (K : PySem.W.Frag) (fd : FuncData) : Prop := FunD K (PySem.Str.ofString "take_ratio") (PySem.Str.ofString "take_ratio") (defArgs (top 21)) b_f_take_ratio s_f_take_ratio [] [] (He.ga K (PySem.Str.ofString "take_ratio")) fd
theorem bn_f_take_ratio {fd : FuncData} (F : FD_f_take_ratio K fd) : Binds K fd [(PySem.Str.ofString "scan")] [] := F.bindsN fun _ _ _ _ _ _ us hl => match us, hl with | [_], _ => rfl
theorem n_f_take_ratio_0 : Nm N_f_take_ratio s_f_take_ratio 0 (PySem.Str.ofString "scan") := nmB_ok (by decide +kernel)
theorem n_f_take_ratio_1 : Nm N_f_take_ratio s_f_take_ratio 1 (PySem.Str.ofString "found") := nmB_ok (by decide +kernel)
noncomputable def m_f_take_ratio : MS := (sSeq (sSet 1 (mIf (tT (mP (mMethD 0 (some 0) 1 [] r_c_Scan_is_over (mPl 0) qNil))) (mC .non) (mCallD none 1 [] r_f_ratio_in (qCons (mP (mMethD 0 (some 0) 1 [] r_c_Scan_seen (mPl 0) qNil)) qNil)))) (sSeq (sIf (tB1 (op2 fIsN (mPl 1) (mP (mC .non)))) (sExpr (mMethD 0 (some 0) 1 [] r_c_Scan_refuse (mPl 0) qNil)) sNil) (sSeq (sExpr (mMethD 0 (some 0) 1 [] r_c_Scan_take (mPl 0) qNil)) (sRet (mV 1)))))
noncomputable def r_f_take_ratio : List D → OF := runDef (some 0) false N_f_take_ratio.length m_f_take_ratio
theorem ok_f_take_ratio (z : Z P w K mg base) : ∃ fd, FD_f_take_ratio K fd ∧ FK P w K mg base 6 (He.ga K (PySem.Str.ofString "take_ratio")) fd [(PySem.Str.ofString "scan")] (some 0) false r_f_take_ratio := by
  obtain ⟨fd, F⟩ : ∃ fd, FD_f_take_ratio K fd := z.s.def_ 44 rfl
  obtain ⟨fd_c_Scan_is_over, F_c_Scan_is_over, G_c_Scan_is_over⟩ := ok_c_Scan_is_over z
  obtain ⟨fd_f_ratio_in, F_f_ratio_in, G_f_ratio_in⟩ := ok_f_ratio_in z
  obtain ⟨fd_c_Scan_seen, F_c_Scan_seen, G_c_Scan_seen⟩ := ok_c_Scan_seen z
  obtain ⟨fd_c_Scan_refuse, F_c_Scan_refuse, G_c_Scan_refuse⟩ := ok_c_Scan_refuse z
  obtain ⟨fd_c_Scan_take, F_c_Scan_take, G_c_Scan_take⟩ := ok_c_Scan_take z
  refine ⟨fd, F, ?_⟩
  have nd := sc_f_take_ratio.nd
  refine fnF F sc_f_take_ratio fun cdv A outer s H E hr => ?_
  exact (trB_cons (trS_set nd (trE_if (trT_p rfl (trP_e (trE_meth0 (c := 0) (pl := _) (clsB_ok (cl_Scan z)) (me_c_Scan_is_over z) (by kernel_rfl) G_c_Scan_is_over (hr.mono (by decide)) (bn_c_Scan_is_over F_c_Scan_is_over) .nil (fun _ => .nil) (nP n_f_take_ratio_0)))) (trE_non) (trE_callD G_f_ratio_in (hr.mono (by decide)) (gl_of (by kernel_rfl)) (g_ratio_in z) F_f_ratio_in.kp (bn_f_ratio_in F_f_ratio_in) .nil (fun _ => .nil) (trQ_cons (trP_e (trE_meth0 (c := 0) (pl := _) (clsB_ok (cl_Scan z)) (me_c_Scan_seen z) (by kernel_rfl) G_c_Scan_seen (hr.mono (by decide)) (bn_c_Scan_seen F_c_Scan_seen) .nil (fun _ => .nil) (nP n_f_take_ratio_0))) trQ_nil) (by rfl) (by rfl) (by kernel_rfl))) (by kernel_rfl) (locB_ok (by kernel_rfl)) (by rfl) (hf_of (by kernel_rfl)))
  (trB_cons (trS_if (trT_cmp op_isN ok_isN (by rfl) (nP n_f_take_ratio_1) (trP_e (trE_non))) (trB_one (trS_expr (trE_meth0 (c := 0) (pl := _) (clsB_ok (cl_Scan z)) (me_c_Scan_refuse z) (by kernel_rfl) G_c_Scan_refuse (hr.mono (by decide)) (bn_c_Scan_refuse F_c_Scan_refuse) .nil (fun _ => .nil) (nP n_f_take_ratio_0)))) trB_nil)
  (trB_cons (trS_expr (trE_meth0 (c := 0) (pl := _) (clsB_ok (cl_Scan z)) (me_c_Scan_take z) (by kernel_rfl) G_c_Scan_take (hr.mono (by decide)) (bn_c_Scan_take F_c_Scan_take) .nil (fun _ => .nil) (nP n_f_take_ratio_0)))
  (trB_one (trS_ret (nV n_f_take_ratio_1))))))
/-! Ratio.read -/
def N_c_Ratio_read : List Str := [(PySem.Str.ofString "cls"), (PySem.Str.ofString "text"), (PySem.Str.ofString "scan"), (PySem.Str.ofString "found")]
def s_c_Ratio_read : Scope := defScope (inClass (top 22) 2)
def b_c_Ratio_read : List Stmt := defBody (inClass (top 22) 2)
theorem sc_c_Ratio_read : FnScope N_c_Ratio_read [(PySem.Str.ofString "cls"), (PySem.Str.ofString "text")] s_c_Ratio_read := ⟨rfl, rfl, rfl, by decide +kernel, rfl, by decide +kernel, by decide +kernel⟩
abbrev FD_c_Ratio_read (K : PySem.W.Frag) (fd : FuncData) : Prop := FunD K (PySem.Str.ofString "read") (PySem.Str.ofString "Ratio.read") (defArgs (inClass (top 22) 2)) b_c_Ratio_read s_c_Ratio_read [] [] (inner "classmethod" K (PySem.Str.ofString "Ratio") (PySem.Str.ofString "read")) fd
theorem bn_c_Ratio_read {fd : FuncData} (F : FD_c_Ratio_read K fd) : Binds K fd [(PySem.Str.ofString "cls"), (PySem.Str.ofString "text")] [] := F.bindsN fun _ _ _ _ _ _ us hl => match us, hl with | [_, _], _ => rfl
theorem n_c_Ratio_read_0 : Nm N_c_Ratio_read s_c_Ratio_read 0 (PySem.Str.ofString "cls") := nmB_ok (by decide +kernel)
theorem n_c_Ratio_read_1 : Nm N_c_Ratio_read s_c_Ratio_read 1 (PySem.Str.ofString "text") := nmB_ok (by decide +kernel)
theorem n_c_Ratio_read_2 : Nm N_c_Ratio_read s_c_Ratio_read 2 (PySem.Str.ofString "scan") := nmB_ok (by decide +kernel)
theorem n_c_Ratio_read_3 : Nm N_c_Ratio_read s_c_Ratio_read 3 (PySem.Str.ofString "found") := nmB_ok (by decide +kernel)
noncomputable def m_c_Ratio_read : MS := (sSeq (sSetN 2 (mMake 0 1 [] r_c_Scan_init (aCons (mV 1) aNil))) (sSeq (sSet 3 (mCallD (some 0) 1 [] r_f_take_ratio (qCons (mPl 2) qNil))) (sSeq (sExpr (mMethD 0 (some 0) 1 [] r_c_Scan_finish (mPl 2) qNil)) (sRet (mV 3)))))
noncomputable def r_c_Ratio_read : List D → OF := runDef none false N_c_Ratio_read.length m_c_Ratio_read
theorem ok_c_Ratio_read (z : Z P w K mg base) : ∃ fd, FD_c_Ratio_read K fd ∧ FK P w K mg base 7 (inner "classmethod" K (PySem.Str.ofString "Ratio") (PySem.Str.ofString "read")) fd [(PySem.Str.ofString "cls"), (PySem.Str.ofString "text")] none false r_c_Ratio_read := by
  obtain ⟨fd, F⟩ : ∃ fd, FD_c_Ratio_read K fd := z.s.def_ 45 rfl
  obtain ⟨fd_c_Scan_init, F_c_Scan_init, G_c_Scan_init⟩ := ok_c_Scan_init z
  obtain ⟨fd_f_take_ratio, F_f_take_ratio, G_f_take_ratio⟩ := ok_f_take_ratio z
  obtain ⟨fd_c_Scan_finish, F_c_Scan_finish, G_c_Scan_finish⟩ := ok_c_Scan_finish z
  refine ⟨fd, F, ?_⟩
  have nd := sc_c_Ratio_read.nd
  refine fnF F sc_c_Ratio_read fun cdv A outer s H E hr => ?_
  exact (trB_cons (trS_setN nd (trN_make (c := 0) (He.mkr_ok (mk_Scan z)) G_c_Scan_init (hr.mono (by decide)) (gl_of (by kernel_rfl)) (g_Scan z) (bn_c_Scan_init F_c_Scan_init) .nil (fun _ => .nil) (trA_cons (nV n_c_Ratio_read_1) trA_nil) (by rfl) (by kernel_rfl)) (by kernel_rfl) (locB_ok (by kernel_rfl)) (by rfl) (hf_of (by kernel_rfl)))
  (trB_cons (trS_set nd (trE_callD G_f_take_ratio (hr.mono (by decide)) (gl_of (by kernel_rfl)) (g_take_ratio z) F_f_take_ratio.kp (bn_f_take_ratio F_f_take_ratio) .nil (fun _ => .nil) (trQ_cons (nP n_c_Ratio_read_2) trQ_nil) (by rfl) (by rfl) (by kernel_rfl)) (by kernel_rfl) (locB_ok (by kernel_rfl)) (by rfl) (hf_of (by kernel_rfl)))
  (trB_cons (trS_expr (trE_meth0 (c := 0) (pl := _) (clsB_ok (cl_Scan z)) (me_c_Scan_finish z) (by kernel_rfl) G_c_Scan_finish (hr.mono (by decide)) (bn_c_Scan_finish F_c_Scan_finish) .nil (fun _ => .nil) (nP n_c_Ratio_read_2)))
  (trB_one (trS_ret (nV n_c_Ratio_read_3))))))
/-! Ratio.sign -/
def N_c_Ratio_sign : List Str := [(PySem.Str.ofString "self")]
def s_c_Ratio_sign : Scope := defScope (inClass (top 22) 3)
def b_c_Ratio_sign : List Stmt := defBody (inClass (top 22) 3)
theorem sc_c_Ratio_sign : FnScope N_c_Ratio_sign [(PySem.Str.ofString "self")] s_c_Ratio_sign := ⟨rfl, rfl, rfl, by decide +kernel, rfl, by decide +kernel, by decide +kernel⟩
abbrev FD_c_Ratio_sign (K : PySem.W.Frag) (fd : FuncData) : Prop := FunD K (PySem.Str.ofString "sign") (PySem.Str.ofString "Ratio.sign") (defArgs (inClass (top 22) 3)) b_c_Ratio_sign s_c_Ratio_sign [] [] (inner "property" K (PySem.Str.ofString "Ratio") (PySem.Str.ofString "sign")) fd
theorem bn_c_Ratio_sign {fd : FuncData} (F : FD_c_Ratio_sign K fd) : Binds K fd [(PySem.Str.ofString "self")] [] := F.bindsN fun _ _ _ _ _ _ us hl => match us, hl with | [_], _ => rfl
theorem n_c_Ratio_sign_0 : Nm N_c_Ratio_sign s_c_Ratio_sign 0 (PySem.Str.ofString "self") := nmB_ok (by decide +kernel)
noncomputable def m_c_Ratio_sign : MS := (sSeq (sIf (tB1 (op2 fLtI (mP (op1 (fFld fl_top) (mPl 0))) (mP (mC (.int 0))))) (sRet (op1 fNegI (mP (mC (.int 1))))) sNil) (sRet (mIf (tB1 (op2 fGtI (mP (op1 (fFld fl_top) (mPl 0))) (mP (mC (.int 0))))) (mC (.int 1)) (mC (.int 0)))))
noncomputable def r_c_Ratio_sign : List D → OF := runDef none false N_c_Ratio_sign.length m_c_Ratio_sign
theorem ok_c_Ratio_sign (z : Z P w K mg base) : ∃ fd, FD_c_Ratio_sign K fd ∧ FK P w K mg base 1 (inner "property" K (PySem.Str.ofString "Ratio") (PySem.Str.ofString "sign")) fd [(PySem.Str.ofString "self")] none false r_c_Ratio_sign := by
  obtain ⟨fd, F⟩ : ∃ fd, FD_c_Ratio_sign K fd := z.s.def_ 46 rfl
  refine ⟨fd, F, ?_⟩
  have nd := sc_c_Ratio_sign.nd
  refine fnF F sc_c_Ratio_sign fun cdv A outer s H E hr => ?_
  exact (trB_cons (trS_if (trT_cmp op_lt ok_ltI (by rfl) (trP_e (trE_fld rfl (fo_top z) (nP n_c_Ratio_sign_0))) (trP_e (trE_int))) (trB_one (trS_ret (trE_un un_neg ok_negI (trP_e (trE_int))))) trB_nil)
  (trB_one (trS_ret (trE_if (trT_cmp op_gt ok_gtI (by rfl) (trP_e (trE_fld rfl (fo_top z) (nP n_c_Ratio_sign_0))) (trP_e (trE_int))) (trE_int) (trE_int)))))
/-! _law_texts_right -/
def N_f_law_texts_right : List Str := [(PySem.Str.ofString "_law_ratio"), (PySem.Str.ofString "_law_top"), (PySem.Str.ofString "_law_bottom"), (PySem.Str.ofString "_law_due_here"), (PySem.Str.ofString "_law_text_here"), (PySem.Str.ofString "_law_odd")]
def s_f_law_texts_right : Scope := defScope (top 36)
def b_f_law_texts_right : List Stmt := defBody (top 36)
theorem sc_f_law_texts_right : FnScope N_f_law_texts_right [(PySem.Str.ofString "_law_ratio"), (PySem.Str.ofString "_law_top"), (PySem.Str.ofString "_law_bottom")] s_f_law_texts_right := ⟨rfl, rfl, rfl, by decide +kernel, rfl, by decide +kernel, by decide +kernel⟩
abbrev FD_f_law_texts_right (K : PySem.W.Frag) (fd : FuncData) : Prop := FunD K (PySem.Str.ofString "_law_texts_right") (PySem.Str.ofString "_law_texts_right") (defArgs (top 36)) b_f_law_texts_right s_f_law_texts_right [] [] (He.ga K (PySem.Str.ofString "_law_texts_right")) fd
theorem bn_f_law_texts_right {fd : FuncData} (F : FD_f_law_texts_right K fd) : Binds K fd [(PySem.Str.ofString "_law_ratio"), (PySem.Str.ofString "_law_top"), (PySem.Str.ofString "_law_bottom")] [] := F.bindsN fun _ _ _ _ _ _ us hl => match us, hl with | [_, _, _], _ => rfl
theorem n_f_law_texts_right_0 : Nm N_f_law_texts_right s_f_law_texts_right 0 (PySem.Str.ofString "_law_ratio") := nmB_ok (by decide +kernel)
theorem n_f_law_texts_right_1 : Nm N_f_law_texts_right s_f_law_texts_right 1 (PySem.Str.ofString "_law_top") := nmB_ok (by decide +kernel)
theorem n_f_law_texts_right_2 : Nm N_f_law_texts_right s_f_law_texts_right 2 (PySem.Str.ofString "_law_bottom") := nmB_ok (by decide +kernel)
theorem n_f_law_texts_right_3 : Nm N_f_law_texts_right s_f_law_texts_right 3 (PySem.Str.ofString "_law_due_here") := nmB_ok (by decide +kernel)
theorem n_f_law_texts_right_4 : Nm N_f_law_texts_right s_f_law_texts_right 4 (PySem.Str.ofString "_law_text_here") := nmB_ok (by decide +kernel)
noncomputable def m_f_law_texts_right : MS := (sSeq (sSet 3 (mCallD none 2 [] r_f_law_due (qCons (mPl 1) (qCons (mPl 2) qNil)))) (sSeq (sSet 4 (mIf (tB1 (op2X (ownB 1 [1] r_c_Ratio_eq) fEq (mP (op2 fIx (mPl 3) (mP (mC (.int 1))))) (mP (mC (.int 1))))) (mFnX (ownS 1 r_c_Ratio_str) fStrI (qCons (mP (op2 fIx (mPl 3) (mP (mC (.int 0))))) qNil)) (op2X (ownB 1 [1] r_c_Ratio_add) fAdd (mP (op2X (ownB 1 [1] r_c_Ratio_add) fAdd (mP (mFnX (ownS 1 r_c_Ratio_str) fStrI (qCons (mP (op2 fIx (mPl 3) (mP (mC (.int 0))))) qNil))) (mP (mC (.str (PySem.Str.ofString "/")))))) (mP (mFnX (ownS 1 r_c_Ratio_str) fStrI (qCons (mP (op2 fIx (mPl 3) (mP (mC (.int 1))))) qNil)))))) (sSeq (sIf ((tOr2 (tB1 (op2 fNe (mP (mFnX (ownS 1 r_c_Ratio_str) fStrI (qCons (mPl 0) qNil))) (mPl 4))) (tOr2 (tB1 (op2 fNe (mP (mFnX (ownS 1 r_c_Ratio_repr) fStrI (qCons (mPl 0) qNil))) (mPl 4))) (tOr2 (tNt (tB1 (op2X (ownB 1 [1] r_c_Ratio_eq) fEq (mP (mCMeth 1 2 [] r_c_Ratio_read (qCons (mPl 4) qNil))) (mPl 0)))) (tNt (tT (mP (mCallD none 3 [] r_f_law_is (qCons (mP (mCMeth 1 2 [] r_c_Ratio_read (qCons (mPl 4) qNil))) (qCons (mPl 1) (qCons (mPl 2) qNil))))))))))) (sRet (mC (.bl false))) sNil) (sSeq (sIf ((tOr2 (tB1 (op2 fNe (mP (mProp 1 r_c_Ratio_sign (mPl 0))) (mP (op2X (ownB 1 [1] r_c_Ratio_sub) fSubI (mP (mFn (fIntU) (qCons (mP (op2 fGtI (mP (op2 fIx (mPl 3) (mP (mC (.int 0))))) (mP (mC (.int 0))))) qNil))) (mP (mFn (fIntU) (qCons (mP (op2 fLtI (mP (op2 fIx (mPl 3) (mP (mC (.int 0))))) (mP (mC (.int 0))))) qNil))))))) (tOr2 (tB1 (op2 fNe (mP (mProp 1 r_c_Ratio_is_whole (mPl 0))) (mP (op2X (ownB 1 [1] r_c_Ratio_eq) fEq (mP (op2 fIx (mPl 3) (mP (mC (.int 1))))) (mP (mC (.int 1))))))) (tB1 (op2 fNe (mP (mFnX (ownT 1 r_c_Ratio_bool) fBool (qCons (mPl 0) qNil))) (mP (op2 fNe (mP (op2 fIx (mPl 3) (mP (mC (.int 0))))) (mP (mC (.int 0)))))))))) (sRet (mC (.bl false))) sNil) (sSeq (sIf ((tOr2 (tB1 (op2 fNe (mP (op2X (ownB 1 [1] r_c_Ratio_eq) fEq (mPl 0) (mP (op2 fIx (mPl 3) (mP (mC (.int 0))))))) (mP (op2X (ownB 1 [1] r_c_Ratio_eq) fEq (mP (op2 fIx (mPl 3) (mP (mC (.int 1))))) (mP (mC (.int 1))))))) (tB1 (op2 fNe (mP ((mLc (iSeq ((mLst (aCons (mV 4) (aCons (mC .non) (aCons ((mLst (aCons (op2 fIx (mPl 3) (mP (mC (.int 0)))) aNil))) (aCons (op2X (ownB 1 [1] r_c_Ratio_eq) fEq (mP (op2 fIx (mPl 3) (mP (mC (.int 0))))) (mP (mC (.int 1)))) aNil))))))) (gNm 5) (tB1 (op2X (ownB 1 [1] r_c_Ratio_eq) fEq (mPl 0) (mPl 5))) (mV 5) [5]))) (mP ((mLst aNil))))))) (sRet (mC (.bl false))) sNil) (sRet ((mAnd (mCallD none 3 [] r_f_law_is (qCons (mP (op1X (ownU 1 r_c_Ratio_neg) fNegI (mPl 0))) (qCons (mP (op1X (ownU 1 r_c_Ratio_neg) fNegI (mPl 1))) (qCons (mPl 2) qNil)))) (mCallD none 3 [] r_f_law_is (qCons (mP (mFnX (ownC 1 r_c_Ratio_abs) fAbs (qCons (mPl 0) qNil))) (qCons (mP (mFnX (ownC 1 r_c_Ratio_abs) fAbs (qCons (mPl 1) qNil))) (qCons (mP (mFnX (ownC 1 r_c_Ratio_abs) fAbs (qCons (mPl 2) qNil))) qNil))))))))))))
noncomputable def r_f_law_texts_right : List D → OF := runDef none false N_f_law_texts_right.length m_f_law_texts_right
theorem ok_f_law_texts_right (z : Z P w K mg base) : ∃ fd, FD_f_law_texts_right K fd ∧ FK P w K mg base 8 (He.ga K (PySem.Str.ofString "_law_texts_right")) fd [(PySem.Str.ofString "_law_ratio"), (PySem.Str.ofString "_law_top"), (PySem.Str.ofString "_law_bottom")] none false r_f_law_texts_right := by
  obtain ⟨fd, F⟩ : ∃ fd, FD_f_law_texts_right K fd := z.s.def_ 47 rfl
  obtain ⟨fd_f_law_due, F_f_law_due, G_f_law_due⟩ := ok_f_law_due z
  obtain ⟨fd_c_Ratio_eq, F_c_Ratio_eq, G_c_Ratio_eq⟩ := ok_c_Ratio_eq z
  obtain ⟨fd_c_Ratio_str, F_c_Ratio_str, G_c_Ratio_str⟩ := ok_c_Ratio_str z
  obtain ⟨fd_c_Ratio_add, F_c_Ratio_add, G_c_Ratio_add⟩ := ok_c_Ratio_add z
  obtain ⟨fd_c_Ratio_repr, F_c_Ratio_repr, G_c_Ratio_repr⟩ := ok_c_Ratio_repr z
  obtain ⟨fd_c_Ratio_read, F_c_Ratio_read, G_c_Ratio_read⟩ := ok_c_Ratio_read z
  obtain ⟨fd_f_law_is, F_f_law_is, G_f_law_is⟩ := ok_f_law_is z
  obtain ⟨fd_c_Ratio_sign, F_c_Ratio_sign, G_c_Ratio_sign⟩ := ok_c_Ratio_sign z
  obtain ⟨fd_c_Ratio_sub, F_c_Ratio_sub, G_c_Ratio_sub⟩ := ok_c_Ratio_sub z
  obtain ⟨fd_c_Ratio_is_whole, F_c_Ratio_is_whole, G_c_Ratio_is_whole⟩ := ok_c_Ratio_is_whole z
  obtain ⟨fd_c_Ratio_bool, F_c_Ratio_bool, G_c_Ratio_bool⟩ := ok_c_Ratio_bool z
  obtain ⟨fd_c_Ratio_neg, F_c_Ratio_neg, G_c_Ratio_neg⟩ := ok_c_Ratio_neg z
  obtain ⟨fd_c_Ratio_abs, F_c_Ratio_abs, G_c_Ratio_abs⟩ := ok_c_Ratio_abs z
  refine ⟨fd, F, ?_⟩
  have nd := sc_f_law_texts_right.nd
  refine fnF F sc_f_law_texts_right fun cdv A outer s H E hr => ?_
  exact (trB_cons (trS_set nd (trE_callD G_f_law_due (hr.mono (by decide)) (gl_of (by kernel_rfl)) (g__law_due z) F_f_law_due.kp (bn_f_law_due F_f_law_due) .nil (fun _ => .nil) (trQ_cons (nP n_f_law_texts_right_1) (trQ_cons (nP n_f_law_texts_right_2) trQ_nil)) (by rfl) (by rfl) (by kernel_rfl)) (by kernel_rfl) (locB_ok (by kernel_rfl)) (by rfl) (hf_of (by kernel_rfl)))
  (trB_cons (trS_set nd (trE_if (trT_cmpX (fun E hx => op_ownCmp (op := .Eq) (fun _ _ => rfl) (ownB1_ok (ob_c_Ratio_eq z)) ((G_c_Ratio_eq).raw (bn_c_Ratio_eq F_c_Ratio_eq) .nil) (hr.mono (by decide)) hx) (okX_cmp (fun c hc => (by cases List.mem_singleton.mp hc; simp [PySem.W.notFirst]))) (op_eqD hr.units) ok_eq (trP_e (trE_ix ix_seq ok_ix (nP n_f_law_texts_right_3) (trP_e (trE_int)))) (trP_e (trE_int))) (trE_fnXT (fun E hx => call_ownStr (ownB1_ok (ob_c_Ratio_str z)) ((G_c_Ratio_str).raw (bn_c_Ratio_str F_c_Ratio_str) .nil) (hr.mono (by decide)) hx) okX_callS call_str_int ok_strI (gl_of (by kernel_rfl)) (g_str z) (by kernel_rfl) (trQ_cons (trP_e (trE_ix ix_seq ok_ix (nP n_f_law_texts_right_3) (trP_e (trE_int)))) trQ_nil) (by decide) (by kernel_rfl)) (trE_binX (fun E hx => op_ownBin (binB_ok (ob_c_Ratio_add z)) ((G_c_Ratio_add).raw (bn_c_Ratio_add F_c_Ratio_add) .nil) (hr.mono (by decide)) hx) (okX_bin binTy_add) op_addU ok_addU (trP_e (trE_binX (fun E hx => op_ownBin (binB_ok (ob_c_Ratio_add z)) ((G_c_Ratio_add).raw (bn_c_Ratio_add F_c_Ratio_add) .nil) (hr.mono (by decide)) hx) (okX_bin binTy_add) op_addU ok_addU (trP_e (trE_fnXT (fun E hx => call_ownStr (ownB1_ok (ob_c_Ratio_str z)) ((G_c_Ratio_str).raw (bn_c_Ratio_str F_c_Ratio_str) .nil) (hr.mono (by decide)) hx) okX_callS call_str_int ok_strI (gl_of (by kernel_rfl)) (g_str z) (by kernel_rfl) (trQ_cons (trP_e (trE_ix ix_seq ok_ix (nP n_f_law_texts_right_3) (trP_e (trE_int)))) trQ_nil) (by decide) (by kernel_rfl))) (trP_e (trE_str)))) (trP_e (trE_fnXT (fun E hx => call_ownStr (ownB1_ok (ob_c_Ratio_str z)) ((G_c_Ratio_str).raw (bn_c_Ratio_str F_c_Ratio_str) .nil) (hr.mono (by decide)) hx) okX_callS call_str_int ok_strI (gl_of (by kernel_rfl)) (g_str z) (by kernel_rfl) (trQ_cons (trP_e (trE_ix ix_seq ok_ix (nP n_f_law_texts_right_3) (trP_e (trE_int)))) trQ_nil) (by decide) (by kernel_rfl))))) (by kernel_rfl) (locB_ok (by kernel_rfl)) (by rfl) (hf_of (by kernel_rfl)))
  (trB_cons (trS_if (trT_w (trW_or (trT_cmp (op_neD hr.units) ok_ne (by rfl) (trP_e (trE_fnXT (fun E hx => call_ownStr (ownB1_ok (ob_c_Ratio_str z)) ((G_c_Ratio_str).raw (bn_c_Ratio_str F_c_Ratio_str) .nil) (hr.mono (by decide)) hx) okX_callS call_str_int ok_strI (gl_of (by kernel_rfl)) (g_str z) (by kernel_rfl) (trQ_cons (nP n_f_law_texts_right_0) trQ_nil) (by decide) (by kernel_rfl))) (nP n_f_law_texts_right_4)) (trW_or (trT_cmp (op_neD hr.units) ok_ne (by rfl) (trP_e (trE_fnXB (fun E hx => call_ownRepr (ownB1_ok (ob_c_Ratio_repr z)) ((G_c_Ratio_repr).raw (bn_c_Ratio_repr F_c_Ratio_repr) .nil) (hr.mono (by decide)) hx) okX_callS SkE.call_repr_int ok_strI (gl_of (by kernel_rfl)) (g_repr z) (by kernel_rfl) (trQ_cons (nP n_f_law_texts_right_0) trQ_nil) (by decide) (by kernel_rfl))) (nP n_f_law_texts_right_4)) (trW_or (trT_not (trT_cmpX (fun E hx => op_ownCmp (op := .Eq) (fun _ _ => rfl) (ownB1_ok (ob_c_Ratio_eq z)) ((G_c_Ratio_eq).raw (bn_c_Ratio_eq F_c_Ratio_eq) .nil) (hr.mono (by decide)) hx) (okX_cmp (fun c hc => (by cases List.mem_singleton.mp hc; simp [PySem.W.notFirst]))) (op_eqD hr.units) ok_eq (trP_e (trE_cmeth (c := 1) (pl := _) (readB_ok (rd_Ratio z)) (cmetB_ok (sm_c_Ratio_read z)) (fnP G_c_Ratio_read (bn_c_Ratio_read F_c_Ratio_read) .nil) (hr.mono (by decide)) (fun _ => .nil) (trE_glob (v := .ref (He.ga K (PySem.Str.ofString "Ratio"))) (gl_of (by kernel_rfl)) (g_Ratio z) rfl (fun _ => is_cls.mpr rfl) (by kernel_rfl)) (trQ_cons (nP n_f_law_texts_right_4) trQ_nil))) (nP n_f_law_texts_right_0))) (trW_or1 (trT_not (trT_p rfl (trP_e (trE_callD G_f_law_is (hr.mono (by decide)) (gl_of (by kernel_rfl)) (g__law_is z) F_f_law_is.kp (bn_f_law_is F_f_law_is) .nil (fun _ => .nil) (trQ_cons (trP_e (trE_cmeth (c := 1) (pl := _) (readB_ok (rd_Ratio z)) (cmetB_ok (sm_c_Ratio_read z)) (fnP G_c_Ratio_read (bn_c_Ratio_read F_c_Ratio_read) .nil) (hr.mono (by decide)) (fun _ => .nil) (trE_glob (v := .ref (He.ga K (PySem.Str.ofString "Ratio"))) (gl_of (by kernel_rfl)) (g_Ratio z) rfl (fun _ => is_cls.mpr rfl) (by kernel_rfl)) (trQ_cons (nP n_f_law_texts_right_4) trQ_nil))) (trQ_cons (nP n_f_law_texts_right_1) (trQ_cons (nP n_f_law_texts_right_2) trQ_nil))) (by rfl) (by rfl) (by kernel_rfl)))))))))) (trB_one (trS_ret (trE_bl))) trB_nil)
  (trB_cons (trS_if (trT_w (trW_or (trT_cmp (op_neD hr.units) ok_ne (by rfl) (trP_e (trE_prop (clsB_ok (cl_Ratio z)) (propB_ok (pr_c_Ratio_sign z)) G_c_Ratio_sign (hr.mono (by decide)) (bn_c_Ratio_sign F_c_Ratio_sign) (nP n_f_law_texts_right_0))) (trP_e (trE_binX (fun E hx => op_ownBin (binB_ok (ob_c_Ratio_sub z)) ((G_c_Ratio_sub).raw (bn_c_Ratio_sub F_c_Ratio_sub) .nil) (hr.mono (by decide)) hx) (okX_bin binTy_sub) op_sub ok_subI (trP_e (trE_fnT (callR_or call_int1 call_int_str) ok_intU (gl_of (by kernel_rfl)) (g_int z) (by kernel_rfl) (trQ_cons (trP_e (trE_cmp op_gt ok_gtI (by rfl) (trP_e (trE_ix ix_seq ok_ix (nP n_f_law_texts_right_3) (trP_e (trE_int)))) (trP_e (trE_int)))) trQ_nil) (by decide) (by kernel_rfl))) (trP_e (trE_fnT (callR_or call_int1 call_int_str) ok_intU (gl_of (by kernel_rfl)) (g_int z) (by kernel_rfl) (trQ_cons (trP_e (trE_cmp op_lt ok_ltI (by rfl) (trP_e (trE_ix ix_seq ok_ix (nP n_f_law_texts_right_3) (trP_e (trE_int)))) (trP_e (trE_int)))) trQ_nil) (by decide) (by kernel_rfl)))))) (trW_or (trT_cmp (op_neD hr.units) ok_ne (by rfl) (trP_e (trE_prop (clsB_ok (cl_Ratio z)) (propB_ok (pr_c_Ratio_is_whole z)) G_c_Ratio_is_whole (hr.mono (by decide)) (bn_c_Ratio_is_whole F_c_Ratio_is_whole) (nP n_f_law_texts_right_0))) (trP_e (trE_cmpX (fun E hx => op_ownCmp (op := .Eq) (fun _ _ => rfl) (ownB1_ok (ob_c_Ratio_eq z)) ((G_c_Ratio_eq).raw (bn_c_Ratio_eq F_c_Ratio_eq) .nil) (hr.mono (by decide)) hx) (okX_cmp (fun c hc => (by cases List.mem_singleton.mp hc; simp [PySem.W.notFirst]))) (op_eqD hr.units) ok_eq (trP_e (trE_ix ix_seq ok_ix (nP n_f_law_texts_right_3) (trP_e (trE_int)))) (trP_e (trE_int))))) (trW_or1 (trT_cmp (op_neD hr.units) ok_ne (by rfl) (trP_e (trE_fnXT (fun E hx => call_ownBool (ownB1_ok (ob_c_Ratio_bool z)) ((G_c_Ratio_bool).raw (bn_c_Ratio_bool F_c_Ratio_bool) .nil) (hr.mono (by decide)) hx) okX_callB call_bool1 ok_bool1 (gl_of (by kernel_rfl)) (g_bool z) (by kernel_rfl) (trQ_cons (nP n_f_law_texts_right_0) trQ_nil) (by decide) (by kernel_rfl))) (trP_e (trE_cmp (op_neD hr.units) ok_ne (by rfl) (trP_e (trE_ix ix_seq ok_ix (nP n_f_law_texts_right_3) (trP_e (trE_int)))) (trP_e (trE_int))))))))) (trB_one (trS_ret (trE_bl))) trB_nil)
  (trB_cons (trS_if (trT_w (trW_or (trT_cmp (op_neD hr.units) ok_ne (by rfl) (trP_e (trE_cmpX (fun E hx => op_ownCmp (op := .Eq) (fun _ _ => rfl) (ownB1_ok (ob_c_Ratio_eq z)) ((G_c_Ratio_eq).raw (bn_c_Ratio_eq F_c_Ratio_eq) .nil) (hr.mono (by decide)) hx) (okX_cmp (fun c hc => (by cases List.mem_singleton.mp hc; simp [PySem.W.notFirst]))) (op_eqD hr.units) ok_eq (nP n_f_law_texts_right_0) (trP_e (trE_ix ix_seq ok_ix (nP n_f_law_texts_right_3) (trP_e (trE_int)))))) (trP_e (trE_cmpX (fun E hx => op_ownCmp (op := .Eq) (fun _ _ => rfl) (ownB1_ok (ob_c_Ratio_eq z)) ((G_c_Ratio_eq).raw (bn_c_Ratio_eq F_c_Ratio_eq) .nil) (hr.mono (by decide)) hx) (okX_cmp (fun c hc => (by cases List.mem_singleton.mp hc; simp [PySem.W.notFirst]))) (op_eqD hr.units) ok_eq (trP_e (trE_ix ix_seq ok_ix (nP n_f_law_texts_right_3) (trP_e (trE_int)))) (trP_e (trE_int))))) (trW_or1 (trT_cmp (op_neD hr.units) ok_ne (by rfl) (trP_e (trE_n (trN_lc rfl nd (trI_seq rfl (trE_n (trN_lst (trA_cons (nV n_f_law_texts_right_4) (trA_cons (trE_non) (trA_cons (trE_n (trN_lst (trA_cons (trE_ix ix_seq ok_ix (nP n_f_law_texts_right_3) (trP_e (trE_int))) trA_nil))) (trA_cons (trE_cmpX (fun E hx => op_ownCmp (op := .Eq) (fun _ _ => rfl) (ownB1_ok (ob_c_Ratio_eq z)) ((G_c_Ratio_eq).raw (bn_c_Ratio_eq F_c_Ratio_eq) .nil) (hr.mono (by decide)) hx) (okX_cmp (fun c hc => (by cases List.mem_singleton.mp hc; simp [PySem.W.notFirst]))) (op_eqD hr.units) ok_eq (trP_e (trE_ix ix_seq ok_ix (nP n_f_law_texts_right_3) (trP_e (trE_int)))) (trP_e (trE_int))) trA_nil))))))) (blkOk_by (own := [((PySem.Str.ofString "_law_odd"), 5)]) (by kernel_rfl)) (fun _ _ _ _ _ => (trG_name nd (by kernel_rfl) (locB_ok (by kernel_rfl)) (hf_of (by kernel_rfl)))) (fun _ _ _ _ _ => (trTs_one (trT_cmpX (fun E hx => op_ownCmp (op := .Eq) (fun _ _ => rfl) (ownB1_ok (ob_c_Ratio_eq z)) ((G_c_Ratio_eq).raw (bn_c_Ratio_eq F_c_Ratio_eq) .nil) (hr.mono (by decide)) hx) (okX_cmp (fun c hc => (by cases List.mem_singleton.mp hc; simp [PySem.W.notFirst]))) (op_eqD hr.units) ok_eq (nP (nmB_ok (by kernel_rfl))) (nP (nmB_ok (by kernel_rfl)))))) (fun _ _ _ _ _ => (nV (nmB_ok (by kernel_rfl))))))) (trP_e (trE_n (trN_lst trA_nil))))))) (trB_one (trS_ret (trE_bl))) trB_nil)
  (trB_one (trS_ret ((trE_and rfl (trE_callD G_f_law_is (hr.mono (by decide)) (gl_of (by kernel_rfl)) (g__law_is z) F_f_law_is.kp (bn_f_law_is F_f_law_is) .nil (fun _ => .nil) (trQ_cons (trP_e (trE_unX (fun E hx => op_ownNeg (ownB1_ok (ob_c_Ratio_neg z)) ((G_c_Ratio_neg).raw (bn_c_Ratio_neg F_c_Ratio_neg) .nil) (hr.mono (by decide)) hx) okX_un un_neg ok_negI (nP n_f_law_texts_right_0))) (trQ_cons (trP_e (trE_unX (fun E hx => op_ownNeg (ownB1_ok (ob_c_Ratio_neg z)) ((G_c_Ratio_neg).raw (bn_c_Ratio_neg F_c_Ratio_neg) .nil) (hr.mono (by decide)) hx) okX_un un_neg ok_negI (nP n_f_law_texts_right_1))) (trQ_cons (nP n_f_law_texts_right_2) trQ_nil))) (by rfl) (by rfl) (by kernel_rfl)) (trE_one (trE_callD G_f_law_is (hr.mono (by decide)) (gl_of (by kernel_rfl)) (g__law_is z) F_f_law_is.kp (bn_f_law_is F_f_law_is) .nil (fun _ => .nil) (trQ_cons (trP_e (trE_fnXB (fun E hx => call_ownAbs (ownB1_ok (ob_c_Ratio_abs z)) ((G_c_Ratio_abs).raw (bn_c_Ratio_abs F_c_Ratio_abs) .nil) (hr.mono (by decide)) hx) okX_call call_abs ok_abs (gl_of (by kernel_rfl)) (g_abs z) (by kernel_rfl) (trQ_cons (nP n_f_law_texts_right_0) trQ_nil) (by decide) (by kernel_rfl))) (trQ_cons (trP_e (trE_fnXB (fun E hx => call_ownAbs (ownB1_ok (ob_c_Ratio_abs z)) ((G_c_Ratio_abs).raw (bn_c_Ratio_abs F_c_Ratio_abs) .nil) (hr.mono (by decide)) hx) okX_call call_abs ok_abs (gl_of (by kernel_rfl)) (g_abs z) (by kernel_rfl) (trQ_cons (nP n_f_law_texts_right_1) trQ_nil) (by decide) (by kernel_rfl))) (trQ_cons (trP_e (trE_fnXB (fun E hx => call_ownAbs (ownB1_ok (ob_c_Ratio_abs z)) ((G_c_Ratio_abs).raw (bn_c_Ratio_abs F_c_Ratio_abs) .nil) (hr.mono (by decide)) hx) okX_call call_abs ok_abs (gl_of (by kernel_rfl)) (g_abs z) (by kernel_rfl) (trQ_cons (nP n_f_law_texts_right_2) trQ_nil) (by decide) (by kernel_rfl))) trQ_nil))) (by rfl) (by rfl) (by kernel_rfl))))))))))))
/-! _law_tub -/
def N_f_law_tub : List Str := [(PySem.Str.ofString "_law_script"), (PySem.Str.ofString "_law_whole"), (PySem.Str.ofString "_law_cell")]
def s_f_law_tub : Scope := defScope (top 27)
def b_f_law_tub : List Stmt := defBody (top 27)
theorem sc_f_law_tub : FnScope N_f_law_tub [(PySem.Str.ofString "_law_script")] s_f_law_tub := ⟨rfl, rfl, rfl, by decide +kernel, rfl, by decide +kernel, by decide +kernel⟩
abbrev FD_f_law_tub (K : PySem.W.Frag) (fd : FuncData) : Prop := FunD K (PySem.Str.ofString "_law_tub") (PySem.Str.ofString "_law_tub") (defArgs (top 27)) b_f_law_tub s_f_law_tub [] [] (He.ga K (PySem.Str.ofString "_law_tub")) fd
theorem bn_f_law_tub {fd : FuncData} (F : FD_f_law_tub K fd) : Binds K fd [(PySem.Str.ofString "_law_script")] [] := F.bindsN fun _ _ _ _ _ _ us hl => match us, hl with | [_], _ => rfl
theorem n_f_law_tub_0 : Nm N_f_law_tub s_f_law_tub 0 (PySem.Str.ofString "_law_script") := nmB_ok (by decide +kernel)
theorem n_f_law_tub_1 : Nm N_f_law_tub s_f_law_tub 1 (PySem.Str.ofString "_law_whole") := nmB_ok (by decide +kernel)
theorem n_f_law_tub_2 : Nm N_f_law_tub s_f_law_tub 2 (PySem.Str.ofString "_law_cell") := nmB_ok (by decide +kernel)
noncomputable def m_f_law_tub : MS := (sSeq (sSet 1 (mC (.int 59))) (sSeq (sFor (iSeq ((mAlt (mSl fSl (mPl 0) oNo (oSo (mC (.int 40)))) (mSl fSlN (mPl 0) oNo (oSo (mC (.int 40))))))) (gNm 2) (sSet 1 (op2 fAdd (mP (op2 fAdd (mP (op2 fMul (mPl 1) (mP (mC (.int 1213))))) (mP (op2 fModI (mP (mFn (fAbs) (qCons (mP (mFn (fIntU) (qCons (mPl 2) qNil))) qNil))) (mP (op2 fPowI (mP (mC (.int 10))) (mP (mC (.int 40))))))))) (mP (op2 fMul (mP (op2 fPowI (mP (mC (.int 10))) (mP (mC (.int 41))))) (mP (mFn (fIntU) (qCons (mP (op2 fLtI (mPl 2) (mP (mC (.int 0))))) qNil)))))))) (sRetN (mLst (aCons (mV 1) (aCons (mC (.int 0)) aNil))))))
noncomputable def r_f_law_tub : List D → OF := runDef none true N_f_law_tub.length m_f_law_tub
theorem ok_f_law_tub (z : Z P w K mg base) : ∃ fd, FD_f_law_tub K fd ∧ FK P w K mg base 1 (He.ga K (PySem.Str.ofString "_law_tub")) fd [(PySem.Str.ofString "_law_script")] none true r_f_law_tub := by
  obtain ⟨fd, F⟩ : ∃ fd, FD_f_law_tub K fd := z.s.def_ 48 rfl
  refine ⟨fd, F, ?_⟩
  have nd := sc_f_law_tub.nd
  refine fnF F sc_f_law_tub fun cdv A outer s H E hr => ?_
  exact (trB_cons (trS_set nd (trE_int) (by kernel_rfl) (locB_ok (by kernel_rfl)) (by rfl) (hf_of (by kernel_rfl)))
  (trB_cons (trS_for rfl (trI_seq rfl ((trE_alt (trE_sl rfl (nP n_f_law_tub_0) trO_no (trO_so (trE_int))) (trE_n (trN_sl rfl (nP n_f_law_tub_0) trO_no (trO_so (trE_int))))))) (trG_name nd (by kernel_rfl) (locB_ok (by kernel_rfl)) (hf_of (by kernel_rfl))) (trB_one (trS_set nd (trE_bin op_addU ok_addU (trP_e (trE_bin op_addU ok_addU (trP_e (trE_bin op_mulU ok_mulU (nP n_f_law_tub_1) (trP_e (trE_int)))) (trP_e (trE_bin op_modN ok_modI (trP_e (trE_fnB call_abs ok_abs (gl_of (by kernel_rfl)) (g_abs z) (by kernel_rfl) (trQ_cons (trP_e (trE_fnT (callR_or call_int1 call_int_str) ok_intU (gl_of (by kernel_rfl)) (g_int z) (by kernel_rfl) (trQ_cons (nP n_f_law_tub_2) trQ_nil) (by decide) (by kernel_rfl))) trQ_nil) (by decide) (by kernel_rfl))) (trP_e (trE_bin op_pow ok_powI (trP_e (trE_int)) (trP_e (trE_int)))))))) (trP_e (trE_bin op_mulU ok_mulU (trP_e (trE_bin op_pow ok_powI (trP_e (trE_int)) (trP_e (trE_int)))) (trP_e (trE_fnT (callR_or call_int1 call_int_str) ok_intU (gl_of (by kernel_rfl)) (g_int z) (by kernel_rfl) (trQ_cons (trP_e (trE_cmp op_lt ok_ltI (by rfl) (nP n_f_law_tub_2) (trP_e (trE_int)))) trQ_nil) (by decide) (by kernel_rfl)))))) (by kernel_rfl) (locB_ok (by kernel_rfl)) (by rfl) (hf_of (by kernel_rfl)))))
  (trB_one (trS_retN (trN_lst (trA_cons (nV n_f_law_tub_1) (trA_cons (trE_int) trA_nil)))))))
/-! law -/
def N_f_law : List Str := [(PySem.Str.ofString "_law_script"), (PySem.Str.ofString "_law_tub_here"), (PySem.Str.ofString "_law_turn"), (PySem.Str.ofString "_law_a"), (PySem.Str.ofString "_law_b"), (PySem.Str.ofString "_law_one"), (PySem.Str.ofString "_law_other"), (PySem.Str.ofString "_law_whole"), (PySem.Str.ofString "_law_odd")]
def s_f_law : Scope := defScope (top 40)
def b_f_law : List Stmt := defBody (top 40)
theorem sc_f_law : FnScope N_f_law [(PySem.Str.ofString "_law_script")] s_f_law := ⟨rfl, rfl, rfl, by decide +kernel, rfl, by decide +kernel, by decide +kernel⟩
abbrev FD_f_law (K : PySem.W.Frag) (fd : FuncData) : Prop := FunD K (PySem.Str.ofString "law") (PySem.Str.ofString "law") (defArgs (top 40)) b_f_law s_f_law [] [] (He.ga K (PySem.Str.ofString "law")) fd
theorem bn_f_law {fd : FuncData} (F : FD_f_law K fd) : Binds K fd [(PySem.Str.ofString "_law_script")] [] := F.bindsN fun _ _ _ _ _ _ us hl => match us, hl with | [_], _ => rfl
theorem n_f_law_0 : Nm N_f_law s_f_law 0 (PySem.Str.ofString "_law_script") := nmB_ok (by decide +kernel)
theorem n_f_law_1 : Nm N_f_law s_f_law 1 (PySem.Str.ofString "_law_tub_here") := nmB_ok (by decide +kernel)
theorem n_f_law_2 : Nm N_f_law s_f_law 2 (PySem.Str.ofString "_law_turn") := nmB_ok (by decide +kernel)
theorem n_f_law_3 : Nm N_f_law s_f_law 3 (PySem.Str.ofString "_law_a") := nmB_ok (by decide +kernel)
theorem n_f_law_4 : Nm N_f_law s_f_law 4 (PySem.Str.ofString "_law_b") := nmB_ok (by decide +kernel)
theorem n_f_law_5 : Nm N_f_law s_f_law 5 (PySem.Str.ofString "_law_one") := nmB_ok (by decide +kernel)
theorem n_f_law_6 : Nm N_f_law s_f_law 6 (PySem.Str.ofString "_law_other") := nmB_ok (by decide +kernel)
theorem n_f_law_7 : Nm N_f_law s_f_law 7 (PySem.Str.ofString "_law_whole") := nmB_ok (by decide +kernel)
theorem n_f_law_8 : Nm N_f_law s_f_law 8 (PySem.Str.ofString "_law_odd") := nmB_ok (by decide +kernel)
noncomputable def m_f_law : MS := (sSeq (sSetN 1 (mCallQ none 1 r_f_law_tub (qCons (mPl 0) qNil))) (sSeq (sFor (iRg1 (aCons (mC (.int 4)) aNil)) (gNm 2) (sSeq (sPar [3, 4] (aCons (mCallD (some 0) 1 [] r_f_law_pair (qCons (mPl 1) qNil)) (aCons (mCallD (some 0) 1 [] r_f_law_pair (qCons (mPl 1) qNil)) aNil))) (sSeq (sIf (tNt (tT (mP (mCallD (some 0) 1 [] r_f_law_checks_right (qCons (mPl 1) qNil))))) (sRet (mC (.bl false))) sNil) (sSeq (sPar [5, 6, 7] (aCons ((mMake 1 2 [] r_c_Ratio_init (aCons (op2 fIx (mPl 3) (mP (mC (.int 0)))) (aCons (op2 fIx (mPl 3) (mP (mC (.int 1)))) aNil)))) (aCons ((mMake 1 2 [] r_c_Ratio_init (aCons (op2 fIx (mPl 4) (mP (mC (.int 0)))) (aCons (op2 fIx (mPl 4) (mP (mC (.int 1)))) aNil)))) (aCons ((mMake 1 1 [.int 1] r_c_Ratio_init (aCons (op2 fIx (mPl 4) (mP (mC (.int 0)))) aNil))) aNil)))) (sSeq (sIf ((tOr2 (tNt (tT (mP (mCallD none 3 [] r_f_law_is (qCons (mPl 5) (qCons (mP (op2 fIx (mPl 3) (mP (mC (.int 0))))) (qCons (mP (op2 fIx (mPl 3) (mP (mC (.int 1))))) qNil))))))) (tOr2 (tNt (tT (mP (mCallD none 3 [] r_f_law_texts_right (qCons (mPl 5) (qCons (mP (op2 fIx (mPl 3) (mP (mC (.int 0))))) (qCons (mP (op2 fIx (mPl 3) (mP (mC (.int 1))))) qNil))))))) (tNt (tT (mP (mCallD none 3 [] r_f_law_texts_right (qCons (mPl 7) (qCons (mP (op2 fIx (mPl 4) (mP (mC (.int 0))))) (qCons (mP (mC (.int 1))) qNil)))))))))) (sRet (mC (.bl false))) sNil) (sSeq (sIf ((tOr2 (tNt (tT (mP (mCallD none 4 [] r_f_law_sums_right (qCons (mPl 3) (qCons (mPl 4) (qCons (mPl 5) (qCons (mPl 6) qNil)))))))) (tNt (tT (mP (mCallD none 4 [] r_f_law_sums_right (qCons (mPl 3) (qCons (mP (mTup (aCons (op2 fIx (mPl 4) (mP (mC (.int 0)))) (aCons (mC (.int 1)) aNil)))) (qCons (mPl 5) (qCons (mP (op2 fIx (mPl 4) (mP (mC (.int 0))))) qNil)))))))))) (sRet (mC (.bl false))) sNil) (sSeq (sSet 8 (op2 fIx (mP ((mLst (aCons (mC .non) (aCons (mC (.bl true)) (aCons (mC (.str (PySem.Str.ofString "1/2"))) (aCons ((mLst (aCons (mC (.int 1)) aNil))) (aCons (mTup (aCons (mC (.int 1)) (aCons (mC (.int 2)) aNil))) (aCons ((mC (.dct []))) aNil))))))))) (mP (mCallD (some 0) 2 [] r_f_law_scoop (qCons (mPl 1) (qCons (mP (mC (.int 6))) qNil)))))) (sIf ((tOr2 (tNt (tT (mP (mCallD none 2 [] r_f_law_errors_right (qCons (mPl 5) (qCons (mPl 8) qNil)))))) (tNt (tT (mP (mCallD none 3 [] r_f_law_is (qCons (mP (mCallD none 1 [] r_c_Ratio_of (qCons (mP (op2 fIx (mPl 4) (mP (mC (.int 0))))) qNil))) (qCons (mP (op2 fIx (mPl 4) (mP (mC (.int 0))))) (qCons (mP (mC (.int 1))) qNil))))))))) (sRet (mC (.bl false))) sNil)))))))) (sRet (mC (.bl true)))))
noncomputable def r_f_law : List D → OF := runDef none false N_f_law.length m_f_law
theorem ok_f_law (z : Z P w K mg base) : ∃ fd, FD_f_law K fd ∧ FK P w K mg base 13 (He.ga K (PySem.Str.ofString "law")) fd [(PySem.Str.ofString "_law_script")] none false r_f_law := by
  obtain ⟨fd, F⟩ : ∃ fd, FD_f_law K fd := z.s.def_ 49 rfl
  obtain ⟨fd_f_law_tub, F_f_law_tub, G_f_law_tub⟩ := ok_f_law_tub z
  obtain ⟨fd_f_law_pair, F_f_law_pair, G_f_law_pair⟩ := ok_f_law_pair z
  obtain ⟨fd_f_law_checks_right, F_f_law_checks_right, G_f_law_checks_right⟩ := ok_f_law_checks_right z
  obtain ⟨fd_c_Ratio_init, F_c_Ratio_init, G_c_Ratio_init⟩ := ok_c_Ratio_init z
  obtain ⟨fd_f_law_is, F_f_law_is, G_f_law_is⟩ := ok_f_law_is z
  obtain ⟨fd_f_law_texts_right, F_f_law_texts_right, G_f_law_texts_right⟩ := ok_f_law_texts_right z
  obtain ⟨fd_f_law_sums_right, F_f_law_sums_right, G_f_law_sums_right⟩ := ok_f_law_sums_right z
  obtain ⟨fd_f_law_scoop, F_f_law_scoop, G_f_law_scoop⟩ := ok_f_law_scoop z
  obtain ⟨fd_f_law_errors_right, F_f_law_errors_right, G_f_law_errors_right⟩ := ok_f_law_errors_right z
  obtain ⟨fd_c_Ratio_of, F_c_Ratio_of, G_c_Ratio_of⟩ := ok_c_Ratio_of z
  refine ⟨fd, F, ?_⟩
  have nd := sc_f_law.nd
  refine fnF F sc_f_law fun cdv A outer s H E hr => ?_
  exact (trB_cons (trS_setN nd (trN_callQ G_f_law_tub (hr.mono (by decide)) (gl_of (by kernel_rfl)) (g__law_tub z) F_f_law_tub.kp (bn_f_law_tub F_f_law_tub) (trQ_cons (nP n_f_law_0) trQ_nil) (by rfl) (by kernel_rfl)) (by kernel_rfl) (locB_ok (by kernel_rfl)) (by rfl) (hf_of (by kernel_rfl)))
  (trB_cons (trS_for rfl (trI_range1 (gl_of (by kernel_rfl)) (g_range z) (trA_cons (trE_int) trA_nil)) (trG_name nd (by kernel_rfl) (locB_ok (by kernel_rfl)) (hf_of (by kernel_rfl))) (trB_cons (trS_par2 rfl nd (trA_cons (trE_callD G_f_law_pair (hr.mono (by decide)) (gl_of (by kernel_rfl)) (g__law_pair z) F_f_law_pair.kp (bn_f_law_pair F_f_law_pair) .nil (fun _ => .nil) (trQ_cons (nP n_f_law_1) trQ_nil) (by rfl) (by rfl) (by kernel_rfl)) (trA_cons (trE_callD G_f_law_pair (hr.mono (by decide)) (gl_of (by kernel_rfl)) (g__law_pair z) F_f_law_pair.kp (bn_f_law_pair F_f_law_pair) .nil (fun _ => .nil) (trQ_cons (nP n_f_law_1) trQ_nil) (by rfl) (by rfl) (by kernel_rfl)) trA_nil)) (by kernel_rfl) (by kernel_rfl) (by kernel_rfl) (by decide) (by kernel_rfl) (by kernel_rfl))
  (trB_cons (trS_if (trT_not (trT_p rfl (trP_e (trE_callD G_f_law_checks_right (hr.mono (by decide)) (gl_of (by kernel_rfl)) (g__law_checks_right z) F_f_law_checks_right.kp (bn_f_law_checks_right F_f_law_checks_right) .nil (fun _ => .nil) (trQ_cons (nP n_f_law_1) trQ_nil) (by rfl) (by rfl) (by kernel_rfl))))) (trB_one (trS_ret (trE_bl))) trB_nil)
  (trB_cons (trS_par3 rfl nd (trA_cons (trE_n (trN_make (c := 1) (He.mkr_ok (mk_Ratio z)) G_c_Ratio_init (hr.mono (by decide)) (gl_of (by kernel_rfl)) (g_Ratio z) (bd0_c_Ratio_init F_c_Ratio_init).choose_spec.2 (bd0_c_Ratio_init F_c_Ratio_init).choose_spec.1 (fun _ => .nil) (trA_cons (trE_ix ix_seq ok_ix (nP n_f_law_3) (trP_e (trE_int))) (trA_cons (trE_ix ix_seq ok_ix (nP n_f_law_3) (trP_e (trE_int))) trA_nil)) (by rfl) (by kernel_rfl))) (trA_cons (trE_n (trN_make (c := 1) (He.mkr_ok (mk_Ratio z)) G_c_Ratio_init (hr.mono (by decide)) (gl_of (by kernel_rfl)) (g_Ratio z) (bd0_c_Ratio_init F_c_Ratio_init).choose_spec.2 (bd0_c_Ratio_init F_c_Ratio_init).choose_spec.1 (fun _ => .nil) (trA_cons (trE_ix ix_seq ok_ix (nP n_f_law_4) (trP_e (trE_int))) (trA_cons (trE_ix ix_seq ok_ix (nP n_f_law_4) (trP_e (trE_int))) trA_nil)) (by rfl) (by kernel_rfl))) (trA_cons (trE_n (trN_make (c := 1) (He.mkr_ok (mk_Ratio z)) G_c_Ratio_init (hr.mono (by decide)) (gl_of (by kernel_rfl)) (g_Ratio z) (bd1_c_Ratio_init F_c_Ratio_init).choose_spec.2 (bd1_c_Ratio_init F_c_Ratio_init).choose_spec.1 (fun _ => .cons (is_int.mpr rfl) .nil) (trA_cons (trE_ix ix_seq ok_ix (nP n_f_law_4) (trP_e (trE_int))) trA_nil) (by rfl) (by kernel_rfl))) trA_nil))) (by kernel_rfl) (by kernel_rfl) (by kernel_rfl) (by kernel_rfl) (by decide) (by decide) (by decide) (by kernel_rfl) (by kernel_rfl) (by kernel_rfl))
  (trB_cons (trS_if (trT_w (trW_or (trT_not (trT_p rfl (trP_e (trE_callD G_f_law_is (hr.mono (by decide)) (gl_of (by kernel_rfl)) (g__law_is z) F_f_law_is.kp (bn_f_law_is F_f_law_is) .nil (fun _ => .nil) (trQ_cons (nP n_f_law_5) (trQ_cons (trP_e (trE_ix ix_seq ok_ix (nP n_f_law_3) (trP_e (trE_int)))) (trQ_cons (trP_e (trE_ix ix_seq ok_ix (nP n_f_law_3) (trP_e (trE_int)))) trQ_nil))) (by rfl) (by rfl) (by kernel_rfl))))) (trW_or (trT_not (trT_p rfl (trP_e (trE_callD G_f_law_texts_right (hr.mono (by decide)) (gl_of (by kernel_rfl)) (g__law_texts_right z) F_f_law_texts_right.kp (bn_f_law_texts_right F_f_law_texts_right) .nil (fun _ => .nil) (trQ_cons (nP n_f_law_5) (trQ_cons (trP_e (trE_ix ix_seq ok_ix (nP n_f_law_3) (trP_e (trE_int)))) (trQ_cons (trP_e (trE_ix ix_seq ok_ix (nP n_f_law_3) (trP_e (trE_int)))) trQ_nil))) (by rfl) (by rfl) (by kernel_rfl))))) (trW_or1 (trT_not (trT_p rfl (trP_e (trE_callD G_f_law_texts_right (hr.mono (by decide)) (gl_of (by kernel_rfl)) (g__law_texts_right z) F_f_law_texts_right.kp (bn_f_law_texts_right F_f_law_texts_right) .nil (fun _ => .nil) (trQ_cons (nP n_f_law_7) (trQ_cons (trP_e (trE_ix ix_seq ok_ix (nP n_f_law_4) (trP_e (trE_int)))) (trQ_cons (trP_e (trE_int)) trQ_nil))) (by rfl) (by rfl) (by kernel_rfl))))))))) (trB_one (trS_ret (trE_bl))) trB_nil)
  (trB_cons (trS_if (trT_w (trW_or (trT_not (trT_p rfl (trP_e (trE_callD G_f_law_sums_right (hr.mono (by decide)) (gl_of (by kernel_rfl)) (g__law_sums_right z) F_f_law_sums_right.kp (bn_f_law_sums_right F_f_law_sums_right) .nil (fun _ => .nil) (trQ_cons (nP n_f_law_3) (trQ_cons (nP n_f_law_4) (trQ_cons (nP n_f_law_5) (trQ_cons (nP n_f_law_6) trQ_nil)))) (by rfl) (by rfl) (by kernel_rfl))))) (trW_or1 (trT_not (trT_p rfl (trP_e (trE_callD G_f_law_sums_right (hr.mono (by decide)) (gl_of (by kernel_rfl)) (g__law_sums_right z) F_f_law_sums_right.kp (bn_f_law_sums_right F_f_law_sums_right) .nil (fun _ => .nil) (trQ_cons (nP n_f_law_3) (trQ_cons (trP_e (trE_tup (trA_cons (trE_ix ix_seq ok_ix (nP n_f_law_4) (trP_e (trE_int))) (trA_cons (trE_int) trA_nil)))) (trQ_cons (nP n_f_law_5) (trQ_cons (trP_e (trE_ix ix_seq ok_ix (nP n_f_law_4) (trP_e (trE_int)))) trQ_nil)))) (by rfl) (by rfl) (by kernel_rfl)))))))) (trB_one (trS_ret (trE_bl))) trB_nil)
  (trB_cons (trS_set nd (trE_ix ix_seq ok_ix (trP_e (trE_n (trN_lst (trA_cons (trE_non) (trA_cons (trE_bl) (trA_cons (trE_str) (trA_cons (trE_n (trN_lst (trA_cons (trE_int) trA_nil))) (trA_cons (trE_tup (trA_cons (trE_int) (trA_cons (trE_int) trA_nil))) (trA_cons (trE_n (trN_dict0)) trA_nil))))))))) (trP_e (trE_callD G_f_law_scoop (hr.mono (by decide)) (gl_of (by kernel_rfl)) (g__law_scoop z) F_f_law_scoop.kp (bn_f_law_scoop F_f_law_scoop) .nil (fun _ => .nil) (trQ_cons (nP n_f_law_1) (trQ_cons (trP_e (trE_int)) trQ_nil)) (by rfl) (by rfl) (by kernel_rfl)))) (by kernel_rfl) (locB_ok (by kernel_rfl)) (by rfl) (hf_of (by kernel_rfl)))
  (trB_one (trS_if (trT_w (trW_or (trT_not (trT_p rfl (trP_e (trE_callD G_f_law_errors_right (hr.mono (by decide)) (gl_of (by kernel_rfl)) (g__law_errors_right z) F_f_law_errors_right.kp (bn_f_law_errors_right F_f_law_errors_right) .nil (fun _ => .nil) (trQ_cons (nP n_f_law_5) (trQ_cons (nP n_f_law_8) trQ_nil)) (by rfl) (by rfl) (by kernel_rfl))))) (trW_or1 (trT_not (trT_p rfl (trP_e (trE_callD G_f_law_is (hr.mono (by decide)) (gl_of (by kernel_rfl)) (g__law_is z) F_f_law_is.kp (bn_f_law_is F_f_law_is) .nil (fun _ => .nil) (trQ_cons (trP_e (trE_smeth (c := 1) (pl := _) (readB_ok (rd_Ratio z)) (smetB_ok (sm_c_Ratio_of z)) (fnP G_c_Ratio_of (bn_c_Ratio_of F_c_Ratio_of) .nil) (hr.mono (by decide)) (fun _ => .nil) (trE_glob (v := .ref (He.ga K (PySem.Str.ofString "Ratio"))) (gl_of (by kernel_rfl)) (g_Ratio z) rfl (fun _ => is_cls.mpr rfl) (by kernel_rfl)) (trQ_cons (trP_e (trE_ix ix_seq ok_ix (nP n_f_law_4) (trP_e (trE_int)))) trQ_nil))) (trQ_cons (trP_e (trE_ix ix_seq ok_ix (nP n_f_law_4) (trP_e (trE_int)))) (trQ_cons (trP_e (trE_int)) trQ_nil))) (by rfl) (by rfl) (by kernel_rfl)))))))) (trB_one (trS_ret (trE_bl))) trB_nil)))))))))
  (trB_one (trS_ret (trE_bl)))))
end
end K01
set_option maxRecDepth 100000
set_option maxHeartbeats 2000000
namespace K01
open PySem PySem.Spec PyProof.Rows L2 Ml
theorem isint_int (a : Int) : r_f_is_integer [.int a] = .ok (.bl true) none := by rfl
theorem isint_bl (a : Bool) : r_f_is_integer [.bl a] = .ok (.bl false) none := by rfl
theorem isint_non : r_f_is_integer [.non] = .ok (.bl false) none := by rfl
theorem isint_str (a : Str) : r_f_is_integer [.str a] = .ok (.bl false) none := by rfl
theorem isint_lst (a : List D) : r_f_is_integer [.lst a] = .ok (.bl false) none := by rfl
theorem isint_tup (a : List D) : r_f_is_integer [.tup a] = .ok (.bl false) none := by rfl
theorem isint_dct (a) : r_f_is_integer [.dct a] = .ok (.bl false) none := by rfl
theorem isint_rat (a : List D) : r_f_is_integer [.ins 1 a] = .ok (.bl false) none := by rfl
theorem eq_int (a b : Int) : fEq (.int a) (.int b) = some (.bl (decide (a = b))) := by
  have e (x : Int) : SeqAt.shaped (PyData.int x) = true := by
    simp only [SeqAt.shaped]; rfl
  have e2 : PyData.eqv (.int a) (.int b) = decide (a = b) := by
    simp only [PyData.eqv]
    by_cases h : a = b
    · subst h; simp [mAlt, Out.alt, runDef, startE, startGo, sSeq, sIf, tB1, op2, op1, mP, mPl, mC, mV, getD, PV.get, Out.bind, Out.bindS, ofO, ofB, atI, fAdd, fMul, oOr, fI, getOw, fSet, ixN, putSl, ofE, sSet, putIm, sRet, outIo, sNil, tT, tNt, mCallD, mFn, fIsi, qCons, qNil, truD, qArgs, qAt, putBack, backE, qAll, getAll, mAnd, mOr, mNot, aCons, aNil, sRaise, sSetF, fGcd, fSetF, tOr2, tAn, putI]
    · simp [mAlt, Out.alt, runDef, startE, startGo, sSeq, sIf, tB1, op2, op1, mP, mPl, mC, mV, getD, PV.get, Out.bind, Out.bindS, ofO, ofB, atI, fAdd, fMul, oOr, fI, getOw, fSet, ixN, putSl, ofE, sSet, putIm, sRet, outIo, sNil, tT, tNt, mCallD, mFn, fIsi, qCons, qNil, truD, qArgs, qAt, putBack, backE, qAll, getAll, mAnd, mOr, mNot, aCons, aNil, sRaise, sSetF, fGcd, fSetF, tOr2, tAn, putI, h]
  simp [mAlt, Out.alt, runDef, startE, startGo, sSeq, sIf, tB1, op2, op1, mP, mPl, mC, mV, getD, PV.get, Out.bind, Out.bindS, ofO, ofB, atI, fAdd, fMul, oOr, fI, getOw, fSet, ixN, putSl, ofE, sSet, putIm, sRet, outIo, sNil, tT, tNt, mCallD, mFn, fIsi, qCons, qNil, truD, qArgs, qAt, putBack, backE, qAll, getAll, mAnd, mOr, mNot, aCons, aNil, sRaise, sSetF, fGcd, fSetF, tOr2, tAn, putI, fEq, eqP, toP, e, e2]
theorem init_int (a b : Int) (hb : b ≠ 0) (hs : b.natAbs.log2 < 9000) : r_c_Ratio_init [.ins 1 [], .int a, .int b] =
    .ok .non (some (.ins 1 [.int (a.fdiv (if b < 0 then -(Nat.gcd a.natAbs b.natAbs : Int) else (Nat.gcd a.natAbs b.natAbs : Int))), .int (b.fdiv (if b < 0 then -(Nat.gcd a.natAbs b.natAbs : Int) else (Nat.gcd a.natAbs b.natAbs : Int)))])) := by
  have g0 : Nat.gcd a.natAbs b.natAbs ≠ 0 := by
    intro z
    have := (Nat.gcd_eq_zero_iff.mp z).2
    omega
  have g1 : (Nat.gcd a.natAbs b.natAbs).log2 < 9000 := by
    have l : Nat.gcd a.natAbs b.natAbs ≤ b.natAbs := Nat.gcd_le_right _ (by omega)
    have hb0 : b.natAbs ≠ 0 := by omega
    rw [Nat.log2_lt hb0] at hs
    rw [Nat.log2_lt g0]
    omega
  by_cases hn : b < 0
  · simp [mAlt, Out.alt, runDef, startE, startGo, sSeq, sIf, tB1, op2, op1, mP, mPl, mC, mV, getD, PV.get, Out.bind, Out.bindS, ofO, ofB, atI, fAdd, fMul, oOr, fI, getOw, fSet, ixN, putSl, ofE, sSet, putIm, sRet, outIo, sNil, tT, tNt, mCallD, mFn, fIsi, qCons, qNil, truD, qArgs, qAt, putBack, backE, qAll, getAll, mAnd, mOr, mNot, aCons, aNil, sRaise, sSetF, fGcd, fSetF, tOr2, tAn, putI, r_c_Ratio_init, m_c_Ratio_init, N_c_Ratio_init, isint_int, eq_int, hb, hn, fNegI, fl_top, fl_bottom, g0, g1]
  · simp [mAlt, Out.alt, runDef, startE, startGo, sSeq, sIf, tB1, op2, op1, mP, mPl, mC, mV, getD, PV.get, Out.bind, Out.bindS, ofO, ofB, atI, fAdd, fMul, oOr, fI, getOw, fSet, ixN, putSl, ofE, sSet, putIm, sRet, outIo, sNil, tT, tNt, mCallD, mFn, fIsi, qCons, qNil, truD, qArgs, qAt, putBack, backE, qAll, getAll, mAnd, mOr, mNot, aCons, aNil, sRaise, sSetF, fGcd, fSetF, tOr2, tAn, putI, r_c_Ratio_init, m_c_Ratio_init, N_c_Ratio_init, isint_int, eq_int, hb, hn, fNegI, fl_top, fl_bottom, g0, g1]
theorem scoop1 (a c m : Int) (hc : 0 ≤ c) (hc2 : c ≤ 1000000) (hm : 0 < m) (hm2 : m.natAbs.log2 < 9000) : r_f_law_scoop [.lst [.int a, .int c], .int m] =
    if a = 0 then .ok (.int ((((983 * (c + 1) + 3527) ^ 13 : Int).fdiv 7).fmod m)) (some (.lst [.int ((((983 * (c + 1) + 3527) ^ 13 : Int).fdiv 7).fdiv m), .int (c + 1)]))
    else .ok (.int (a.fmod m)) (some (.lst [.int (a.fdiv m), .int c])) := by
  have hm0 : m ≠ 0 := by omega
  by_cases h : a = 0
  · have h1 : Nat.log2 983 + (c + 1).natAbs.log2 < 1000000 := by
      have e1 : (c + 1).natAbs.log2 < 30 := by
        by_cases z : (c + 1).natAbs = 0
        · rw [z]; decide
        · rw [Nat.log2_lt z]; omega
      have e : Nat.log2 983 = 9 := by decide +kernel
      omega
    have h2 : (983 * (c + 1) + 3527).natAbs < 18446744073709551616 := by omega
    have h7 : Nat.log2 7 < 9000 := by decide +kernel
    simp [mAlt, Out.alt, runDef, startE, startGo, sSeq, sIf, tB1, op2, op1, mP, mPl, mC, mV, getD, PV.get, Out.bind, Out.bindS, ofO, ofB, atI, fAdd, fMul, oOr, fI, getOw, fSet, ixN, putSl, ofE, sSet, putIm, sRet, outIo, sNil, tT, tNt, mCallD, mFn, fIsi, qCons, qNil, truD, qArgs, qAt, putBack, backE, qAll, getAll, mAnd, mOr, mNot, aCons, aNil, sRaise, sSetF, fGcd, fSetF, tOr2, tAn, putI, r_f_law_scoop, m_f_law_scoop, runDef, startE, startGo, sSeq, sIf, tB1, op2, mP, mPl, mC, getD, PV.get, Out.bind, Out.bindS, ofO, fIx, atI, eq_int, h, fAdd, fMul, oOr, fI, h1, h2, h7, hm0, hm2, sSetIx, getOw, fSet, ixN, putSl, ofE, sSet, putIm, sRet, outIo, N_f_law_scoop, sNil]
  · simp [mAlt, Out.alt, runDef, startE, startGo, sSeq, sIf, tB1, op2, op1, mP, mPl, mC, mV, getD, PV.get, Out.bind, Out.bindS, ofO, ofB, atI, fAdd, fMul, oOr, fI, getOw, fSet, ixN, putSl, ofE, sSet, putIm, sRet, outIo, sNil, tT, tNt, mCallD, mFn, fIsi, qCons, qNil, truD, qArgs, qAt, putBack, backE, qAll, getAll, mAnd, mOr, mNot, aCons, aNil, sRaise, sSetF, fGcd, fSetF, tOr2, tAn, putI, r_f_law_scoop, m_f_law_scoop, runDef, startE, startGo, sSeq, sIf, tB1, op2, mP, mPl, mC, getD, PV.get, Out.bind, Out.bindS, ofO, fIx, atI, eq_int, h, fAdd, fMul, oOr, fI, hm0, hm2, sSetIx, getOw, fSet, ixN, putSl, ofE, sSet, putIm, sRet, outIo, N_f_law_scoop, sNil]
end K01
set_option maxRecDepth 100000
set_option maxHeartbeats 2000000
namespace K01
open PySem PySem.Spec PyProof.Rows L2 Ml
def rat (a b : Int) : D := .ins 1 [.int (tp a b), .int (bt a b)]
def rt (p q : Int) : D := .ins 1 [.int p, .int q]
theorem init_rat (a b : Int) (hb : b ≠ 0) (hs : b.natAbs.log2 < 9000) : r_c_Ratio_init [.ins 1 [], .int a, .int b] = .ok .non (some (rat a b)) := init_int a b hb hs
theorem isi_rat (ds : List D) : fIsi t0 [.ins 1 ds, .cls 1] = some (.bl true) := by rfl
theorem isi_int (i : Int) : fIsi t0 [.int i, .cls 1] = some (.bl false) := by rfl
theorem from_rat (p q : Int) (s : Str) : r_f_ratio_from [rt p q, .str s] = .ok (rt p q) none := by rfl
theorem from_int (i : Int) (s : Str) : r_f_ratio_from [.int i, .str s] = .ok (rat i 1) none := by
  have h := init_rat i 1 (by decide) (by decide +kernel)
  simp [mAlt, Out.alt, runDef, startE, startGo, sSeq, sIf, tB1, op2, op1, mP, mPl, mC, mV, getD, PV.get, Out.bind, Out.bindS, ofO, ofB, atI, fAdd, fMul, oOr, fI, getOw, fSet, ixN, putSl, ofE, sSet, putIm, sRet, outIo, sNil, tT, tNt, mCallD, mFn, fIsi, qCons, qNil, truD, qArgs, qAt, putBack, backE, qAll, getAll, mAnd, mOr, mNot, aCons, aNil, sRaise, sSetF, fGcd, fSetF, tOr2, tAn, putI, mMake, fFld, fl_top, fl_bottom, fNegI, mMethD, isIns, -fIsi, r_f_ratio_from, m_f_ratio_from, N_f_ratio_from, isi_int, isint_int, h]
theorem add_rat (p q p' q' : Int) (hq : q ≠ 0) (hq' : q' ≠ 0) (h1 : p.natAbs.log2 + q'.natAbs.log2 < 1000000) (h2 : p'.natAbs.log2 + q.natAbs.log2 < 1000000) (h3 : q.natAbs.log2 + q'.natAbs.log2 < 1000000) (h4 : (q * q').natAbs.log2 < 9000) :
    r_c_Ratio_add [rt p q, rt p' q'] = .ok (rat (p * q' + p' * q) (q * q')) none := by
  have h := init_rat (p * q' + p' * q) (q * q') (Int.mul_ne_zero hq hq') h4
  have e := from_rat p' q'
  simp only [rt] at e
  simp [mAlt, Out.alt, runDef, startE, startGo, sSeq, sIf, tB1, op2, op1, mP, mPl, mC, mV, getD, PV.get, Out.bind, Out.bindS, ofO, ofB, atI, fAdd, fMul, oOr, fI, getOw, fSet, ixN, putSl, ofE, sSet, putIm, sRet, outIo, sNil, tT, tNt, mCallD, mFn, fIsi, qCons, qNil, truD, qArgs, qAt, putBack, backE, qAll, getAll, mAnd, mOr, mNot, aCons, aNil, sRaise, sSetF, fGcd, fSetF, tOr2, tAn, putI, mMake, fFld, fl_top, fl_bottom, fNegI, mMethD, isIns, r_c_Ratio_add, m_c_Ratio_add, N_c_Ratio_add, rt, e, h, h1, h2, h3]
theorem sub_rat (p q p' q' : Int) (hq : q ≠ 0) (hq' : q' ≠ 0) (h1 : p.natAbs.log2 + q'.natAbs.log2 < 1000000) (h2 : p'.natAbs.log2 + q.natAbs.log2 < 1000000) (h3 : q.natAbs.log2 + q'.natAbs.log2 < 1000000) (h4 : (q * q').natAbs.log2 < 9000) :
    r_c_Ratio_sub [rt p q, rt p' q'] = .ok (rat (p * q' - p' * q) (q * q')) none := by
  have h := init_rat (p * q' - p' * q) (q * q') (Int.mul_ne_zero hq hq') h4
  have e := from_rat p' q'
  simp only [rt] at e
  simp [mAlt, Out.alt, runDef, startE, startGo, sSeq, sIf, tB1, op2, op1, mP, mPl, mC, mV, getD, PV.get, Out.bind, Out.bindS, ofO, ofB, atI, fAdd, fMul, oOr, fI, getOw, fSet, ixN, putSl, ofE, sSet, putIm, sRet, outIo, sNil, tT, tNt, mCallD, mFn, fIsi, qCons, qNil, truD, qArgs, qAt, putBack, backE, qAll, getAll, mAnd, mOr, mNot, aCons, aNil, sRaise, sSetF, fGcd, fSetF, tOr2, tAn, putI, mMake, fFld, fl_top, fl_bottom, fNegI, mMethD, isIns, r_c_Ratio_sub, m_c_Ratio_sub, N_c_Ratio_sub, rt, e, h, h1, h2, h3]
theorem mul_rat (p q p' q' : Int) (hq : q ≠ 0) (hq' : q' ≠ 0) (h1 : p.natAbs.log2 + p'.natAbs.log2 < 1000000) (h3 : q.natAbs.log2 + q'.natAbs.log2 < 1000000) (h4 : (q * q').natAbs.log2 < 9000) :
    r_c_Ratio_mul [rt p q, rt p' q'] = .ok (rat (p * p') (q * q')) none := by
  have h := init_rat (p * p') (q * q') (Int.mul_ne_zero hq hq') h4
  have e := from_rat p' q'
  simp only [rt] at e
  simp [mAlt, Out.alt, runDef, startE, startGo, sSeq, sIf, tB1, op2, op1, mP, mPl, mC, mV, getD, PV.get, Out.bind, Out.bindS, ofO, ofB, atI, fAdd, fMul, oOr, fI, getOw, fSet, ixN, putSl, ofE, sSet, putIm, sRet, outIo, sNil, tT, tNt, mCallD, mFn, fIsi, qCons, qNil, truD, qArgs, qAt, putBack, backE, qAll, getAll, mAnd, mOr, mNot, aCons, aNil, sRaise, sSetF, fGcd, fSetF, tOr2, tAn, putI, mMake, fFld, fl_top, fl_bottom, fNegI, mMethD, isIns, r_c_Ratio_mul, m_c_Ratio_mul, N_c_Ratio_mul, rt, e, h, h1, h3]
theorem neg_rat (p q : Int) (hq : q ≠ 0) (h4 : q.natAbs.log2 < 9000) : r_c_Ratio_neg [rt p q] = .ok (rat (-p) q) none := by
  have h := init_rat (-p) q hq h4
  simp [mAlt, Out.alt, runDef, startE, startGo, sSeq, sIf, tB1, op2, op1, mP, mPl, mC, mV, getD, PV.get, Out.bind, Out.bindS, ofO, ofB, atI, fAdd, fMul, oOr, fI, getOw, fSet, ixN, putSl, ofE, sSet, putIm, sRet, outIo, sNil, tT, tNt, mCallD, mFn, fIsi, qCons, qNil, truD, qArgs, qAt, putBack, backE, qAll, getAll, mAnd, mOr, mNot, aCons, aNil, sRaise, sSetF, fGcd, fSetF, tOr2, tAn, putI, mMake, fFld, fl_top, fl_bottom, fNegI, mMethD, isIns, r_c_Ratio_neg, m_c_Ratio_neg, N_c_Ratio_neg, rt, h]
theorem compared_rat (p q p' q' : Int) (h1 : p.natAbs.log2 + q'.natAbs.log2 < 1000000) (h2 : p'.natAbs.log2 + q.natAbs.log2 < 1000000) :
    r_c_Ratio_compared [rt p q, rt p' q'] = .ok (.int (if p * q' - p' * q < 0 then -1 else if 0 < p * q' - p' * q then 1 else 0)) none := by
  have e := from_rat p' q'
  simp only [rt] at e
  by_cases z : p * q' - p' * q < 0
  · simp [mAlt, Out.alt, runDef, startE, startGo, sSeq, sIf, tB1, op2, op1, mP, mPl, mC, mV, getD, PV.get, Out.bind, Out.bindS, ofO, ofB, atI, fAdd, fMul, oOr, fI, getOw, fSet, ixN, putSl, ofE, sSet, putIm, sRet, outIo, sNil, tT, tNt, mCallD, mFn, fIsi, qCons, qNil, truD, qArgs, qAt, putBack, backE, qAll, getAll, mAnd, mOr, mNot, aCons, aNil, sRaise, sSetF, fGcd, fSetF, tOr2, tAn, putI, mMake, fFld, fl_top, fl_bottom, fNegI, mMethD, isIns, r_c_Ratio_compared, m_c_Ratio_compared, N_c_Ratio_compared, rt, e, h1, h2, z]
  · have z1 : (decide (p * q' - p' * q < 0)) = false := decide_eq_false z
    by_cases z2 : p' * q < p * q'
    · simp [mAlt, Out.alt, runDef, startE, startGo, sSeq, sIf, tB1, op2, op1, mP, mPl, mC, mV, getD, PV.get, Out.bind, Out.bindS, ofO, ofB, atI, fAdd, fMul, oOr, fI, getOw, fSet, ixN, putSl, ofE, sSet, putIm, sRet, outIo, sNil, tT, tNt, mCallD, mFn, fIsi, qCons, qNil, truD, qArgs, qAt, putBack, backE, qAll, getAll, mAnd, mOr, mNot, aCons, aNil, sRaise, sSetF, fGcd, fSetF, tOr2, tAn, putI, mMake, fFld, fl_top, fl_bottom, fNegI, mMethD, isIns, r_c_Ratio_compared, m_c_Ratio_compared, N_c_Ratio_compared, rt, e, h1, h2, z, z2, mIf]
    · simp [mAlt, Out.alt, runDef, startE, startGo, sSeq, sIf, tB1, op2, op1, mP, mPl, mC, mV, getD, PV.get, Out.bind, Out.bindS, ofO, ofB, atI, fAdd, fMul, oOr, fI, getOw, fSet, ixN, putSl, ofE, sSet, putIm, sRet, outIo, sNil, tT, tNt, mCallD, mFn, fIsi, qCons, qNil, truD, qArgs, qAt, putBack, backE, qAll, getAll, mAnd, mOr, mNot, aCons, aNil, sRaise, sSetF, fGcd, fSetF, tOr2, tAn, putI, mMake, fFld, fl_top, fl_bottom, fNegI, mMethD, isIns, r_c_Ratio_compared, m_c_Ratio_compared, N_c_Ratio_compared, rt, e, h1, h2, z, z2, mIf]
theorem below_rat (p q p' q' : Int) (h1 : p.natAbs.log2 + q'.natAbs.log2 < 1000000) (h2 : p'.natAbs.log2 + q.natAbs.log2 < 1000000) :
    r_c_Ratio_is_below [rt p q, rt p' q'] = .ok (.bl (decide (p * q' - p' * q < 0))) none := by
  have e := compared_rat p q p' q' h1 h2
  simp only [rt] at e
  by_cases z : p * q' - p' * q < 0
  · simp only [if_pos z] at e
    simp [mAlt, Out.alt, runDef, startE, startGo, sSeq, sIf, tB1, op2, op1, mP, mPl, mC, mV, getD, PV.get, Out.bind, Out.bindS, ofO, ofB, atI, fAdd, fMul, oOr, fI, getOw, fSet, ixN, putSl, ofE, sSet, putIm, sRet, outIo, sNil, tT, tNt, mCallD, mFn, fIsi, qCons, qNil, truD, qArgs, qAt, putBack, backE, qAll, getAll, mAnd, mOr, mNot, aCons, aNil, sRaise, sSetF, fGcd, fSetF, tOr2, tAn, putI, mMake, fFld, fl_top, fl_bottom, fNegI, mMethD, isIns, r_c_Ratio_is_below, m_c_Ratio_is_below, N_c_Ratio_is_below, rt, e, z, eq_int]
  · by_cases z2 : 0 < p * q' - p' * q
    · simp only [if_neg z, if_pos z2] at e
      simp [mAlt, Out.alt, runDef, startE, startGo, sSeq, sIf, tB1, op2, op1, mP, mPl, mC, mV, getD, PV.get, Out.bind, Out.bindS, ofO, ofB, atI, fAdd, fMul, oOr, fI, getOw, fSet, ixN, putSl, ofE, sSet, putIm, sRet, outIo, sNil, tT, tNt, mCallD, mFn, fIsi, qCons, qNil, truD, qArgs, qAt, putBack, backE, qAll, getAll, mAnd, mOr, mNot, aCons, aNil, sRaise, sSetF, fGcd, fSetF, tOr2, tAn, putI, mMake, fFld, fl_top, fl_bottom, fNegI, mMethD, isIns, r_c_Ratio_is_below, m_c_Ratio_is_below, N_c_Ratio_is_below, rt, e, z, eq_int]
    · simp only [if_neg z, if_neg z2] at e
      simp [mAlt, Out.alt, runDef, startE, startGo, sSeq, sIf, tB1, op2, op1, mP, mPl, mC, mV, getD, PV.get, Out.bind, Out.bindS, ofO, ofB, atI, fAdd, fMul, oOr, fI, getOw, fSet, ixN, putSl, ofE, sSet, putIm, sRet, outIo, sNil, tT, tNt, mCallD, mFn, fIsi, qCons, qNil, truD, qArgs, qAt, putBack, backE, qAll, getAll, mAnd, mOr, mNot, aCons, aNil, sRaise, sSetF, fGcd, fSetF, tOr2, tAn, putI, mMake, fFld, fl_top, fl_bottom, fNegI, mMethD, isIns, r_c_Ratio_is_below, m_c_Ratio_is_below, N_c_Ratio_is_below, rt, e, z, eq_int]
theorem bool_rat (p q : Int) : r_c_Ratio_bool [rt p q] = .ok (.bl (decide (p ≠ 0))) none := by
  have e := eq_int p 0
  unfold fEq at e
  obtain ⟨k, h, e⟩ := Option.map_eq_some_iff.mp e
  have e : k = decide (p = 0) := by simpa using e
  subst e
  by_cases z : p = 0
  · simp [mAlt, Out.alt, runDef, startE, startGo, sSeq, sIf, tB1, op2, op1, mP, mPl, mC, mV, getD, PV.get, Out.bind, Out.bindS, ofO, ofB, atI, fAdd, fMul, oOr, fI, getOw, fSet, ixN, putSl, ofE, sSet, putIm, sRet, outIo, sNil, tT, tNt, mCallD, mFn, fIsi, qCons, qNil, truD, qArgs, qAt, putBack, backE, qAll, getAll, mAnd, mOr, mNot, aCons, aNil, sRaise, sSetF, fGcd, fSetF, tOr2, tAn, putI, mMake, fFld, fl_top, fl_bottom, fNegI, mMethD, isIns, r_c_Ratio_bool, m_c_Ratio_bool, N_c_Ratio_bool, rt, fNe, h, z, fBool]
    all_goals (first | rfl | (rw [z] at h; simp [mAlt, Out.alt, runDef, startE, startGo, sSeq, sIf, tB1, op2, op1, mP, mPl, mC, mV, getD, PV.get, Out.bind, Out.bindS, ofO, ofB, atI, fAdd, fMul, oOr, fI, getOw, fSet, ixN, putSl, ofE, sSet, putIm, sRet, outIo, sNil, tT, tNt, mCallD, mFn, fIsi, qCons, qNil, truD, qArgs, qAt, putBack, backE, qAll, getAll, mAnd, mOr, mNot, aCons, aNil, sRaise, sSetF, fGcd, fSetF, tOr2, tAn, putI, mMake, fFld, fl_top, fl_bottom, fNegI, mMethD, isIns, h]))
  · simp [mAlt, Out.alt, runDef, startE, startGo, sSeq, sIf, tB1, op2, op1, mP, mPl, mC, mV, getD, PV.get, Out.bind, Out.bindS, ofO, ofB, atI, fAdd, fMul, oOr, fI, getOw, fSet, ixN, putSl, ofE, sSet, putIm, sRet, outIo, sNil, tT, tNt, mCallD, mFn, fIsi, qCons, qNil, truD, qArgs, qAt, putBack, backE, qAll, getAll, mAnd, mOr, mNot, aCons, aNil, sRaise, sSetF, fGcd, fSetF, tOr2, tAn, putI, mMake, fFld, fl_top, fl_bottom, fNegI, mMethD, isIns, r_c_Ratio_bool, m_c_Ratio_bool, N_c_Ratio_bool, rt, fNe, h, z, fBool]
theorem eq_rat (p q p' q' : Int) : r_c_Ratio_eq [rt p q, rt p' q'] = .ok (.bl (decide (p = p') && decide (q = q'))) none := by
  have i := isi_rat
  by_cases z : p = p'
  · simp [mAlt, Out.alt, runDef, startE, startGo, sSeq, sIf, tB1, op2, op1, mP, mPl, mC, mV, getD, PV.get, Out.bind, Out.bindS, ofO, ofB, atI, fAdd, fMul, oOr, fI, getOw, fSet, ixN, putSl, ofE, sSet, putIm, sRet, outIo, sNil, tT, tNt, mCallD, mFn, fIsi, qCons, qNil, truD, qArgs, qAt, putBack, backE, qAll, getAll, mAnd, mOr, mNot, aCons, aNil, sRaise, sSetF, fGcd, fSetF, tOr2, tAn, putI, mMake, fFld, fl_top, fl_bottom, fNegI, mMethD, isIns, -fIsi, r_c_Ratio_eq, m_c_Ratio_eq, N_c_Ratio_eq, rt, eq_int, i, z]
  · simp [mAlt, Out.alt, runDef, startE, startGo, sSeq, sIf, tB1, op2, op1, mP, mPl, mC, mV, getD, PV.get, Out.bind, Out.bindS, ofO, ofB, atI, fAdd, fMul, oOr, fI, getOw, fSet, ixN, putSl, ofE, sSet, putIm, sRet, outIo, sNil, tT, tNt, mCallD, mFn, fIsi, qCons, qNil, truD, qArgs, qAt, putBack, backE, qAll, getAll, mAnd, mOr, mNot, aCons, aNil, sRaise, sSetF, fGcd, fSetF, tOr2, tAn, putI, mMake, fFld, fl_top, fl_bottom, fNegI, mMethD, isIns, -fIsi, r_c_Ratio_eq, m_c_Ratio_eq, N_c_Ratio_eq, rt, eq_int, i, z]
end K01
set_option maxRecDepth 100000
set_option maxHeartbeats 2000000
namespace K01
open PySem PySem.Spec PyProof.Rows L2 Ml
theorem over_rat (p q p' q' : Int) (hq : q ≠ 0) (hp' : p' ≠ 0) (h1 : p.natAbs.log2 + q'.natAbs.log2 < 1000000) (h3 : q.natAbs.log2 + p'.natAbs.log2 < 1000000) (h4 : (q * p').natAbs.log2 < 9000) :
    r_c_Ratio_over [rt p q, rt p' q'] = .ok (rat (p * q') (q * p')) none := by
  have h := init_rat (p * q') (q * p') (Int.mul_ne_zero hq hp') h4
  have e := from_rat p' q'
  simp only [rt] at e
  simp [mAlt, Out.alt, runDef, startE, startGo, sSeq, sIf, tB1, op2, op1, mP, mPl, mC, mV, getD, PV.get, Out.bind, Out.bindS, ofO, ofB, atI, fAdd, fMul, oOr, fI, getOw, fSet, ixN, putSl, ofE, sSet, putIm, sRet, outIo, sNil, tT, tNt, mCallD, mFn, fIsi, qCons, qNil, truD, qArgs, qAt, putBack, backE, qAll, getAll, mAnd, mOr, mNot, aCons, aNil, sRaise, sSetF, fGcd, fSetF, tOr2, tAn, putI, mMake, fFld, fl_top, fl_bottom, fNegI, mMethD, isIns, r_c_Ratio_over, m_c_Ratio_over, N_c_Ratio_over, rt, e, h, h1, h3, hp', eq_int]
theorem over_zero (p q i : Int) (q' : Int) : r_c_Ratio_over [rt p q, rt 0 q'] = .ex 2 [.str (PySem.Str.ofString "zero")] none := by
  have e := from_rat 0 q'
  simp only [rt] at e
  simp [mAlt, Out.alt, runDef, startE, startGo, sSeq, sIf, tB1, op2, op1, mP, mPl, mC, mV, getD, PV.get, Out.bind, Out.bindS, ofO, ofB, atI, fAdd, fMul, oOr, fI, getOw, fSet, ixN, putSl, ofE, sSet, putIm, sRet, outIo, sNil, tT, tNt, mCallD, mFn, fIsi, qCons, qNil, truD, qArgs, qAt, putBack, backE, qAll, getAll, mAnd, mOr, mNot, aCons, aNil, sRaise, sSetF, fGcd, fSetF, tOr2, tAn, putI, mMake, fFld, fl_top, fl_bottom, fNegI, mMethD, isIns, r_c_Ratio_over, m_c_Ratio_over, N_c_Ratio_over, rt, e, eq_int]
theorem abs_rat (p q : Int) (hq : q ≠ 0) (h4 : q.natAbs.log2 < 9000) : r_c_Ratio_abs [rt p q] = .ok (rat (p.natAbs : Int) q) none := by
  have h := init_rat (p.natAbs : Int) q hq h4
  have a : (if p < 0 then -p else p) = (p.natAbs : Int) := by split <;> omega
  simp [mAlt, Out.alt, runDef, startE, startGo, sSeq, sIf, tB1, op2, op1, mP, mPl, mC, mV, getD, PV.get, Out.bind, Out.bindS, ofO, ofB, atI, fAdd, fMul, oOr, fI, getOw, fSet, ixN, putSl, ofE, sSet, putIm, sRet, outIo, sNil, tT, tNt, mCallD, mFn, fIsi, qCons, qNil, truD, qArgs, qAt, putBack, backE, qAll, getAll, mAnd, mOr, mNot, aCons, aNil, sRaise, sSetF, fGcd, fSetF, tOr2, tAn, putI, mMake, fFld, fl_top, fl_bottom, fNegI, mMethD, isIns, r_c_Ratio_abs, m_c_Ratio_abs, N_c_Ratio_abs, rt, h, fAbs, a]
/-- no integer and no Ratio -/
def Odd (d : D) : Prop := r_f_is_integer [d] = .ok (.bl false) none ∧ fIsi t0 [d, .cls 1] = some (.bl false)
theorem from_odd {d : D} (h : Odd d) (s : Str) : r_f_ratio_from [d, .str s] = .ex 2 [.str s] none := by
  simp [mAlt, Out.alt, runDef, startE, startGo, sSeq, sIf, tB1, op2, op1, mP, mPl, mC, mV, getD, PV.get, Out.bind, Out.bindS, ofO, ofB, atI, fAdd, fMul, oOr, fI, getOw, fSet, ixN, putSl, ofE, sSet, putIm, sRet, outIo, sNil, tT, tNt, mCallD, mFn, fIsi, qCons, qNil, truD, qArgs, qAt, putBack, backE, qAll, getAll, mAnd, mOr, mNot, aCons, aNil, sRaise, sSetF, fGcd, fSetF, tOr2, tAn, putI, mMake, fFld, fl_top, fl_bottom, fNegI, mMethD, isIns, -fIsi, r_f_ratio_from, m_f_ratio_from, N_f_ratio_from, h.1, h.2]
theorem add_odd {d : D} (h : Odd d) (p q : Int) : r_c_Ratio_add [rt p q, d] = .ex 2 [.str (PySem.Str.ofString "other")] none := by
  simp [mAlt, Out.alt, runDef, startE, startGo, sSeq, sIf, tB1, op2, op1, mP, mPl, mC, mV, getD, PV.get, Out.bind, Out.bindS, ofO, ofB, atI, fAdd, fMul, oOr, fI, getOw, fSet, ixN, putSl, ofE, sSet, putIm, sRet, outIo, sNil, tT, tNt, mCallD, mFn, fIsi, qCons, qNil, truD, qArgs, qAt, putBack, backE, qAll, getAll, mAnd, mOr, mNot, aCons, aNil, sRaise, sSetF, fGcd, fSetF, tOr2, tAn, putI, mMake, fFld, fl_top, fl_bottom, fNegI, mMethD, isIns, r_c_Ratio_add, m_c_Ratio_add, N_c_Ratio_add, rt, from_odd h]
theorem sub_odd {d : D} (h : Odd d) (p q : Int) : r_c_Ratio_sub [rt p q, d] = .ex 2 [.str (PySem.Str.ofString "other")] none := by
  simp [mAlt, Out.alt, runDef, startE, startGo, sSeq, sIf, tB1, op2, op1, mP, mPl, mC, mV, getD, PV.get, Out.bind, Out.bindS, ofO, ofB, atI, fAdd, fMul, oOr, fI, getOw, fSet, ixN, putSl, ofE, sSet, putIm, sRet, outIo, sNil, tT, tNt, mCallD, mFn, fIsi, qCons, qNil, truD, qArgs, qAt, putBack, backE, qAll, getAll, mAnd, mOr, mNot, aCons, aNil, sRaise, sSetF, fGcd, fSetF, tOr2, tAn, putI, mMake, fFld, fl_top, fl_bottom, fNegI, mMethD, isIns, r_c_Ratio_sub, m_c_Ratio_sub, N_c_Ratio_sub, rt, from_odd h]
theorem mul_odd {d : D} (h : Odd d) (p q : Int) : r_c_Ratio_mul [rt p q, d] = .ex 2 [.str (PySem.Str.ofString "other")] none := by
  simp [mAlt, Out.alt, runDef, startE, startGo, sSeq, sIf, tB1, op2, op1, mP, mPl, mC, mV, getD, PV.get, Out.bind, Out.bindS, ofO, ofB, atI, fAdd, fMul, oOr, fI, getOw, fSet, ixN, putSl, ofE, sSet, putIm, sRet, outIo, sNil, tT, tNt, mCallD, mFn, fIsi, qCons, qNil, truD, qArgs, qAt, putBack, backE, qAll, getAll, mAnd, mOr, mNot, aCons, aNil, sRaise, sSetF, fGcd, fSetF, tOr2, tAn, putI, mMake, fFld, fl_top, fl_bottom, fNegI, mMethD, isIns, r_c_Ratio_mul, m_c_Ratio_mul, N_c_Ratio_mul, rt, from_odd h]
theorem over_odd {d : D} (h : Odd d) (p q : Int) : r_c_Ratio_over [rt p q, d] = .ex 2 [.str (PySem.Str.ofString "other")] none := by
  simp [mAlt, Out.alt, runDef, startE, startGo, sSeq, sIf, tB1, op2, op1, mP, mPl, mC, mV, getD, PV.get, Out.bind, Out.bindS, ofO, ofB, atI, fAdd, fMul, oOr, fI, getOw, fSet, ixN, putSl, ofE, sSet, putIm, sRet, outIo, sNil, tT, tNt, mCallD, mFn, fIsi, qCons, qNil, truD, qArgs, qAt, putBack, backE, qAll, getAll, mAnd, mOr, mNot, aCons, aNil, sRaise, sSetF, fGcd, fSetF, tOr2, tAn, putI, mMake, fFld, fl_top, fl_bottom, fNegI, mMethD, isIns, r_c_Ratio_over, m_c_Ratio_over, N_c_Ratio_over, rt, from_odd h]
theorem compared_odd {d : D} (h : Odd d) (p q : Int) : r_c_Ratio_compared [rt p q, d] = .ex 2 [.str (PySem.Str.ofString "other")] none := by
  simp [mAlt, Out.alt, runDef, startE, startGo, sSeq, sIf, tB1, op2, op1, mP, mPl, mC, mV, getD, PV.get, Out.bind, Out.bindS, ofO, ofB, atI, fAdd, fMul, oOr, fI, getOw, fSet, ixN, putSl, ofE, sSet, putIm, sRet, outIo, sNil, tT, tNt, mCallD, mFn, fIsi, qCons, qNil, truD, qArgs, qAt, putBack, backE, qAll, getAll, mAnd, mOr, mNot, aCons, aNil, sRaise, sSetF, fGcd, fSetF, tOr2, tAn, putI, mMake, fFld, fl_top, fl_bottom, fNegI, mMethD, isIns, r_c_Ratio_compared, m_c_Ratio_compared, N_c_Ratio_compared, rt, from_odd h]
theorem below_odd {d : D} (h : Odd d) (p q : Int) : r_c_Ratio_is_below [rt p q, d] = .ex 2 [.str (PySem.Str.ofString "other")] none := by
  have e := compared_odd h p q
  simp only [rt] at e
  simp [mAlt, Out.alt, runDef, startE, startGo, sSeq, sIf, tB1, op2, op1, mP, mPl, mC, mV, getD, PV.get, Out.bind, Out.bindS, ofO, ofB, atI, fAdd, fMul, oOr, fI, getOw, fSet, ixN, putSl, ofE, sSet, putIm, sRet, outIo, sNil, tT, tNt, mCallD, mFn, fIsi, qCons, qNil, truD, qArgs, qAt, putBack, backE, qAll, getAll, mAnd, mOr, mNot, aCons, aNil, sRaise, sSetF, fGcd, fSetF, tOr2, tAn, putI, mMake, fFld, fl_top, fl_bottom, fNegI, mMethD, isIns, r_c_Ratio_is_below, m_c_Ratio_is_below, N_c_Ratio_is_below, rt, e]
theorem of_odd {d : D} (h : Odd d) : r_c_Ratio_of [d] = .ex 2 [.str (PySem.Str.ofString "value")] none := by
  simp [mAlt, Out.alt, runDef, startE, startGo, sSeq, sIf, tB1, op2, op1, mP, mPl, mC, mV, getD, PV.get, Out.bind, Out.bindS, ofO, ofB, atI, fAdd, fMul, oOr, fI, getOw, fSet, ixN, putSl, ofE, sSet, putIm, sRet, outIo, sNil, tT, tNt, mCallD, mFn, fIsi, qCons, qNil, truD, qArgs, qAt, putBack, backE, qAll, getAll, mAnd, mOr, mNot, aCons, aNil, sRaise, sSetF, fGcd, fSetF, tOr2, tAn, putI, mMake, fFld, fl_top, fl_bottom, fNegI, mMethD, isIns, r_c_Ratio_of, m_c_Ratio_of, N_c_Ratio_of, from_odd h]
theorem of_rat (p q : Int) : r_c_Ratio_of [rt p q] = .ok (rt p q) none := by
  simp [mAlt, Out.alt, runDef, startE, startGo, sSeq, sIf, tB1, op2, op1, mP, mPl, mC, mV, getD, PV.get, Out.bind, Out.bindS, ofO, ofB, atI, fAdd, fMul, oOr, fI, getOw, fSet, ixN, putSl, ofE, sSet, putIm, sRet, outIo, sNil, tT, tNt, mCallD, mFn, fIsi, qCons, qNil, truD, qArgs, qAt, putBack, backE, qAll, getAll, mAnd, mOr, mNot, aCons, aNil, sRaise, sSetF, fGcd, fSetF, tOr2, tAn, putI, mMake, fFld, fl_top, fl_bottom, fNegI, mMethD, isIns, r_c_Ratio_of, m_c_Ratio_of, N_c_Ratio_of, from_rat]
theorem of_int (i : Int) : r_c_Ratio_of [.int i] = .ok (rat i 1) none := by
  simp [mAlt, Out.alt, runDef, startE, startGo, sSeq, sIf, tB1, op2, op1, mP, mPl, mC, mV, getD, PV.get, Out.bind, Out.bindS, ofO, ofB, atI, fAdd, fMul, oOr, fI, getOw, fSet, ixN, putSl, ofE, sSet, putIm, sRet, outIo, sNil, tT, tNt, mCallD, mFn, fIsi, qCons, qNil, truD, qArgs, qAt, putBack, backE, qAll, getAll, mAnd, mOr, mNot, aCons, aNil, sRaise, sSetF, fGcd, fSetF, tOr2, tAn, putI, mMake, fFld, fl_top, fl_bottom, fNegI, mMethD, isIns, r_c_Ratio_of, m_c_Ratio_of, N_c_Ratio_of, from_int]
theorem init_odd1 {d : D} (h : r_f_is_integer [d] = .ok (.bl false) none) (e : D) : ∃ o, r_c_Ratio_init [.ins 1 [], d, e] = .ex 2 [.str (PySem.Str.ofString "top")] o := by
  simp [mAlt, Out.alt, runDef, startE, startGo, sSeq, sIf, tB1, op2, op1, mP, mPl, mC, mV, getD, PV.get, Out.bind, Out.bindS, ofO, ofB, atI, fAdd, fMul, oOr, fI, getOw, fSet, ixN, putSl, ofE, sSet, putIm, sRet, outIo, sNil, tT, tNt, mCallD, mFn, fIsi, qCons, qNil, truD, qArgs, qAt, putBack, backE, qAll, getAll, mAnd, mOr, mNot, aCons, aNil, sRaise, sSetF, fGcd, fSetF, tOr2, tAn, putI, mMake, fFld, fl_top, fl_bottom, fNegI, mMethD, isIns, r_c_Ratio_init, m_c_Ratio_init, N_c_Ratio_init, h]
theorem init_odd2 {d : D} (h : r_f_is_integer [d] = .ok (.bl false) none) (i : Int) : ∃ o, r_c_Ratio_init [.ins 1 [], .int i, d] = .ex 2 [.str (PySem.Str.ofString "bottom")] o := by
  simp [mAlt, Out.alt, runDef, startE, startGo, sSeq, sIf, tB1, op2, op1, mP, mPl, mC, mV, getD, PV.get, Out.bind, Out.bindS, ofO, ofB, atI, fAdd, fMul, oOr, fI, getOw, fSet, ixN, putSl, ofE, sSet, putIm, sRet, outIo, sNil, tT, tNt, mCallD, mFn, fIsi, qCons, qNil, truD, qArgs, qAt, putBack, backE, qAll, getAll, mAnd, mOr, mNot, aCons, aNil, sRaise, sSetF, fGcd, fSetF, tOr2, tAn, putI, mMake, fFld, fl_top, fl_bottom, fNegI, mMethD, isIns, r_c_Ratio_init, m_c_Ratio_init, N_c_Ratio_init, isint_int, h]
theorem init_zero (i : Int) : ∃ o, r_c_Ratio_init [.ins 1 [], .int i, .int 0] = .ex 2 [.str (PySem.Str.ofString "bottom")] o := by
  simp [mAlt, Out.alt, runDef, startE, startGo, sSeq, sIf, tB1, op2, op1, mP, mPl, mC, mV, getD, PV.get, Out.bind, Out.bindS, ofO, ofB, atI, fAdd, fMul, oOr, fI, getOw, fSet, ixN, putSl, ofE, sSet, putIm, sRet, outIo, sNil, tT, tNt, mCallD, mFn, fIsi, qCons, qNil, truD, qArgs, qAt, putBack, backE, qAll, getAll, mAnd, mOr, mNot, aCons, aNil, sRaise, sSetF, fGcd, fSetF, tOr2, tAn, putI, mMake, fFld, fl_top, fl_bottom, fNegI, mMethD, isIns, r_c_Ratio_init, m_c_Ratio_init, N_c_Ratio_init, isint_int, eq_int]
theorem isratio_rat (ds : List D) : r_f_is_ratio [.ins 1 ds] = .ok (.bl true) none := by rfl
theorem isratio_int (i : Int) : r_f_is_ratio [.int i] = .ok (.bl true) none := by rfl
theorem isratio_odd {d : D} (h : Odd d) : r_f_is_ratio [d] = .ok (.bl false) none := by
  simp [mAlt, Out.alt, runDef, startE, startGo, sSeq, sIf, tB1, op2, op1, mP, mPl, mC, mV, getD, PV.get, Out.bind, Out.bindS, ofO, ofB, atI, fAdd, fMul, oOr, fI, getOw, fSet, ixN, putSl, ofE, sSet, putIm, sRet, outIo, sNil, tT, tNt, mCallD, mFn, fIsi, qCons, qNil, truD, qArgs, qAt, putBack, backE, qAll, getAll, mAnd, mOr, mNot, aCons, aNil, sRaise, sSetF, fGcd, fSetF, tOr2, tAn, putI, mMake, fFld, fl_top, fl_bottom, fNegI, mMethD, isIns, -fIsi, r_f_is_ratio, m_f_is_ratio, N_f_is_ratio, h.1, h.2]
end K01
set_option maxRecDepth 100000
set_option maxHeartbeats 2000000
namespace K01
open PySem PySem.Spec PyProof.Rows L2 Ml
theorem ne_int (a b : Int) : fNe (.int a) (.int b) = some (.bl (!decide (a = b))) := by
  have e := eq_int a b
  unfold fEq at e
  obtain ⟨k, h, e⟩ := Option.map_eq_some_iff.mp e
  have e : k = decide (a = b) := by simpa using e
  unfold fNe
  rw [h, e]; rfl
theorem fmod_lt (a b : Int) (hb : b ≠ 0) : (a.fmod b).natAbs < b.natAbs := by
  rcases Int.lt_or_gt_of_ne hb with h | h
  · have hp : 0 < -b := by omega
    have h1 := Int.fmod_nonneg_of_pos (-a) hp
    have h2 := Int.fmod_lt_of_pos (-a) hp
    rw [Int.neg_fmod_neg] at h1 h2
    omega
  · have h1 := Int.fmod_nonneg_of_pos a h
    have h2 := Int.fmod_lt_of_pos a h
    omega
theorem gcd_fmod (a b : Int) : Nat.gcd b.natAbs (a.fmod b).natAbs = Nat.gcd a.natAbs b.natAbs := by
  show Int.gcd b (a.fmod b) = Int.gcd a b
  rw [Int.fmod_def, Int.gcd_comm a b]
  simp [mAlt, Out.alt, runDef, startE, startGo, sSeq, sIf, tB1, op2, op1, mP, mPl, mC, mV, getD, PV.get, Out.bind, Out.bindS, ofO, ofB, atI, fAdd, fMul, oOr, fI, getOw, fSet, ixN, putSl, ofE, sSet, putIm, sRet, outIo, sNil, tT, tNt, mCallD, mFn, fIsi, qCons, qNil, truD, qArgs, qAt, putBack, backE, qAll, getAll, mAnd, mOr, mNot, aCons, aNil, sRaise, sSetF, fGcd, fSetF, tOr2, tAn, putI, mMake, fFld, fl_top, fl_bottom, fNegI, mMethD, isIns]
def dvC : MT := tB1 (op2 fNe (mPl 1) (mP (mC (.int 0))))
def dvB : MS := sPar [0, 1] (aCons (mV 1) (aCons (op2 fModI (mPl 0) (mPl 1)) aNil))
theorem dv_while : ∀ (n : Nat) (a b : Int), b.natAbs < n → ∃ x : Int, x.natAbs = Nat.gcd a.natAbs b.natAbs ∧ whileGo dvC dvB n [.im (.int a), .im (.int b)] = some (.nx [.im (.int x), .im (.int 0)])
  | 0, _, _, h => absurd h (by omega)
  | n + 1, a, b, h => by
    by_cases z : b = 0
    · refine ⟨a, by subst z; simp, ?_⟩
      simp [mAlt, Out.alt, runDef, startE, startGo, sSeq, sIf, tB1, op2, op1, mP, mPl, mC, mV, getD, PV.get, Out.bind, Out.bindS, ofO, ofB, atI, fAdd, fMul, oOr, fI, getOw, fSet, ixN, putSl, ofE, sSet, putIm, sRet, outIo, sNil, tT, tNt, mCallD, mFn, fIsi, qCons, qNil, truD, qArgs, qAt, putBack, backE, qAll, getAll, mAnd, mOr, mNot, aCons, aNil, sRaise, sSetF, fGcd, fSetF, tOr2, tAn, putI, mMake, fFld, fl_top, fl_bottom, fNegI, mMethD, isIns, whileGo, dvC, ne_int, z]
    · obtain ⟨x, h1, h2⟩ := dv_while n b (a.fmod b) (by have := fmod_lt a b z; omega)
      refine ⟨x, by rw [h1, gcd_fmod], ?_⟩
      simp [mAlt, Out.alt, runDef, startE, startGo, sSeq, sIf, tB1, op2, op1, mP, mPl, mC, mV, getD, PV.get, Out.bind, Out.bindS, ofO, ofB, atI, fAdd, fMul, oOr, fI, getOw, fSet, ixN, putSl, ofE, sSet, putIm, sRet, outIo, sNil, tT, tNt, mCallD, mFn, fIsi, qCons, qNil, truD, qArgs, qAt, putBack, backE, qAll, getAll, mAnd, mOr, mNot, aCons, aNil, sRaise, sSetF, fGcd, fSetF, tOr2, tAn, putI, mMake, fFld, fl_top, fl_bottom, fNegI, mMethD, isIns, whileGo, dvC, dvB, ne_int, z, sPar, putL]
      exact h2
theorem divisor_int (a b : Int) : r_f_law_divisor [.int a, .int b] = .ok (.int (Nat.gcd a.natAbs b.natAbs : Int)) none := by
  obtain ⟨x, h1, h2⟩ := dv_while (b.natAbs + 1) a b (by omega)
  have h3 := sWhile_of h2
  have a1 : (if x < 0 then -x else x) = (Nat.gcd a.natAbs b.natAbs : Int) := by rw [← h1]; split <;> omega
  simp only [dvC, dvB] at h3
  unfold r_f_law_divisor m_f_law_divisor
  simp only [runDef, startE, startGo, sSeq, N_f_law_divisor, List.length_cons, List.length_nil, List.replicate, List.append_nil, Nat.sub_self, reduceCtorEq, if_false, h3]
  simp [mAlt, Out.alt, runDef, startE, startGo, sSeq, sIf, tB1, op2, op1, mP, mPl, mC, mV, getD, PV.get, Out.bind, Out.bindS, ofO, ofB, atI, fAdd, fMul, oOr, fI, getOw, fSet, ixN, putSl, ofE, sSet, putIm, sRet, outIo, sNil, tT, tNt, mCallD, mFn, fIsi, qCons, qNil, truD, qArgs, qAt, putBack, backE, qAll, getAll, mAnd, mOr, mNot, aCons, aNil, sRaise, sSetF, fGcd, fSetF, tOr2, tAn, putI, mMake, fFld, fl_top, fl_bottom, fNegI, mMethD, isIns, fAbs, a1]
theorem due_int (a b : Int) (hb : b ≠ 0) (hs : b.natAbs.log2 < 9000) : r_f_law_due [.int a, .int b] = .ok (.tup [.int (a.fdiv (sg a b)), .int (b.fdiv (sg a b))]) none := by
  have g0 : Nat.gcd a.natAbs b.natAbs ≠ 0 := by
    intro z
    have := (Nat.gcd_eq_zero_iff.mp z).2
    omega
  have g1 : (Nat.gcd a.natAbs b.natAbs).log2 < 9000 := by
    have l : Nat.gcd a.natAbs b.natAbs ≤ b.natAbs := Nat.gcd_le_right _ (by omega)
    have hb0 : b.natAbs ≠ 0 := by omega
    rw [Nat.log2_lt hb0] at hs
    rw [Nat.log2_lt g0]
    omega
  have z2 : 2 ≤ sizeLine := by decide
  by_cases hn : b < 0
  · simp [mAlt, Out.alt, runDef, startE, startGo, sSeq, sIf, tB1, op2, op1, mP, mPl, mC, mV, getD, PV.get, Out.bind, Out.bindS, ofO, ofB, atI, fAdd, fMul, oOr, fI, getOw, fSet, ixN, putSl, ofE, sSet, putIm, sRet, outIo, sNil, tT, tNt, mCallD, mFn, fIsi, qCons, qNil, truD, qArgs, qAt, putBack, backE, qAll, getAll, mAnd, mOr, mNot, aCons, aNil, sRaise, sSetF, fGcd, fSetF, tOr2, tAn, putI, mMake, fFld, fl_top, fl_bottom, fNegI, mMethD, isIns, r_f_law_due, m_f_law_due, N_f_law_due, divisor_int, hn, sg, g0, g1, mTup, z2]
  · simp [mAlt, Out.alt, runDef, startE, startGo, sSeq, sIf, tB1, op2, op1, mP, mPl, mC, mV, getD, PV.get, Out.bind, Out.bindS, ofO, ofB, atI, fAdd, fMul, oOr, fI, getOw, fSet, ixN, putSl, ofE, sSet, putIm, sRet, outIo, sNil, tT, tNt, mCallD, mFn, fIsi, qCons, qNil, truD, qArgs, qAt, putBack, backE, qAll, getAll, mAnd, mOr, mNot, aCons, aNil, sRaise, sSetF, fGcd, fSetF, tOr2, tAn, putI, mMake, fFld, fl_top, fl_bottom, fNegI, mMethD, isIns, r_f_law_due, m_f_law_due, N_f_law_due, divisor_int, hn, sg, g0, g1, mTup, z2]
end K01
set_option maxRecDepth 100000
set_option maxHeartbeats 2000000
namespace K01
open PySem PySem.Spec PyProof.Rows L2 Ml
theorem eq_pair (a b c d : Int) : fEq (.tup [.int a, .int b]) (.tup [.int c, .int d]) = some (.bl (decide (a = c) && decide (b = d))) := by
  have e (x y : Int) : SeqAt.shaped (PyData.tuple [.int x, .int y]) = true := by
    simp only [SeqAt.shaped]; rfl
  have e2 : PyData.eqv (.tuple [.int a, .int b]) (.tuple [.int c, .int d]) = (decide (a = c) && decide (b = d)) := by
    by_cases h : a = c <;> by_cases h' : b = d <;> simp [mAlt, Out.alt, runDef, startE, startGo, sSeq, sIf, tB1, op2, op1, mP, mPl, mC, mV, getD, PV.get, Out.bind, Out.bindS, ofO, ofB, atI, fAdd, fMul, oOr, fI, getOw, fSet, ixN, putSl, ofE, sSet, putIm, sRet, outIo, sNil, tT, tNt, mCallD, mFn, fIsi, qCons, qNil, truD, qArgs, qAt, putBack, backE, qAll, getAll, mAnd, mOr, mNot, aCons, aNil, sRaise, sSetF, fGcd, fSetF, tOr2, tAn, putI, mMake, fFld, fl_top, fl_bottom, fNegI, mMethD, isIns, PyData.eqv, PyData.eqvAll, h, h']
  have t (x y : Int) : toP (.tup [.int x, .int y]) = some (PyData.tuple [.int x, .int y]) := by rfl
  simp [mAlt, Out.alt, runDef, startE, startGo, sSeq, sIf, tB1, op2, op1, mP, mPl, mC, mV, getD, PV.get, Out.bind, Out.bindS, ofO, ofB, atI, fAdd, fMul, oOr, fI, getOw, fSet, ixN, putSl, ofE, sSet, putIm, sRet, outIo, sNil, tT, tNt, mCallD, mFn, fIsi, qCons, qNil, truD, qArgs, qAt, putBack, backE, qAll, getAll, mAnd, mOr, mNot, aCons, aNil, sRaise, sSetF, fGcd, fSetF, tOr2, tAn, putI, mMake, fFld, fl_top, fl_bottom, fNegI, mMethD, isIns, fEq, eqP, t, e, e2]
theorem law_is_rat (p q a b : Int) (hb : b ≠ 0) (hs : b.natAbs.log2 < 9000) : r_f_law_is [rt p q, .int a, .int b] = .ok (.bl (decide (p = a.fdiv (sg a b)) && decide (q = b.fdiv (sg a b)))) none := by
  have z2 : 2 ≤ sizeLine := by decide
  have i := isi_rat
  simp [mAlt, Out.alt, runDef, startE, startGo, sSeq, sIf, tB1, op2, op1, mP, mPl, mC, mV, getD, PV.get, Out.bind, Out.bindS, ofO, ofB, atI, fAdd, fMul, oOr, fI, getOw, fSet, ixN, putSl, ofE, sSet, putIm, sRet, outIo, sNil, tT, tNt, mCallD, mFn, fIsi, qCons, qNil, truD, qArgs, qAt, putBack, backE, qAll, getAll, mAnd, mOr, mNot, aCons, aNil, sRaise, sSetF, fGcd, fSetF, tOr2, tAn, putI, mMake, fFld, fl_top, fl_bottom, fNegI, mMethD, isIns, -fIsi, r_f_law_is, m_f_law_is, N_f_law_is, rt, due_int a b hb hs, i, mTup, z2, eq_pair]
end K01
set_option maxRecDepth 100000
set_option maxHeartbeats 2000000
namespace K01
open PySem PySem.Spec PyProof.Rows L2 Ml
/-- a Ratio or an integer: its top and bottom -/
structure Vl (d : D) (p q : Int) : Prop where
  fr : ∀ s, r_f_ratio_from [d, .str s] = .ok (rt p q) none
  isr : r_f_is_ratio [d] = .ok (.bl true) none
  of : r_c_Ratio_of [d] = .ok (rt p q) none
  eq : ∀ p0 q0, r_c_Ratio_eq [rt p0 q0, d] = .ok (.bl (decide (p0 = p) && decide (q0 = q))) none
  r : okR [1] d = true
theorem vl_rt (p q : Int) : Vl (rt p q) p q := ⟨from_rat p q, isratio_rat _, of_rat p q, fun p0 q0 => eq_rat p0 q0 p q, rfl⟩
theorem rat_int (i : Int) : rat i 1 = rt i 1 := by unfold rat rt; rw [tp_one, bt_one]
theorem eq_rt_int (p q i : Int) : r_c_Ratio_eq [rt p q, .int i] = .ok (.bl (decide (p = i) && decide (q = 1))) none := by
  have h := isi_int i
  have h2 := isint_int i
  by_cases z : q = 1 <;> by_cases z2 : p = i
  all_goals simp [mAlt, Out.alt, runDef, startE, startGo, sSeq, sIf, tB1, op2, op1, mP, mPl, mC, mV, getD, PV.get, Out.bind, Out.bindS, ofO, ofB, atI, fAdd, fMul, oOr, fI, getOw, fSet, ixN, putSl, ofE, sSet, putIm, sRet, outIo, sNil, tT, tNt, mCallD, mFn, qCons, qNil, truD, qArgs, qAt, putBack, backE, qAll, getAll, mAnd, mOr, mNot, aCons, aNil, sRaise, sSetF, fGcd, fSetF, tOr2, tAn, putI, mMake, fFld, fl_top, fl_bottom, fNegI, mMethD, isIns, r_c_Ratio_eq, m_c_Ratio_eq, N_c_Ratio_eq, rt, eq_int, h, h2, z, z2]
theorem vl_int (i : Int) : Vl (.int i) i 1 := ⟨fun s => by rw [from_int, rat_int], isratio_int i, by rw [of_int, rat_int], fun p0 q0 => eq_rt_int p0 q0 i, rfl⟩
theorem sg_eq (a b : Int) : rat a b = rt (tp a b) (bt a b) := rfl
theorem add_v {d : D} {p q p' q' : Int} (v : Vl d p' q') (hq : q ≠ 0) (hq' : q' ≠ 0) (b1 : Bd 1000 p) (b2 : Bd 1000 q) (b3 : Bd 1000 p') (b4 : Bd 1000 q') :
    r_c_Ratio_add [rt p q, d] = .ok (rat (p * q' + p' * q) (q * q')) none := by
  have h := init_rat (p * q' + p' * q) (q * q') (Int.mul_ne_zero hq hq') ((b2.mul b4).log (by decide) (by decide))
  have e := v.fr
  have h1 : p.natAbs.log2 + q'.natAbs.log2 < 1000000 := by have := b1.log (Nat.le_refl _) (by decide); have := b4.log (Nat.le_refl _) (by decide); omega
  have h2 : p'.natAbs.log2 + q.natAbs.log2 < 1000000 := by have := b3.log (Nat.le_refl _) (by decide); have := b2.log (Nat.le_refl _) (by decide); omega
  have h3 : q.natAbs.log2 + q'.natAbs.log2 < 1000000 := by have := b2.log (Nat.le_refl _) (by decide); have := b4.log (Nat.le_refl _) (by decide); omega
  simp only [rt] at e
  simp [mAlt, Out.alt, runDef, startE, startGo, sSeq, sIf, tB1, op2, op1, mP, mPl, mC, mV, getD, PV.get, Out.bind, Out.bindS, ofO, ofB, atI, fAdd, fMul, oOr, fI, getOw, fSet, ixN, putSl, ofE, sSet, putIm, sRet, outIo, sNil, tT, tNt, mCallD, mFn, qCons, qNil, truD, qArgs, qAt, putBack, backE, qAll, getAll, mAnd, mOr, mNot, aCons, aNil, sRaise, sSetF, fGcd, fSetF, tOr2, tAn, putI, mMake, fFld, fl_top, fl_bottom, fNegI, mMethD, isIns, r_c_Ratio_add, m_c_Ratio_add, N_c_Ratio_add, rt, e, h, h1, h2, h3]
theorem sub_v {d : D} {p q p' q' : Int} (v : Vl d p' q') (hq : q ≠ 0) (hq' : q' ≠ 0) (b1 : Bd 1000 p) (b2 : Bd 1000 q) (b3 : Bd 1000 p') (b4 : Bd 1000 q') :
    r_c_Ratio_sub [rt p q, d] = .ok (rat (p * q' - p' * q) (q * q')) none := by
  have h := init_rat (p * q' - p' * q) (q * q') (Int.mul_ne_zero hq hq') ((b2.mul b4).log (by decide) (by decide))
  have e := v.fr
  have h1 : p.natAbs.log2 + q'.natAbs.log2 < 1000000 := by have := b1.log (Nat.le_refl _) (by decide); have := b4.log (Nat.le_refl _) (by decide); omega
  have h2 : p'.natAbs.log2 + q.natAbs.log2 < 1000000 := by have := b3.log (Nat.le_refl _) (by decide); have := b2.log (Nat.le_refl _) (by decide); omega
  have h3 : q.natAbs.log2 + q'.natAbs.log2 < 1000000 := by have := b2.log (Nat.le_refl _) (by decide); have := b4.log (Nat.le_refl _) (by decide); omega
  simp only [rt] at e
  simp [mAlt, Out.alt, runDef, startE, startGo, sSeq, sIf, tB1, op2, op1, mP, mPl, mC, mV, getD, PV.get, Out.bind, Out.bindS, ofO, ofB, atI, fAdd, fMul, oOr, fI, getOw, fSet, ixN, putSl, ofE, sSet, putIm, sRet, outIo, sNil, tT, tNt, mCallD, mFn, qCons, qNil, truD, qArgs, qAt, putBack, backE, qAll, getAll, mAnd, mOr, mNot, aCons, aNil, sRaise, sSetF, fGcd, fSetF, tOr2, tAn, putI, mMake, fFld, fl_top, fl_bottom, fNegI, mMethD, isIns, r_c_Ratio_sub, m_c_Ratio_sub, N_c_Ratio_sub, rt, e, h, h1, h2, h3]
theorem mul_v {d : D} {p q p' q' : Int} (v : Vl d p' q') (hq : q ≠ 0) (hq' : q' ≠ 0) (b1 : Bd 1000 p) (b2 : Bd 1000 q) (b3 : Bd 1000 p') (b4 : Bd 1000 q') :
    r_c_Ratio_mul [rt p q, d] = .ok (rat (p * p') (q * q')) none := by
  have h := init_rat (p * p') (q * q') (Int.mul_ne_zero hq hq') ((b2.mul b4).log (by decide) (by decide))
  have e := v.fr
  have h1 : p.natAbs.log2 + p'.natAbs.log2 < 1000000 := by have := b1.log (Nat.le_refl _) (by decide); have := b3.log (Nat.le_refl _) (by decide); omega
  have h3 : q.natAbs.log2 + q'.natAbs.log2 < 1000000 := by have := b2.log (Nat.le_refl _) (by decide); have := b4.log (Nat.le_refl _) (by decide); omega
  simp only [rt] at e
  simp [mAlt, Out.alt, runDef, startE, startGo, sSeq, sIf, tB1, op2, op1, mP, mPl, mC, mV, getD, PV.get, Out.bind, Out.bindS, ofO, ofB, atI, fAdd, fMul, oOr, fI, getOw, fSet, ixN, putSl, ofE, sSet, putIm, sRet, outIo, sNil, tT, tNt, mCallD, mFn, qCons, qNil, truD, qArgs, qAt, putBack, backE, qAll, getAll, mAnd, mOr, mNot, aCons, aNil, sRaise, sSetF, fGcd, fSetF, tOr2, tAn, putI, mMake, fFld, fl_top, fl_bottom, fNegI, mMethD, isIns, r_c_Ratio_mul, m_c_Ratio_mul, N_c_Ratio_mul, rt, e, h, h1, h3]
theorem over_v {d : D} {p q p' q' : Int} (v : Vl d p' q') (hq : q ≠ 0) (hp' : p' ≠ 0) (b1 : Bd 1000 p) (b2 : Bd 1000 q) (b3 : Bd 1000 p') (b4 : Bd 1000 q') :
    r_c_Ratio_over [rt p q, d] = .ok (rat (p * q') (q * p')) none := by
  have h := init_rat (p * q') (q * p') (Int.mul_ne_zero hq hp') ((b2.mul b3).log (by decide) (by decide))
  have e := v.fr
  have h1 : p.natAbs.log2 + q'.natAbs.log2 < 1000000 := by have := b1.log (Nat.le_refl _) (by decide); have := b4.log (Nat.le_refl _) (by decide); omega
  have h3 : q.natAbs.log2 + p'.natAbs.log2 < 1000000 := by have := b2.log (Nat.le_refl _) (by decide); have := b3.log (Nat.le_refl _) (by decide); omega
  simp only [rt] at e
  simp [mAlt, Out.alt, runDef, startE, startGo, sSeq, sIf, tB1, op2, op1, mP, mPl, mC, mV, getD, PV.get, Out.bind, Out.bindS, ofO, ofB, atI, fAdd, fMul, oOr, fI, getOw, fSet, ixN, putSl, ofE, sSet, putIm, sRet, outIo, sNil, tT, tNt, mCallD, mFn, qCons, qNil, truD, qArgs, qAt, putBack, backE, qAll, getAll, mAnd, mOr, mNot, aCons, aNil, sRaise, sSetF, fGcd, fSetF, tOr2, tAn, putI, mMake, fFld, fl_top, fl_bottom, fNegI, mMethD, isIns, r_c_Ratio_over, m_c_Ratio_over, N_c_Ratio_over, rt, e, h, h1, h3, hp', eq_int]
theorem compared_v {d : D} {p q p' q' : Int} (v : Vl d p' q') (b1 : Bd 1000 p) (b2 : Bd 1000 q) (b3 : Bd 1000 p') (b4 : Bd 1000 q') :
    r_c_Ratio_compared [rt p q, d] = .ok (.int (if p * q' - p' * q < 0 then -1 else if 0 < p * q' - p' * q then 1 else 0)) none := by
  have e := v.fr
  have h1 : p.natAbs.log2 + q'.natAbs.log2 < 1000000 := by have := b1.log (Nat.le_refl _) (by decide); have := b4.log (Nat.le_refl _) (by decide); omega
  have h2 : p'.natAbs.log2 + q.natAbs.log2 < 1000000 := by have := b3.log (Nat.le_refl _) (by decide); have := b2.log (Nat.le_refl _) (by decide); omega
  simp only [rt] at e
  by_cases z : p * q' - p' * q < 0
  · simp [mAlt, Out.alt, runDef, startE, startGo, sSeq, sIf, tB1, op2, op1, mP, mPl, mC, mV, getD, PV.get, Out.bind, Out.bindS, ofO, ofB, atI, fAdd, fMul, oOr, fI, getOw, fSet, ixN, putSl, ofE, sSet, putIm, sRet, outIo, sNil, tT, tNt, mCallD, mFn, qCons, qNil, truD, qArgs, qAt, putBack, backE, qAll, getAll, mAnd, mOr, mNot, aCons, aNil, sRaise, sSetF, fGcd, fSetF, tOr2, tAn, putI, mMake, fFld, fl_top, fl_bottom, fNegI, mMethD, isIns, r_c_Ratio_compared, m_c_Ratio_compared, N_c_Ratio_compared, rt, e, h1, h2, z]
  · have z1 : (decide (p * q' - p' * q < 0)) = false := decide_eq_false z
    by_cases z2 : p' * q < p * q'
    · simp [mAlt, Out.alt, runDef, startE, startGo, sSeq, sIf, tB1, op2, op1, mP, mPl, mC, mV, getD, PV.get, Out.bind, Out.bindS, ofO, ofB, atI, fAdd, fMul, oOr, fI, getOw, fSet, ixN, putSl, ofE, sSet, putIm, sRet, outIo, sNil, tT, tNt, mCallD, mFn, qCons, qNil, truD, qArgs, qAt, putBack, backE, qAll, getAll, mAnd, mOr, mNot, aCons, aNil, sRaise, sSetF, fGcd, fSetF, tOr2, tAn, putI, mMake, fFld, fl_top, fl_bottom, fNegI, mMethD, isIns, r_c_Ratio_compared, m_c_Ratio_compared, N_c_Ratio_compared, rt, e, h1, h2, z, z2, mIf]
    · simp [mAlt, Out.alt, runDef, startE, startGo, sSeq, sIf, tB1, op2, op1, mP, mPl, mC, mV, getD, PV.get, Out.bind, Out.bindS, ofO, ofB, atI, fAdd, fMul, oOr, fI, getOw, fSet, ixN, putSl, ofE, sSet, putIm, sRet, outIo, sNil, tT, tNt, mCallD, mFn, qCons, qNil, truD, qArgs, qAt, putBack, backE, qAll, getAll, mAnd, mOr, mNot, aCons, aNil, sRaise, sSetF, fGcd, fSetF, tOr2, tAn, putI, mMake, fFld, fl_top, fl_bottom, fNegI, mMethD, isIns, r_c_Ratio_compared, m_c_Ratio_compared, N_c_Ratio_compared, rt, e, h1, h2, z, z2, mIf]
theorem below_v {d : D} {p q p' q' : Int} (v : Vl d p' q') (b1 : Bd 1000 p) (b2 : Bd 1000 q) (b3 : Bd 1000 p') (b4 : Bd 1000 q') :
    r_c_Ratio_is_below [rt p q, d] = .ok (.bl (decide (p * q' - p' * q < 0))) none := by
  have e := compared_v v b1 b2 b3 b4
  simp only [rt] at e
  by_cases z : p * q' - p' * q < 0
  · simp only [if_pos z] at e
    simp [mAlt, Out.alt, runDef, startE, startGo, sSeq, sIf, tB1, op2, op1, mP, mPl, mC, mV, getD, PV.get, Out.bind, Out.bindS, ofO, ofB, atI, fAdd, fMul, oOr, fI, getOw, fSet, ixN, putSl, ofE, sSet, putIm, sRet, outIo, sNil, tT, tNt, mCallD, mFn, qCons, qNil, truD, qArgs, qAt, putBack, backE, qAll, getAll, mAnd, mOr, mNot, aCons, aNil, sRaise, sSetF, fGcd, fSetF, tOr2, tAn, putI, mMake, fFld, fl_top, fl_bottom, fNegI, mMethD, isIns, r_c_Ratio_is_below, m_c_Ratio_is_below, N_c_Ratio_is_below, rt, e, z, eq_int]
  · by_cases z2 : 0 < p * q' - p' * q
    · simp only [if_neg z, if_pos z2] at e
      simp [mAlt, Out.alt, runDef, startE, startGo, sSeq, sIf, tB1, op2, op1, mP, mPl, mC, mV, getD, PV.get, Out.bind, Out.bindS, ofO, ofB, atI, fAdd, fMul, oOr, fI, getOw, fSet, ixN, putSl, ofE, sSet, putIm, sRet, outIo, sNil, tT, tNt, mCallD, mFn, qCons, qNil, truD, qArgs, qAt, putBack, backE, qAll, getAll, mAnd, mOr, mNot, aCons, aNil, sRaise, sSetF, fGcd, fSetF, tOr2, tAn, putI, mMake, fFld, fl_top, fl_bottom, fNegI, mMethD, isIns, r_c_Ratio_is_below, m_c_Ratio_is_below, N_c_Ratio_is_below, rt, e, z, eq_int]
    · simp only [if_neg z, if_neg z2] at e
      simp [mAlt, Out.alt, runDef, startE, startGo, sSeq, sIf, tB1, op2, op1, mP, mPl, mC, mV, getD, PV.get, Out.bind, Out.bindS, ofO, ofB, atI, fAdd, fMul, oOr, fI, getOw, fSet, ixN, putSl, ofE, sSet, putIm, sRet, outIo, sNil, tT, tNt, mCallD, mFn, qCons, qNil, truD, qArgs, qAt, putBack, backE, qAll, getAll, mAnd, mOr, mNot, aCons, aNil, sRaise, sSetF, fGcd, fSetF, tOr2, tAn, putI, mMake, fFld, fl_top, fl_bottom, fNegI, mMethD, isIns, r_c_Ratio_is_below, m_c_Ratio_is_below, N_c_Ratio_is_below, rt, e, z, eq_int]
theorem neg_v {p q : Int} (hq : q ≠ 0) (b2 : Bd 1000 q) : r_c_Ratio_neg [rt p q] = .ok (rat (-p) q) none := neg_rat p q hq (b2.log (by decide) (by decide))
/-! lists of values -/
theorem init1 (i : Int) : r_c_Ratio_init [.ins 1 [], .int i, .int 1] = .ok .non (some (rt i 1)) := by
  have h := init_rat i 1 (by decide) (by decide +kernel)
  rw [rat_int] at h; exact h
theorem added_3 {d1 d2 d3 : D} {p1 q1 p2 q2 p3 q3 : Int} (v1 : Vl d1 p1 q1) (v2 : Vl d2 p2 q2) (v3 : Vl d3 p3 q3) {r1 s1 : Int} {r : D}
    (a1 : r_c_Ratio_add [rt 0 1, d1] = .ok (rt p1 q1) none) (a2 : r_c_Ratio_add [rt p1 q1, d2] = .ok (rt r1 s1) none) (a3 : r_c_Ratio_add [rt r1 s1, d3] = .ok r none) : r_f_added [.lst [d1, d2, d3]] = .ok r none := by
  have i := init1 0
  have z : 3 ≤ sizeLine := by decide
  have z2 : 2 ≤ sizeLine := by decide
  have hi (ds : List D) : fIsi t0 [.lst ds, .tup [.ty "list", .ty "tuple"]] = some (.bl true) := by rfl
  have i1 := v1.isr
  have i2 := v2.isr
  have i3 := v3.isr
  have o1 := v1.r
  have o2 := v2.r
  have o3 := v3.r
  simp only [rt] at a1 a2 a3 i
  simp [mAlt, Out.alt, runDef, startE, startGo, sSeq, sIf, tB1, op2, op1, mP, mPl, mC, mV, getD, PV.get, Out.bind, Out.bindS, ofO, ofB, atI, fAdd, fMul, oOr, fI, getOw, fSet, ixN, putSl, ofE, sSet, putIm, sRet, outIo, sNil, tT, tNt, mCallD, mFn, qCons, qNil, truD, qArgs, qAt, putBack, backE, qAll, getAll, mAnd, mOr, mNot, aCons, aNil, sRaise, sSetF, fGcd, fSetF, tOr2, tAn, putI, mMake, fFld, fl_top, fl_bottom, fNegI, mMethD, isIns, r_f_added, m_f_added, N_f_added, mTup, hi, z2, mLc, iSeq, noOwn, z, lcGo, wipeE, mergeE, gNm, tTrue, i1, i2, i3, fAllL, blsD, i, sFor, forGo, op2X, ownB, xOr, OF.out, a1, a2, a3, o1, o2, o3, rt]
/-- in lowest terms -/
structure Low (p q : Int) : Prop where
  pos : 0 < q
  gcd : Nat.gcd p.natAbs q.natAbs = 1
theorem rat_low {p q : Int} (h : Low p q) : rat p q = rt p q := by unfold rat rt; rw [tp_low h.pos h.gcd, bt_low h.pos h.gcd]
theorem Low.neg {p q : Int} (h : Low p q) : Low (-p) q := ⟨h.pos, by rw [Int.natAbs_neg]; exact h.gcd⟩
theorem Low.ne {p q : Int} (h : Low p q) : q ≠ 0 := by have := h.pos; omega
theorem low_tb (a : Int) {b : Int} (hb : b ≠ 0) : Low (tp a b) (bt a b) := ⟨bt_pos hb, tb_gcd hb⟩
theorem low_one (a : Int) : Low a 1 := ⟨by decide, Nat.gcd_one_right _⟩
theorem isi_lst (ds : List D) : fIsi t0 [.lst ds, .tup [.ty "list", .ty "tuple"]] = some (.bl true) := by rfl
theorem isi_tup (ds : List D) : fIsi t0 [.tup ds, .tup [.ty "list", .ty "tuple"]] = some (.bl true) := by rfl
theorem greatest_l2 {d1 d2 : D} {p1 q1 p2 q2 : Int} (v1 : Vl d1 p1 q1) (v2 : Vl d2 p2 q2) (b1 : Bd 1000 p1) (b2 : Bd 1000 q1) (b3 : Bd 1000 p2) (b4 : Bd 1000 q2) : r_f_greatest_of [.lst [d1, d2]] = .ok (if p1 * q2 - p2 * q1 < 0 then rt p2 q2 else rt p1 q1) none := by
  have z2 : 2 ≤ sizeLine := by decide
  have hi := isi_lst
  have i1 := v1.isr
  have i2 := v2.isr
  have o1 := v1.of
  have o2 := v2.of
  have c1 := below_v v1 b1 b2 b1 b2
  have c2 := below_v v2 b1 b2 b3 b4
  rw [Int.sub_self] at c1
  simp only [rt] at o1 o2 c1 c2
  by_cases h : p1 * q2 - p2 * q1 < 0
  · simp only [h] at c2
    simp [mAlt, Out.alt, runDef, startE, startGo, sSeq, sIf, tB1, op2, op1, mP, mPl, mC, mV, getD, PV.get, Out.bind, Out.bindS, ofO, ofB, atI, fAdd, fMul, oOr, fI, getOw, fSet, ixN, putSl, ofE, sSet, putIm, sRet, outIo, sNil, tT, tNt, mCallD, mFn, qCons, qNil, truD, qArgs, qAt, putBack, backE, qAll, getAll, mAnd, mOr, mNot, aCons, aNil, sRaise, sSetF, fGcd, fSetF, tOr2, tAn, putI, mMake, fFld, fl_top, fl_bottom, fNegI, mMethD, isIns, r_f_greatest_of, m_f_greatest_of, N_f_greatest_of, mTup, hi, z2, mLc, iSeq, noOwn, lcGo, wipeE, mergeE, gNm, tTrue, i1, i2, fAllL, blsD, sFor, forGo, op2X, ownB, xOr, OF.out, rt, fLen, eq_int, fIx, o1, o2, c1, c2, h]
  · simp only [h] at c2
    simp [mAlt, Out.alt, runDef, startE, startGo, sSeq, sIf, tB1, op2, op1, mP, mPl, mC, mV, getD, PV.get, Out.bind, Out.bindS, ofO, ofB, atI, fAdd, fMul, oOr, fI, getOw, fSet, ixN, putSl, ofE, sSet, putIm, sRet, outIo, sNil, tT, tNt, mCallD, mFn, qCons, qNil, truD, qArgs, qAt, putBack, backE, qAll, getAll, mAnd, mOr, mNot, aCons, aNil, sRaise, sSetF, fGcd, fSetF, tOr2, tAn, putI, mMake, fFld, fl_top, fl_bottom, fNegI, mMethD, isIns, r_f_greatest_of, m_f_greatest_of, N_f_greatest_of, mTup, hi, z2, mLc, iSeq, noOwn, lcGo, wipeE, mergeE, gNm, tTrue, i1, i2, fAllL, blsD, sFor, forGo, op2X, ownB, xOr, OF.out, rt, fLen, eq_int, fIx, o1, o2, c1, c2, h]
theorem greatest_t2 {d1 d2 : D} {p1 q1 p2 q2 : Int} (v1 : Vl d1 p1 q1) (v2 : Vl d2 p2 q2) (b1 : Bd 1000 p1) (b2 : Bd 1000 q1) (b3 : Bd 1000 p2) (b4 : Bd 1000 q2) : r_f_greatest_of [.tup [d1, d2]] = .ok (if p1 * q2 - p2 * q1 < 0 then rt p2 q2 else rt p1 q1) none := by
  have z2 : 2 ≤ sizeLine := by decide
  have hi := isi_tup
  have i1 := v1.isr
  have i2 := v2.isr
  have o1 := v1.of
  have o2 := v2.of
  have c1 := below_v v1 b1 b2 b1 b2
  have c2 := below_v v2 b1 b2 b3 b4
  rw [Int.sub_self] at c1
  simp only [rt] at o1 o2 c1 c2
  by_cases h : p1 * q2 - p2 * q1 < 0
  · simp only [h] at c2
    simp [mAlt, Out.alt, runDef, startE, startGo, sSeq, sIf, tB1, op2, op1, mP, mPl, mC, mV, getD, PV.get, Out.bind, Out.bindS, ofO, ofB, atI, fAdd, fMul, oOr, fI, getOw, fSet, ixN, putSl, ofE, sSet, putIm, sRet, outIo, sNil, tT, tNt, mCallD, mFn, qCons, qNil, truD, qArgs, qAt, putBack, backE, qAll, getAll, mAnd, mOr, mNot, aCons, aNil, sRaise, sSetF, fGcd, fSetF, tOr2, tAn, putI, mMake, fFld, fl_top, fl_bottom, fNegI, mMethD, isIns, r_f_greatest_of, m_f_greatest_of, N_f_greatest_of, mTup, hi, z2, mLc, iSeq, noOwn, lcGo, wipeE, mergeE, gNm, tTrue, i1, i2, fAllL, blsD, sFor, forGo, op2X, ownB, xOr, OF.out, rt, fLen, eq_int, fIx, o1, o2, c1, c2, h]
  · simp only [h] at c2
    simp [mAlt, Out.alt, runDef, startE, startGo, sSeq, sIf, tB1, op2, op1, mP, mPl, mC, mV, getD, PV.get, Out.bind, Out.bindS, ofO, ofB, atI, fAdd, fMul, oOr, fI, getOw, fSet, ixN, putSl, ofE, sSet, putIm, sRet, outIo, sNil, tT, tNt, mCallD, mFn, qCons, qNil, truD, qArgs, qAt, putBack, backE, qAll, getAll, mAnd, mOr, mNot, aCons, aNil, sRaise, sSetF, fGcd, fSetF, tOr2, tAn, putI, mMake, fFld, fl_top, fl_bottom, fNegI, mMethD, isIns, r_f_greatest_of, m_f_greatest_of, N_f_greatest_of, mTup, hi, z2, mLc, iSeq, noOwn, lcGo, wipeE, mergeE, gNm, tTrue, i1, i2, fAllL, blsD, sFor, forGo, op2X, ownB, xOr, OF.out, rt, fLen, eq_int, fIx, o1, o2, c1, c2, h]
theorem least_l2 {d1 d2 : D} {p1 q1 p2 q2 : Int} (v1 : Vl d1 p1 q1) (v2 : Vl d2 p2 q2) (l1 : Low p1 q1) (l2 : Low p2 q2) (b1 : Bd 1000 p1) (b2 : Bd 1000 q1) (b3 : Bd 1000 p2) (b4 : Bd 1000 q2) : r_f_least_of [.lst [d1, d2]] = .ok (if p2 * q1 - p1 * q2 < 0 then rt p2 q2 else rt p1 q1) none := by
  have z2 : 2 ≤ sizeLine := by decide
  have hi := isi_lst
  have i1 := v1.isr
  have i2 := v2.isr
  have o1 := v1.of
  have o2 := v2.of
  have n1 := neg_v (p := p1) l1.ne b2
  have n2 := neg_v (p := p2) l2.ne b4
  have m1 := neg_v (p := -p1) l1.ne b2
  have m2 := neg_v (p := -p2) l2.ne b4
  rw [rat_low l1.neg] at n1
  rw [rat_low l2.neg] at n2
  rw [rat_low l1.neg.neg, Int.neg_neg] at m1
  rw [rat_low l2.neg.neg, Int.neg_neg] at m2
  have g := greatest_l2 (vl_rt (-p1) q1) (vl_rt (-p2) q2) b1.neg b2 b3.neg b4
  have e : -p1 * q2 - -p2 * q1 = p2 * q1 - p1 * q2 := by rw [Int.neg_mul, Int.neg_mul]; omega
  rw [e] at g
  simp only [rt] at o1 o2 n1 n2 m1 m2 g
  have hl : 1 ≤ sizeLine := by decide
  by_cases h : p2 * q1 - p1 * q2 < 0
  · simp only [h] at g
    simp [mAlt, Out.alt, runDef, startE, startGo, sSeq, sIf, tB1, op2, op1, mP, mPl, mC, mV, getD, PV.get, Out.bind, Out.bindS, ofO, ofB, atI, fAdd, fMul, oOr, fI, getOw, fSet, ixN, putSl, ofE, sSet, putIm, sRet, outIo, sNil, tT, tNt, mCallD, mFn, qCons, qNil, truD, qArgs, qAt, putBack, backE, qAll, getAll, mAnd, mOr, mNot, aCons, aNil, sRaise, sSetF, fGcd, fSetF, tOr2, tAn, putI, mMake, fFld, fl_top, fl_bottom, fNegI, mMethD, isIns, r_f_least_of, m_f_least_of, N_f_least_of, mTup, hi, z2, mLc, iSeq, noOwn, lcGo, wipeE, mergeE, gNm, tTrue, i1, i2, fAllL, blsD, sFor, forGo, op2X, ownB, xOr, OF.out, rt, fLen, eq_int, fIx, o1, o2, h, op1X, ownU, n1, n2, m1, m2, g]
  · simp only [h] at g
    simp [mAlt, Out.alt, runDef, startE, startGo, sSeq, sIf, tB1, op2, op1, mP, mPl, mC, mV, getD, PV.get, Out.bind, Out.bindS, ofO, ofB, atI, fAdd, fMul, oOr, fI, getOw, fSet, ixN, putSl, ofE, sSet, putIm, sRet, outIo, sNil, tT, tNt, mCallD, mFn, qCons, qNil, truD, qArgs, qAt, putBack, backE, qAll, getAll, mAnd, mOr, mNot, aCons, aNil, sRaise, sSetF, fGcd, fSetF, tOr2, tAn, putI, mMake, fFld, fl_top, fl_bottom, fNegI, mMethD, isIns, r_f_least_of, m_f_least_of, N_f_least_of, mTup, hi, z2, mLc, iSeq, noOwn, lcGo, wipeE, mergeE, gNm, tTrue, i1, i2, fAllL, blsD, sFor, forGo, op2X, ownB, xOr, OF.out, rt, fLen, eq_int, fIx, o1, o2, h, op1X, ownU, n1, n2, m1, m2, g]
end K01
set_option maxRecDepth 100000
set_option maxHeartbeats 4000000
namespace K01
open PySem PySem.Spec PyProof.Rows L2 Ml
theorem over_low {a b c d : Int} (hb : b ≠ 0) (hd : d ≠ 0) (hc : c ≠ 0) :
    tp (tp a b * bt c d) (bt a b * tp c d) = tp (a * d) (b * c) ∧ bt (tp a b * bt c d) (bt a b * tp c d) = bt (a * d) (b * c) := by
  have e1 := tp_mul a b
  have e2 := bt_mul a b
  have e3 := tp_mul c d
  have e4 := bt_mul c d
  have s := sg_ne (a := a) hb
  have t := sg_ne (a := c) hd
  have q := bt_ne (a := a) hb
  have q' : tp c d ≠ 0 := fun z => hc ((tp_ne hd).mp z)
  have f1 : a * d = (sg a b * sg c d) * (tp a b * bt c d) := by
    have x1 : sg a b * sg c d * (tp a b * bt c d) = (tp a b * sg a b) * (bt c d * sg c d) := by
      simp only [Int.mul_comm, Int.mul_left_comm, Int.mul_assoc]
    rw [x1, e1, e4]
  have f2 : b * c = (sg a b * sg c d) * (bt a b * tp c d) := by
    have x1 : sg a b * sg c d * (bt a b * tp c d) = (bt a b * sg a b) * (tp c d * sg c d) := by
      simp only [Int.mul_comm, Int.mul_left_comm, Int.mul_assoc]
    rw [x1, e2, e3]
  rw [f1, f2]
  exact ⟨(tp_scale (Int.mul_ne_zero s t) (Int.mul_ne_zero q q')).symm, (bt_scale (Int.mul_ne_zero s t) (Int.mul_ne_zero q q')).symm⟩
theorem is_low {x y a b : Int} (h : tp x y = tp a b ∧ bt x y = bt a b) (hb : b ≠ 0) (s : Bd 1000 b) : r_f_law_is [rat x y, .int a, .int b] = .ok (.bl true) none := by
  have e := law_is_rat (tp x y) (bt x y) a b hb (s.log (by decide) (by decide))
  have h1 : tp x y = a.fdiv (sg a b) := h.1
  have h2 : bt x y = b.fdiv (sg a b) := h.2
  rw [decide_eq_true h1, decide_eq_true h2] at e
  exact e
theorem okR_rt (fs : List D) : okR [1] (.ins 1 fs) = true := rfl
theorem int_bl (b : Bool) : fIntU [.bl b] = some (.int (if b then 1 else 0)) := by rfl
theorem eq_bl (a b : Bool) : fEq (.bl a) (.bl b) = some (.bl (a == b)) := by
  cases a <;> cases b <;> rfl
theorem ne_bl (a b : Bool) : fNe (.bl a) (.bl b) = some (.bl (!(a == b))) := by
  cases a <;> cases b <;> rfl
theorem ne_self (a : Int) : fNe (.int a) (.int a) = some (.bl false) := by rw [ne_int]; simp [mAlt, Out.alt, runDef, startE, startGo, sSeq, sIf, tB1, op2, op1, mP, mPl, mC, mV, getD, PV.get, Out.bind, Out.bindS, ofO, ofB, atI, fAdd, fMul, oOr, fI, getOw, fSet, ixN, putSl, ofE, sSet, putIm, sRet, outIo, sNil, tT, tNt, mCallD, mFn, qCons, qNil, truD, qArgs, qAt, putBack, backE, qAll, getAll, mAnd, mOr, mNot, aCons, aNil, sRaise, sSetF, fGcd, fSetF, tOr2, tAn, putI, mMake, fFld, fl_top, fl_bottom, fNegI, mMethD, isIns]
theorem sums_ok {a0 a1 b0 b1 : Int} {d : D} (ha : a1 ≠ 0) (hb : b1 ≠ 0) (B1 : Bd 100 a0) (B2 : Bd 100 a1) (B3 : Bd 100 b0) (B4 : Bd 100 b1) (v : Vl d (tp b0 b1) (bt b0 b1)) :
    r_f_law_sums_right [.tup [.int a0, .int a1], .tup [.int b0, .int b1], rt (tp a0 a1) (bt a0 a1), d] = .ok (.bl true) none := by
  have lP := low_tb a0 ha
  have lP' := low_tb b0 hb
  have k1 := (B1.tp a1).mono (show 100 ≤ 1000 by decide)
  have k2 := (B2.bt a0).mono (show 100 ≤ 1000 by decide)
  have k3 := (B3.tp b1).mono (show 100 ≤ 1000 by decide)
  have k4 := (B4.bt b0).mono (show 100 ≤ 1000 by decide)
  have S1 := add_v v lP.ne lP'.ne k1 k2 k3 k4
  have S2 := sub_v v lP.ne lP'.ne k1 k2 k3 k4
  have S3 := mul_v v lP.ne lP'.ne k1 k2 k3 k4
  have M1 : Bd 1000 (a1 * b1) := (B2.mul B4).mono (by decide)
  have I1 := is_low (add_low (a := a0) (c := b0) ha hb) (Int.mul_ne_zero ha hb) M1
  have I2 := is_low (add_low (a := a0) (c := -b0) ha hb) (Int.mul_ne_zero ha hb) M1
  have I3 := is_low (mul_low (a := a0) (c := b0) ha hb) (Int.mul_ne_zero ha hb) M1
  rw [(tp_neg hb).1, (tp_neg hb).2, Int.neg_mul, Int.neg_mul, ← Int.sub_eq_add_neg, ← Int.sub_eq_add_neg] at I2
  have C := compared_v v k1 k2 k3 k4
  have W := below_v v k1 k2 k3 k4
  have G := greatest_t2 (vl_rt (tp a0 a1) (bt a0 a1)) v k1 k2 k3 k4
  have L := least_l2 (vl_rt (tp a0 a1) (bt a0 a1)) v lP lP' k1 k2 k3 k4
  have E1 := v.eq
  have E2 := (vl_rt (tp a0 a1) (bt a0 a1)).eq
  have q' := v.r
  have A1 : r_c_Ratio_add [rt 0 1, rt (tp a0 a1) (bt a0 a1)] = .ok (rt (tp a0 a1) (bt a0 a1)) none := by
    have := add_v (vl_rt (tp a0 a1) (bt a0 a1)) (p := 0) (q := 1) (by decide) lP.ne (Bd.mono (n := 1) (by unfold Bd; decide) (by decide)) (Bd.mono (n := 1) (by unfold Bd; decide) (by decide)) k1 k2
    rw [Int.zero_mul, Int.zero_add, Int.mul_one, Int.one_mul, rat_low lP] at this
    exact this
  obtain ⟨r, s, hr, hrs, Br, Bs⟩ : ∃ r s : Int, rat (tp a0 a1 * bt b0 b1 + tp b0 b1 * bt a0 a1) (bt a0 a1 * bt b0 b1) = rt r s ∧ s ≠ 0 ∧ Bd 1000 r ∧ Bd 1000 s := by
    refine ⟨_, _, rfl, bt_ne (Int.mul_ne_zero lP.ne lP'.ne), Bd.tp _ (Bd.mono (Bd.add ((B1.tp a1).mul (B4.bt b0)) ((B3.tp b1).mul (B2.bt a0))) (by decide)), Bd.bt _ (Bd.mono ((B2.bt a0).mul (B4.bt b0)) (by decide))⟩
  have A3 := add_v (vl_rt (tp a0 a1) (bt a0 a1)) (p := r) (q := s) hrs lP.ne Br Bs k1 k2
  have n1 : a0.natAbs.log2 + b1.natAbs.log2 < 1000000 := by have := B1.log (Nat.le_refl _) (by decide); have := B4.log (Nat.le_refl _) (by decide); omega
  have n2 : b0.natAbs.log2 + a1.natAbs.log2 < 1000000 := by have := B3.log (Nat.le_refl _) (by decide); have := B2.log (Nat.le_refl _) (by decide); omega
  have n3 : a1.natAbs.log2 + b1.natAbs.log2 < 1000000 := by have := B2.log (Nat.le_refl _) (by decide); have := B4.log (Nat.le_refl _) (by decide); omega
  have n4 : a0.natAbs.log2 + b0.natAbs.log2 < 1000000 := by have := B1.log (Nat.le_refl _) (by decide); have := B3.log (Nat.le_refl _) (by decide); omega
  have n5 : a1.natAbs.log2 + b0.natAbs.log2 < 1000000 := by omega
  have n6 : (a0 * b1 - b0 * a1).natAbs.log2 + (a1 * b1).natAbs.log2 < 1000000 := by
    have := (Bd.sub (B1.mul B4) (B3.mul B2)).log (m := 1000) (by decide) (by decide)
    have := (B2.mul B4).log (m := 1000) (by decide) (by decide)
    omega
  have sgn := sub_sign (a := a0) (c := b0) ha hb
  have eqv := low_iff (a := a0) (c := b0) ha hb
  have z2 : 2 ≤ sizeLine := by decide
  have z3 : 3 ≤ sizeLine := by decide
  have OV : b0 ≠ 0 → ∃ rr, r_c_Ratio_over [rt (tp a0 a1) (bt a0 a1), d] = .ok rr none ∧ r_f_law_is [rr, .int (a0 * b1), .int (a1 * b0)] = .ok (.bl true) none := fun h0 =>
    ⟨_, over_v v lP.ne (fun z => h0 ((tp_ne hb).mp z)) k1 k2 k3 k4, is_low (over_low ha hb h0) (Int.mul_ne_zero ha h0) ((B2.mul B3).mono (by decide))⟩
  rw [hr] at S1 I1
  have ez : (a0 * b1 - b0 * a1) * (a1 * b1) = 0 ↔ tp a0 a1 = tp b0 b1 ∧ bt a0 a1 = bt b0 b1 := by
    rw [eqv]
    constructor
    · intro h
      rcases Int.mul_eq_zero.mp h with h | h
      · omega
      · exact absurd h (Int.mul_ne_zero ha hb)
    · intro h; rw [h, Int.sub_self, Int.zero_mul]
  obtain ⟨r2, S2, I2⟩ : ∃ rr, r_c_Ratio_sub [rt (tp a0 a1) (bt a0 a1), d] = .ok rr none ∧ r_f_law_is [rr, .int (a0 * b1 - b0 * a1), .int (a1 * b1)] = .ok (.bl true) none := ⟨_, S2, I2⟩
  obtain ⟨r3, S3, I3⟩ : ∃ rr, r_c_Ratio_mul [rt (tp a0 a1) (bt a0 a1), d] = .ok rr none ∧ r_f_law_is [rr, .int (a0 * b0), .int (a1 * b1)] = .ok (.bl true) none := ⟨_, S3, I3⟩
  have A3 : ∃ x y, r_c_Ratio_add [rt r s, rt (tp a0 a1) (bt a0 a1)] = .ok (rt x y) none := ⟨_, _, A3⟩
  obtain ⟨x, y, A3⟩ := A3
  have AA := added_3 (vl_rt (tp a0 a1) (bt a0 a1)) v (vl_rt (tp a0 a1) (bt a0 a1)) A1 S1 A3
  have E3 := eq_rat x y x y
  generalize tp a0 a1 = P at *
  generalize bt a0 a1 = Q at *
  generalize tp b0 b1 = P' at *
  generalize bt b0 b1 = Q' at *
  have h0 : (b0 ≠ 0 → ∃ rr, r_c_Ratio_over [rt P Q, d] = .ok rr none ∧ r_f_law_is [rr, .int (a0 * b1), .int (a1 * b0)] = .ok (.bl true) none) := OV
  simp only [rt] at *
  rcases Int.lt_trichotomy (P * Q' - P' * Q) 0 with z | z | z
  · have c1 : (a0 * b1 - b0 * a1) * (a1 * b1) < 0 := sgn.1.mpr z
    have c2 : ¬ (0 < (a0 * b1 - b0 * a1) * (a1 * b1)) := by omega
    have c3 : ¬ ((a0 * b1 - b0 * a1) * (a1 * b1) = 0) := by omega
    have cle : (a0 * b1 - b0 * a1) * (a1 * b1) ≤ 0 := by omega
    have c4 : ¬ (P' * Q - P * Q' < 0) := by omega
    have c5 := E1 P' Q'
    have c6 := E2 P Q
    have c7 := E1 P Q
    have c8 : (decide (P = P') && decide (Q = Q')) = false := by
      rw [Bool.and_eq_false_iff, decide_eq_false_iff_not, decide_eq_false_iff_not]
      by_cases e : P = P'
      · exact .inr fun e2 => c3 (ez.mpr ⟨e, e2⟩)
      · exact .inl e
    rw [c8] at c7
    simp only [if_pos z, if_neg c4] at C G L
    rw [decide_eq_true z] at W
    by_cases hb0 : b0 = 0
    · have hN : fNe (.int b0) (.int 0) = some (.bl false) := by rw [ne_int, decide_eq_true hb0]; rfl
      simp [mAlt, Out.alt, runDef, startE, startGo, sSeq, sIf, tB1, op2, op1, mP, mPl, mC, mV, getD, PV.get, Out.bind, Out.bindS, ofO, ofB, atI, fAdd, fMul, oOr, fI, getOw, fSet, ixN, putSl, ofE, sSet, putIm, sRet, outIo, sNil, tT, tNt, mCallD, mFn, qCons, qNil, truD, qArgs, qAt, putBack, backE, qAll, getAll, mAnd, mOr, mNot, aCons, aNil, sRaise, sSetF, fGcd, fSetF, tOr2, tAn, putI, mMake, fFld, fl_top, fl_bottom, fNegI, mMethD, isIns, r_f_law_sums_right, m_f_law_sums_right, N_f_law_sums_right, op2X, ownB, xOr, OF.out, fIx, q', okR_rt, S1, I1, S2, I2, S3, I3, n1, n2, n3, n4, n5, n6, hN, C, W, c1, c2, c3, int_bl, -Int.mul_eq_zero, ne_self, ne_bl, eq_bl, c5, c6, c7, eq_int, mTup, mLst, mIf, gTp, gsCons, gsNil, gNm, sAsg, z2, z3, cle, G, L, A3, AA, E3]
    · have hN : fNe (.int b0) (.int 0) = some (.bl true) := by rw [ne_int, decide_eq_false hb0]; rfl
      obtain ⟨r4, O1, O2⟩ := OV hb0
      simp [mAlt, Out.alt, runDef, startE, startGo, sSeq, sIf, tB1, op2, op1, mP, mPl, mC, mV, getD, PV.get, Out.bind, Out.bindS, ofO, ofB, atI, fAdd, fMul, oOr, fI, getOw, fSet, ixN, putSl, ofE, sSet, putIm, sRet, outIo, sNil, tT, tNt, mCallD, mFn, qCons, qNil, truD, qArgs, qAt, putBack, backE, qAll, getAll, mAnd, mOr, mNot, aCons, aNil, sRaise, sSetF, fGcd, fSetF, tOr2, tAn, putI, mMake, fFld, fl_top, fl_bottom, fNegI, mMethD, isIns, r_f_law_sums_right, m_f_law_sums_right, N_f_law_sums_right, op2X, ownB, xOr, OF.out, fIx, q', okR_rt, S1, I1, S2, I2, S3, I3, n1, n2, n3, n4, n5, n6, hN, C, W, c1, c2, c3, int_bl, -Int.mul_eq_zero, ne_self, ne_bl, eq_bl, c5, c6, c7, eq_int, mTup, mLst, mIf, gTp, gsCons, gsNil, gNm, sAsg, z2, z3, cle, G, L, A3, AA, E3, O1, O2]
  · have c3 : (a0 * b1 - b0 * a1) * (a1 * b1) = 0 := by
      have h1 := sgn.1; have h2 := sgn.2; omega
    have c1 : ¬ (a0 * b1 - b0 * a1) * (a1 * b1) < 0 := by omega
    have c2 : ¬ (0 < (a0 * b1 - b0 * a1) * (a1 * b1)) := by omega
    have cle : (a0 * b1 - b0 * a1) * (a1 * b1) ≤ 0 := by omega
    have c4 : ¬ (P' * Q - P * Q' < 0) := by omega
    have z' : ¬ (P * Q' - P' * Q < 0) := by omega
    have z'' : ¬ (0 < P * Q' - P' * Q) := by omega
    have c6 := E2 P Q
    have c7 := E1 P Q
    have c8 := ez.mp c3
    rw [decide_eq_true c8.1, decide_eq_true c8.2] at c7
    have c5 := c7
    simp only [if_neg z', if_neg z'', if_neg c4] at C G L
    rw [decide_eq_false z'] at W
    by_cases hb0 : b0 = 0
    · have hN : fNe (.int b0) (.int 0) = some (.bl false) := by rw [ne_int, decide_eq_true hb0]; rfl
      simp [mAlt, Out.alt, runDef, startE, startGo, sSeq, sIf, tB1, op2, op1, mP, mPl, mC, mV, getD, PV.get, Out.bind, Out.bindS, ofO, ofB, atI, fAdd, fMul, oOr, fI, getOw, fSet, ixN, putSl, ofE, sSet, putIm, sRet, outIo, sNil, tT, tNt, mCallD, mFn, qCons, qNil, truD, qArgs, qAt, putBack, backE, qAll, getAll, mAnd, mOr, mNot, aCons, aNil, sRaise, sSetF, fGcd, fSetF, tOr2, tAn, putI, mMake, fFld, fl_top, fl_bottom, fNegI, mMethD, isIns, r_f_law_sums_right, m_f_law_sums_right, N_f_law_sums_right, op2X, ownB, xOr, OF.out, fIx, q', okR_rt, S1, I1, S2, I2, S3, I3, n1, n2, n3, n4, n5, n6, hN, C, W, c1, c2, c3, int_bl, -Int.mul_eq_zero, ne_self, ne_bl, eq_bl, c5, c6, c7, eq_int, mTup, mLst, mIf, gTp, gsCons, gsNil, gNm, sAsg, z2, z3, cle, G, L, A3, AA, E3]
    · have hN : fNe (.int b0) (.int 0) = some (.bl true) := by rw [ne_int, decide_eq_false hb0]; rfl
      obtain ⟨r4, O1, O2⟩ := OV hb0
      simp [mAlt, Out.alt, runDef, startE, startGo, sSeq, sIf, tB1, op2, op1, mP, mPl, mC, mV, getD, PV.get, Out.bind, Out.bindS, ofO, ofB, atI, fAdd, fMul, oOr, fI, getOw, fSet, ixN, putSl, ofE, sSet, putIm, sRet, outIo, sNil, tT, tNt, mCallD, mFn, qCons, qNil, truD, qArgs, qAt, putBack, backE, qAll, getAll, mAnd, mOr, mNot, aCons, aNil, sRaise, sSetF, fGcd, fSetF, tOr2, tAn, putI, mMake, fFld, fl_top, fl_bottom, fNegI, mMethD, isIns, r_f_law_sums_right, m_f_law_sums_right, N_f_law_sums_right, op2X, ownB, xOr, OF.out, fIx, q', okR_rt, S1, I1, S2, I2, S3, I3, n1, n2, n3, n4, n5, n6, hN, C, W, c1, c2, c3, int_bl, -Int.mul_eq_zero, ne_self, ne_bl, eq_bl, c5, c6, c7, eq_int, mTup, mLst, mIf, gTp, gsCons, gsNil, gNm, sAsg, z2, z3, cle, G, L, A3, AA, E3, O1, O2]
  · have c2 : 0 < (a0 * b1 - b0 * a1) * (a1 * b1) := sgn.2.mpr z
    have c1 : ¬ (a0 * b1 - b0 * a1) * (a1 * b1) < 0 := by omega
    have c3 : ¬ ((a0 * b1 - b0 * a1) * (a1 * b1) = 0) := by omega
    have cle : ¬ (a0 * b1 - b0 * a1) * (a1 * b1) ≤ 0 := by omega
    have z' : ¬ (P * Q' - P' * Q < 0) := by omega
    have c4 : P' * Q - P * Q' < 0 := by omega
    have c5 := E1 P' Q'
    have c6 := E2 P Q
    have c7 := E1 P Q
    have c8 : (decide (P = P') && decide (Q = Q')) = false := by
      rw [Bool.and_eq_false_iff, decide_eq_false_iff_not, decide_eq_false_iff_not]
      by_cases e : P = P'
      · exact .inr fun e2 => c3 (ez.mpr ⟨e, e2⟩)
      · exact .inl e
    rw [c8] at c7
    simp only [if_neg z', if_pos z, if_pos c4] at C G L
    rw [decide_eq_false z'] at W
    by_cases hb0 : b0 = 0
    · have hN : fNe (.int b0) (.int 0) = some (.bl false) := by rw [ne_int, decide_eq_true hb0]; rfl
      simp [mAlt, Out.alt, runDef, startE, startGo, sSeq, sIf, tB1, op2, op1, mP, mPl, mC, mV, getD, PV.get, Out.bind, Out.bindS, ofO, ofB, atI, fAdd, fMul, oOr, fI, getOw, fSet, ixN, putSl, ofE, sSet, putIm, sRet, outIo, sNil, tT, tNt, mCallD, mFn, qCons, qNil, truD, qArgs, qAt, putBack, backE, qAll, getAll, mAnd, mOr, mNot, aCons, aNil, sRaise, sSetF, fGcd, fSetF, tOr2, tAn, putI, mMake, fFld, fl_top, fl_bottom, fNegI, mMethD, isIns, r_f_law_sums_right, m_f_law_sums_right, N_f_law_sums_right, op2X, ownB, xOr, OF.out, fIx, q', okR_rt, S1, I1, S2, I2, S3, I3, n1, n2, n3, n4, n5, n6, hN, C, W, c1, c2, c3, int_bl, -Int.mul_eq_zero, ne_self, ne_bl, eq_bl, c5, c6, c7, eq_int, mTup, mLst, mIf, gTp, gsCons, gsNil, gNm, sAsg, z2, z3, cle, G, L, A3, AA, E3]
    · have hN : fNe (.int b0) (.int 0) = some (.bl true) := by rw [ne_int, decide_eq_false hb0]; rfl
      obtain ⟨r4, O1, O2⟩ := OV hb0
      simp [mAlt, Out.alt, runDef, startE, startGo, sSeq, sIf, tB1, op2, op1, mP, mPl, mC, mV, getD, PV.get, Out.bind, Out.bindS, ofO, ofB, atI, fAdd, fMul, oOr, fI, getOw, fSet, ixN, putSl, ofE, sSet, putIm, sRet, outIo, sNil, tT, tNt, mCallD, mFn, qCons, qNil, truD, qArgs, qAt, putBack, backE, qAll, getAll, mAnd, mOr, mNot, aCons, aNil, sRaise, sSetF, fGcd, fSetF, tOr2, tAn, putI, mMake, fFld, fl_top, fl_bottom, fNegI, mMethD, isIns, r_f_law_sums_right, m_f_law_sums_right, N_f_law_sums_right, op2X, ownB, xOr, OF.out, fIx, q', okR_rt, S1, I1, S2, I2, S3, I3, n1, n2, n3, n4, n5, n6, hN, C, W, c1, c2, c3, int_bl, -Int.mul_eq_zero, ne_self, ne_bl, eq_bl, c5, c6, c7, eq_int, mTup, mLst, mIf, gTp, gsCons, gsNil, gNm, sAsg, z2, z3, cle, G, L, A3, AA, E3, O1, O2]
end K01
set_option maxRecDepth 100000
set_option maxHeartbeats 4000000
namespace K01
open PySem PySem.Spec PyProof.Rows L2 Ml
theorem over_z {p q : Int} {d : D} (v : Vl d 0 1) : r_c_Ratio_over [rt p q, d] = .ex 2 [.str (PySem.Str.ofString "zero")] none := by
  have e := v.fr
  simp only [rt] at e
  simp [mAlt, Out.alt, runDef, startE, startGo, sSeq, sIf, tB1, op2, op1, mP, mPl, mC, mV, getD, PV.get, Out.bind, Out.bindS, ofO, ofB, atI, fAdd, fMul, oOr, fI, getOw, fSet, ixN, putSl, ofE, sSet, putIm, sRet, outIo, sNil, tT, tNt, mCallD, mFn, qCons, qNil, truD, qArgs, qAt, putBack, backE, qAll, getAll, mAnd, mOr, mNot, aCons, aNil, sRaise, sSetF, fGcd, fSetF, tOr2, tAn, putI, mMake, fFld, fl_top, fl_bottom, fNegI, mMethD, isIns, r_c_Ratio_over, m_c_Ratio_over, N_c_Ratio_over, rt, e, eq_int]
theorem added_l0 : r_f_added [.lst []] = .ok (rt 0 1) none := by
  have i := init1 0
  have z2 : 2 ≤ sizeLine := by decide
  have hi := isi_lst
  simp only [rt] at i
  simp [mAlt, Out.alt, runDef, startE, startGo, sSeq, sIf, tB1, op2, op1, mP, mPl, mC, mV, getD, PV.get, Out.bind, Out.bindS, ofO, ofB, atI, fAdd, fMul, oOr, fI, getOw, fSet, ixN, putSl, ofE, sSet, putIm, sRet, outIo, sNil, tT, tNt, mCallD, mFn, qCons, qNil, truD, qArgs, qAt, putBack, backE, qAll, getAll, mAnd, mOr, mNot, aCons, aNil, sRaise, sSetF, fGcd, fSetF, tOr2, tAn, putI, mMake, fFld, fl_top, fl_bottom, fNegI, mMethD, isIns, r_f_added, m_f_added, N_f_added, mTup, hi, z2, mLc, iSeq, noOwn, lcGo, wipeE, mergeE, gNm, tTrue, fAllL, blsD, i, sFor, forGo, rt]
theorem added_t0 : r_f_added [.tup []] = .ok (rt 0 1) none := by
  have i := init1 0
  have z2 : 2 ≤ sizeLine := by decide
  have hi := isi_tup
  simp only [rt] at i
  simp [mAlt, Out.alt, runDef, startE, startGo, sSeq, sIf, tB1, op2, op1, mP, mPl, mC, mV, getD, PV.get, Out.bind, Out.bindS, ofO, ofB, atI, fAdd, fMul, oOr, fI, getOw, fSet, ixN, putSl, ofE, sSet, putIm, sRet, outIo, sNil, tT, tNt, mCallD, mFn, qCons, qNil, truD, qArgs, qAt, putBack, backE, qAll, getAll, mAnd, mOr, mNot, aCons, aNil, sRaise, sSetF, fGcd, fSetF, tOr2, tAn, putI, mMake, fFld, fl_top, fl_bottom, fNegI, mMethD, isIns, r_f_added, m_f_added, N_f_added, mTup, hi, z2, mLc, iSeq, noOwn, lcGo, wipeE, mergeE, gNm, tTrue, fAllL, blsD, i, sFor, forGo, rt]
theorem added_odd {d1 d : D} {p q : Int} (v : Vl d1 p q) (h : Odd d) : r_f_added [.lst [d1, d]] = .ex 2 [.str (PySem.Str.ofString "ratios")] none := by
  have z2 : 2 ≤ sizeLine := by decide
  have hi := isi_lst
  have i1 := v.isr
  have i2 := isratio_odd h
  simp [mAlt, Out.alt, runDef, startE, startGo, sSeq, sIf, tB1, op2, op1, mP, mPl, mC, mV, getD, PV.get, Out.bind, Out.bindS, ofO, ofB, atI, fAdd, fMul, oOr, fI, getOw, fSet, ixN, putSl, ofE, sSet, putIm, sRet, outIo, sNil, tT, tNt, mCallD, mFn, qCons, qNil, truD, qArgs, qAt, putBack, backE, qAll, getAll, mAnd, mOr, mNot, aCons, aNil, sRaise, sSetF, fGcd, fSetF, tOr2, tAn, putI, mMake, fFld, fl_top, fl_bottom, fNegI, mMethD, isIns, r_f_added, m_f_added, N_f_added, mTup, hi, z2, mLc, iSeq, noOwn, lcGo, wipeE, mergeE, gNm, tTrue, fAllL, blsD, i1, i2]
theorem added_rt (p q : Int) : r_f_added [rt p q] = .ex 2 [.str (PySem.Str.ofString "ratios")] none := by
  have z2 : 2 ≤ sizeLine := by decide
  have hi (fs : List D) : fIsi t0 [.ins 1 fs, .tup [.ty "list", .ty "tuple"]] = some (.bl false) := by rfl
  simp [mAlt, Out.alt, runDef, startE, startGo, sSeq, sIf, tB1, op2, op1, mP, mPl, mC, mV, getD, PV.get, Out.bind, Out.bindS, ofO, ofB, atI, fAdd, fMul, oOr, fI, getOw, fSet, ixN, putSl, ofE, sSet, putIm, sRet, outIo, sNil, tT, tNt, mCallD, mFn, qCons, qNil, truD, qArgs, qAt, putBack, backE, qAll, getAll, mAnd, mOr, mNot, aCons, aNil, sRaise, sSetF, fGcd, fSetF, tOr2, tAn, putI, mMake, fFld, fl_top, fl_bottom, fNegI, mMethD, isIns, r_f_added, m_f_added, N_f_added, mTup, hi, z2, rt]
theorem least_odd {d : D} (h : Odd d) : r_f_least_of [.lst [d]] = .ex 2 [.str (PySem.Str.ofString "ratios")] none := by
  have z2 : 2 ≤ sizeLine := by decide
  have z1 : 1 ≤ sizeLine := by decide
  have hi := isi_lst
  have i2 := isratio_odd h
  simp [mAlt, Out.alt, runDef, startE, startGo, sSeq, sIf, tB1, op2, op1, mP, mPl, mC, mV, getD, PV.get, Out.bind, Out.bindS, ofO, ofB, atI, fAdd, fMul, oOr, fI, getOw, fSet, ixN, putSl, ofE, sSet, putIm, sRet, outIo, sNil, tT, tNt, mCallD, mFn, qCons, qNil, truD, qArgs, qAt, putBack, backE, qAll, getAll, mAnd, mOr, mNot, aCons, aNil, sRaise, sSetF, fGcd, fSetF, tOr2, tAn, putI, mMake, fFld, fl_top, fl_bottom, fNegI, mMethD, isIns, r_f_least_of, m_f_least_of, N_f_least_of, mTup, hi, z2, z1, mLc, iSeq, noOwn, lcGo, wipeE, mergeE, gNm, tTrue, fAllL, blsD, i2, op2X, ownB, xOr, fLen, eq_int]
theorem greatest_none : r_f_greatest_of [.lst []] = .ex 2 [.str (PySem.Str.ofString "ratios")] none := by
  have z2 : 2 ≤ sizeLine := by decide
  have hi := isi_lst
  simp [mAlt, Out.alt, runDef, startE, startGo, sSeq, sIf, tB1, op2, op1, mP, mPl, mC, mV, getD, PV.get, Out.bind, Out.bindS, ofO, ofB, atI, fAdd, fMul, oOr, fI, getOw, fSet, ixN, putSl, ofE, sSet, putIm, sRet, outIo, sNil, tT, tNt, mCallD, mFn, qCons, qNil, truD, qArgs, qAt, putBack, backE, qAll, getAll, mAnd, mOr, mNot, aCons, aNil, sRaise, sSetF, fGcd, fSetF, tOr2, tAn, putI, mMake, fFld, fl_top, fl_bottom, fNegI, mMethD, isIns, r_f_greatest_of, m_f_greatest_of, N_f_greatest_of, mTup, hi, z2, op2X, ownB, xOr, fLen, eq_int]
theorem least_none : r_f_least_of [.tup []] = .ex 2 [.str (PySem.Str.ofString "ratios")] none := by
  have z2 : 2 ≤ sizeLine := by decide
  have hi := isi_tup
  simp [mAlt, Out.alt, runDef, startE, startGo, sSeq, sIf, tB1, op2, op1, mP, mPl, mC, mV, getD, PV.get, Out.bind, Out.bindS, ofO, ofB, atI, fAdd, fMul, oOr, fI, getOw, fSet, ixN, putSl, ofE, sSet, putIm, sRet, outIo, sNil, tT, tNt, mCallD, mFn, qCons, qNil, truD, qArgs, qAt, putBack, backE, qAll, getAll, mAnd, mOr, mNot, aCons, aNil, sRaise, sSetF, fGcd, fSetF, tOr2, tAn, putI, mMake, fFld, fl_top, fl_bottom, fNegI, mMethD, isIns, r_f_least_of, m_f_least_of, N_f_least_of, mTup, hi, z2, op2X, ownB, xOr, fLen, eq_int]
theorem refused_ok (s : Str) : tryEx 3 2 kf_f_law_refused suite_f_law_refused 2 [.str s] 0 0 [.str s] = .ok (.bl true) none := by
  simp [mAlt, Out.alt, runDef, startE, startGo, sSeq, sIf, tB1, op2, op1, mP, mPl, mC, mV, getD, PV.get, Out.bind, Out.bindS, ofO, ofB, atI, fAdd, fMul, oOr, fI, getOw, fSet, ixN, putSl, ofE, sSet, putIm, sRet, outIo, sNil, tT, tNt, mCallD, mFn, qCons, qNil, truD, qArgs, qAt, putBack, backE, qAll, getAll, mAnd, mOr, mNot, aCons, aNil, sRaise, sSetF, fGcd, fSetF, tOr2, tAn, putI, mMake, fFld, fl_top, fl_bottom, fNegI, mMethD, isIns, tryEx, kf_f_law_refused, suite_f_law_refused, lamE, fXf, fl_part, fEqSc, endEx]
theorem lam_ok {mb : ME} {s : Str} {env env2 : Ml.Env} (h : mb env = .ex 2 [.str s] env2) : mLam1 kf_f_law_refused (tryOk 3 rest_f_law_refused) (tryEx 3 2 kf_f_law_refused suite_f_law_refused) mb s env = .ok (.bl true) env2 := by
  unfold mLam1
  rw [h]
  simp [mAlt, Out.alt, runDef, startE, startGo, sSeq, sIf, tB1, op2, op1, mP, mPl, mC, mV, getD, PV.get, Out.bind, Out.bindS, ofO, ofB, atI, fAdd, fMul, oOr, fI, getOw, fSet, ixN, putSl, ofE, sSet, putIm, sRet, outIo, sNil, tT, tNt, mCallD, mFn, qCons, qNil, truD, qArgs, qAt, putBack, backE, qAll, getAll, mAnd, mOr, mNot, aCons, aNil, sRaise, sSetF, fGcd, fSetF, tOr2, tAn, putI, mMake, fFld, fl_top, fl_bottom, fNegI, mMethD, isIns, kf_f_law_refused, refused_ok, okOut]
/-- one more truth in the list -/
theorem found_step {mb : ME} {s : Str} {a b : D} {xs : List D} (h : mb [.im a, .im b, .ow (.lst xs)] = .ex 2 [.str s] [.im a, .im b, .ow (.lst xs)]) (hl : xs.length < sizeLine) :
    sExpr (mMut "list" fApp 2 (aCons (mLam1 kf_f_law_refused (tryOk 3 rest_f_law_refused) (tryEx 3 2 kf_f_law_refused suite_f_law_refused) mb s) aNil)) [.im a, .im b, .ow (.lst xs)] = .nx [.im a, .im b, .ow (.lst (xs ++ [.bl true]))] := by
  simp [mAlt, Out.alt, runDef, startE, startGo, sSeq, sIf, tB1, op2, op1, mP, mPl, mC, mV, getD, PV.get, Out.bind, Out.bindS, ofO, ofB, atI, fAdd, fMul, oOr, fI, getOw, fSet, ixN, putSl, ofE, sSet, putIm, sRet, outIo, sNil, tT, tNt, mCallD, mFn, qCons, qNil, truD, qArgs, qAt, putBack, backE, qAll, getAll, mAnd, mOr, mNot, aCons, aNil, sRaise, sSetF, fGcd, fSetF, tOr2, tAn, putI, mMake, fFld, fl_top, fl_bottom, fNegI, mMethD, isIns, sExpr, mMut, isKind, lam_ok h, fApp, hl, reOwn]
theorem errors_ok {p q : Int} {d : D} (h : Odd d) (hr : okR [1] d = true) : r_f_law_errors_right [rt p q, d] = .ok (.bl true) none := by
  have hs : sizeLine = 16777216 := by decide +kernel
  obtain ⟨o1, g1⟩ := init_odd1 h.1 (.int 1)
  obtain ⟨o2, g2⟩ := init_odd2 h.1 1
  obtain ⟨o3, g3⟩ := init_odd1 h.1 d
  obtain ⟨o4, g4⟩ := init_zero p
  have g5 := add_odd h p q
  have g6 := sub_odd h p q
  have g7 := mul_odd h p q
  have g8 := over_odd h p q
  have g9 := compared_odd h p q
  have g10 := below_odd h p q
  have g11 := over_z (p := p) (q := q) (vl_int 0)
  have g12 := of_odd h
  have g13 := added_odd (vl_rt p q) h
  have g14 := least_odd h
  have g15 := greatest_none
  have g16 := least_none
  have g17 := added_rt p q
  obtain ⟨o18, g18⟩ := init_odd1 (isint_rat [.int p, .int q]) (.int 1)
  have e0 := eq_rt_int 0 1 0
  have e1 := eq_rat p q p q
  have a0 := added_l0
  have a1 := added_t0
  have of1 := of_rat p q
  have i1 := isratio_odd h
  have i2 := isratio_rat [.int p, .int q]
  have i3 := isratio_int p
  have ii := isi_rat [.int 0, .int 1]
  simp only [rt] at *
  have f1 : ∀ xs : List D, xs.length < sizeLine → _ := fun xs hl => found_step (mb := mMake 1 1 [.int 1] r_c_Ratio_init (aCons (mV 1) aNil)) (s := PySem.Str.ofString "top") (a := .ins 1 [.int p, .int q]) (b := d) (xs := xs) (by simp [mAlt, Out.alt, runDef, startE, startGo, sSeq, sIf, tB1, op2, op1, mP, mPl, mC, mV, getD, PV.get, Out.bind, Out.bindS, ofO, ofB, atI, fAdd, fMul, oOr, fI, getOw, fSet, ixN, putSl, ofE, sSet, putIm, sRet, outIo, sNil, tT, tNt, mCallD, mFn, qCons, qNil, truD, qArgs, qAt, putBack, backE, qAll, getAll, mAnd, mOr, mNot, aCons, aNil, sRaise, sSetF, fGcd, fSetF, tOr2, tAn, putI, mMake, fFld, fl_top, fl_bottom, fNegI, mMethD, isIns, op2X, ownB, xOr, OF.out, hr, mLst, mTup, hs, g1]) hl
  have f2 : ∀ xs : List D, xs.length < sizeLine → _ := fun xs hl => found_step (mb := mMake 1 2 [] r_c_Ratio_init (aCons (mC (.int 1)) (aCons (mV 1) aNil))) (s := PySem.Str.ofString "bottom") (a := .ins 1 [.int p, .int q]) (b := d) (xs := xs) (by simp [mAlt, Out.alt, runDef, startE, startGo, sSeq, sIf, tB1, op2, op1, mP, mPl, mC, mV, getD, PV.get, Out.bind, Out.bindS, ofO, ofB, atI, fAdd, fMul, oOr, fI, getOw, fSet, ixN, putSl, ofE, sSet, putIm, sRet, outIo, sNil, tT, tNt, mCallD, mFn, qCons, qNil, truD, qArgs, qAt, putBack, backE, qAll, getAll, mAnd, mOr, mNot, aCons, aNil, sRaise, sSetF, fGcd, fSetF, tOr2, tAn, putI, mMake, fFld, fl_top, fl_bottom, fNegI, mMethD, isIns, op2X, ownB, xOr, OF.out, hr, mLst, mTup, hs, g2]) hl
  have f3 : ∀ xs : List D, xs.length < sizeLine → _ := fun xs hl => found_step (mb := mMake 1 2 [] r_c_Ratio_init (aCons (mV 1) (aCons (mV 1) aNil))) (s := PySem.Str.ofString "top") (a := .ins 1 [.int p, .int q]) (b := d) (xs := xs) (by simp [mAlt, Out.alt, runDef, startE, startGo, sSeq, sIf, tB1, op2, op1, mP, mPl, mC, mV, getD, PV.get, Out.bind, Out.bindS, ofO, ofB, atI, fAdd, fMul, oOr, fI, getOw, fSet, ixN, putSl, ofE, sSet, putIm, sRet, outIo, sNil, tT, tNt, mCallD, mFn, qCons, qNil, truD, qArgs, qAt, putBack, backE, qAll, getAll, mAnd, mOr, mNot, aCons, aNil, sRaise, sSetF, fGcd, fSetF, tOr2, tAn, putI, mMake, fFld, fl_top, fl_bottom, fNegI, mMethD, isIns, op2X, ownB, xOr, OF.out, hr, mLst, mTup, hs, g3]) hl
  have f4 : ∀ xs : List D, xs.length < sizeLine → _ := fun xs hl => found_step (mb := mMake 1 2 [] r_c_Ratio_init (aCons (op1 (fFld fl_top) (mPl 0)) (aCons (mC (.int 0)) aNil))) (s := PySem.Str.ofString "bottom") (a := .ins 1 [.int p, .int q]) (b := d) (xs := xs) (by simp [mAlt, Out.alt, runDef, startE, startGo, sSeq, sIf, tB1, op2, op1, mP, mPl, mC, mV, getD, PV.get, Out.bind, Out.bindS, ofO, ofB, atI, fAdd, fMul, oOr, fI, getOw, fSet, ixN, putSl, ofE, sSet, putIm, sRet, outIo, sNil, tT, tNt, mCallD, mFn, qCons, qNil, truD, qArgs, qAt, putBack, backE, qAll, getAll, mAnd, mOr, mNot, aCons, aNil, sRaise, sSetF, fGcd, fSetF, tOr2, tAn, putI, mMake, fFld, fl_top, fl_bottom, fNegI, mMethD, isIns, op2X, ownB, xOr, OF.out, hr, mLst, mTup, hs, g4]) hl
  have f5 : ∀ xs : List D, xs.length < sizeLine → _ := fun xs hl => found_step (mb := op2X (ownB 1 [1] r_c_Ratio_add) fAdd (mPl 0) (mPl 1)) (s := PySem.Str.ofString "other") (a := .ins 1 [.int p, .int q]) (b := d) (xs := xs) (by simp [mAlt, Out.alt, runDef, startE, startGo, sSeq, sIf, tB1, op2, op1, mP, mPl, mC, mV, getD, PV.get, Out.bind, Out.bindS, ofO, ofB, atI, fAdd, fMul, oOr, fI, getOw, fSet, ixN, putSl, ofE, sSet, putIm, sRet, outIo, sNil, tT, tNt, mCallD, mFn, qCons, qNil, truD, qArgs, qAt, putBack, backE, qAll, getAll, mAnd, mOr, mNot, aCons, aNil, sRaise, sSetF, fGcd, fSetF, tOr2, tAn, putI, mMake, fFld, fl_top, fl_bottom, fNegI, mMethD, isIns, op2X, ownB, xOr, OF.out, hr, mLst, mTup, hs, g5]) hl
  have f6 : ∀ xs : List D, xs.length < sizeLine → _ := fun xs hl => found_step (mb := op2X (ownB 1 [1] r_c_Ratio_sub) fSubI (mPl 0) (mPl 1)) (s := PySem.Str.ofString "other") (a := .ins 1 [.int p, .int q]) (b := d) (xs := xs) (by simp [mAlt, Out.alt, runDef, startE, startGo, sSeq, sIf, tB1, op2, op1, mP, mPl, mC, mV, getD, PV.get, Out.bind, Out.bindS, ofO, ofB, atI, fAdd, fMul, oOr, fI, getOw, fSet, ixN, putSl, ofE, sSet, putIm, sRet, outIo, sNil, tT, tNt, mCallD, mFn, qCons, qNil, truD, qArgs, qAt, putBack, backE, qAll, getAll, mAnd, mOr, mNot, aCons, aNil, sRaise, sSetF, fGcd, fSetF, tOr2, tAn, putI, mMake, fFld, fl_top, fl_bottom, fNegI, mMethD, isIns, op2X, ownB, xOr, OF.out, hr, mLst, mTup, hs, g6]) hl
  have f7 : ∀ xs : List D, xs.length < sizeLine → _ := fun xs hl => found_step (mb := op2X (ownB 1 [1] r_c_Ratio_mul) fMul (mPl 0) (mPl 1)) (s := PySem.Str.ofString "other") (a := .ins 1 [.int p, .int q]) (b := d) (xs := xs) (by simp [mAlt, Out.alt, runDef, startE, startGo, sSeq, sIf, tB1, op2, op1, mP, mPl, mC, mV, getD, PV.get, Out.bind, Out.bindS, ofO, ofB, atI, fAdd, fMul, oOr, fI, getOw, fSet, ixN, putSl, ofE, sSet, putIm, sRet, outIo, sNil, tT, tNt, mCallD, mFn, qCons, qNil, truD, qArgs, qAt, putBack, backE, qAll, getAll, mAnd, mOr, mNot, aCons, aNil, sRaise, sSetF, fGcd, fSetF, tOr2, tAn, putI, mMake, fFld, fl_top, fl_bottom, fNegI, mMethD, isIns, op2X, ownB, xOr, OF.out, hr, mLst, mTup, hs, g7]) hl
  have f8 : ∀ xs : List D, xs.length < sizeLine → _ := fun xs hl => found_step (mb := mMethD 1 none 2 [] r_c_Ratio_over (mPl 0) (qCons (mPl 1) qNil)) (s := PySem.Str.ofString "other") (a := .ins 1 [.int p, .int q]) (b := d) (xs := xs) (by simp [mAlt, Out.alt, runDef, startE, startGo, sSeq, sIf, tB1, op2, op1, mP, mPl, mC, mV, getD, PV.get, Out.bind, Out.bindS, ofO, ofB, atI, fAdd, fMul, oOr, fI, getOw, fSet, ixN, putSl, ofE, sSet, putIm, sRet, outIo, sNil, tT, tNt, mCallD, mFn, qCons, qNil, truD, qArgs, qAt, putBack, backE, qAll, getAll, mAnd, mOr, mNot, aCons, aNil, sRaise, sSetF, fGcd, fSetF, tOr2, tAn, putI, mMake, fFld, fl_top, fl_bottom, fNegI, mMethD, isIns, op2X, ownB, xOr, OF.out, hr, mLst, mTup, hs, g8]) hl
  have f9 : ∀ xs : List D, xs.length < sizeLine → _ := fun xs hl => found_step (mb := mMethD 1 none 2 [] r_c_Ratio_compared (mPl 0) (qCons (mPl 1) qNil)) (s := PySem.Str.ofString "other") (a := .ins 1 [.int p, .int q]) (b := d) (xs := xs) (by simp [mAlt, Out.alt, runDef, startE, startGo, sSeq, sIf, tB1, op2, op1, mP, mPl, mC, mV, getD, PV.get, Out.bind, Out.bindS, ofO, ofB, atI, fAdd, fMul, oOr, fI, getOw, fSet, ixN, putSl, ofE, sSet, putIm, sRet, outIo, sNil, tT, tNt, mCallD, mFn, qCons, qNil, truD, qArgs, qAt, putBack, backE, qAll, getAll, mAnd, mOr, mNot, aCons, aNil, sRaise, sSetF, fGcd, fSetF, tOr2, tAn, putI, mMake, fFld, fl_top, fl_bottom, fNegI, mMethD, isIns, op2X, ownB, xOr, OF.out, hr, mLst, mTup, hs, g9]) hl
  have f10 : ∀ xs : List D, xs.length < sizeLine → _ := fun xs hl => found_step (mb := mMethD 1 none 2 [] r_c_Ratio_is_below (mPl 0) (qCons (mPl 1) qNil)) (s := PySem.Str.ofString "other") (a := .ins 1 [.int p, .int q]) (b := d) (xs := xs) (by simp [mAlt, Out.alt, runDef, startE, startGo, sSeq, sIf, tB1, op2, op1, mP, mPl, mC, mV, getD, PV.get, Out.bind, Out.bindS, ofO, ofB, atI, fAdd, fMul, oOr, fI, getOw, fSet, ixN, putSl, ofE, sSet, putIm, sRet, outIo, sNil, tT, tNt, mCallD, mFn, qCons, qNil, truD, qArgs, qAt, putBack, backE, qAll, getAll, mAnd, mOr, mNot, aCons, aNil, sRaise, sSetF, fGcd, fSetF, tOr2, tAn, putI, mMake, fFld, fl_top, fl_bottom, fNegI, mMethD, isIns, op2X, ownB, xOr, OF.out, hr, mLst, mTup, hs, g10]) hl
  have f11 : ∀ xs : List D, xs.length < sizeLine → _ := fun xs hl => found_step (mb := mMethD 1 none 2 [] r_c_Ratio_over (mPl 0) (qCons (mP (mC (.int 0))) qNil)) (s := PySem.Str.ofString "zero") (a := .ins 1 [.int p, .int q]) (b := d) (xs := xs) (by simp [mAlt, Out.alt, runDef, startE, startGo, sSeq, sIf, tB1, op2, op1, mP, mPl, mC, mV, getD, PV.get, Out.bind, Out.bindS, ofO, ofB, atI, fAdd, fMul, oOr, fI, getOw, fSet, ixN, putSl, ofE, sSet, putIm, sRet, outIo, sNil, tT, tNt, mCallD, mFn, qCons, qNil, truD, qArgs, qAt, putBack, backE, qAll, getAll, mAnd, mOr, mNot, aCons, aNil, sRaise, sSetF, fGcd, fSetF, tOr2, tAn, putI, mMake, fFld, fl_top, fl_bottom, fNegI, mMethD, isIns, op2X, ownB, xOr, OF.out, hr, mLst, mTup, hs, g11]) hl
  have f12 : ∀ xs : List D, xs.length < sizeLine → _ := fun xs hl => found_step (mb := mCallD none 1 [] r_c_Ratio_of (qCons (mPl 1) qNil)) (s := PySem.Str.ofString "value") (a := .ins 1 [.int p, .int q]) (b := d) (xs := xs) (by simp [mAlt, Out.alt, runDef, startE, startGo, sSeq, sIf, tB1, op2, op1, mP, mPl, mC, mV, getD, PV.get, Out.bind, Out.bindS, ofO, ofB, atI, fAdd, fMul, oOr, fI, getOw, fSet, ixN, putSl, ofE, sSet, putIm, sRet, outIo, sNil, tT, tNt, mCallD, mFn, qCons, qNil, truD, qArgs, qAt, putBack, backE, qAll, getAll, mAnd, mOr, mNot, aCons, aNil, sRaise, sSetF, fGcd, fSetF, tOr2, tAn, putI, mMake, fFld, fl_top, fl_bottom, fNegI, mMethD, isIns, op2X, ownB, xOr, OF.out, hr, mLst, mTup, hs, g12]) hl
  have f13 : ∀ xs : List D, xs.length < sizeLine → _ := fun xs hl => found_step (mb := mCallD none 1 [] r_f_added (qCons (mP ((mLst (aCons (mV 0) (aCons (mV 1) aNil))))) qNil)) (s := PySem.Str.ofString "ratios") (a := .ins 1 [.int p, .int q]) (b := d) (xs := xs) (by simp [mAlt, Out.alt, runDef, startE, startGo, sSeq, sIf, tB1, op2, op1, mP, mPl, mC, mV, getD, PV.get, Out.bind, Out.bindS, ofO, ofB, atI, fAdd, fMul, oOr, fI, getOw, fSet, ixN, putSl, ofE, sSet, putIm, sRet, outIo, sNil, tT, tNt, mCallD, mFn, qCons, qNil, truD, qArgs, qAt, putBack, backE, qAll, getAll, mAnd, mOr, mNot, aCons, aNil, sRaise, sSetF, fGcd, fSetF, tOr2, tAn, putI, mMake, fFld, fl_top, fl_bottom, fNegI, mMethD, isIns, op2X, ownB, xOr, OF.out, hr, mLst, mTup, hs, g13]) hl
  have f14 : ∀ xs : List D, xs.length < sizeLine → _ := fun xs hl => found_step (mb := mCallD none 1 [] r_f_least_of (qCons (mP ((mLst (aCons (mV 1) aNil)))) qNil)) (s := PySem.Str.ofString "ratios") (a := .ins 1 [.int p, .int q]) (b := d) (xs := xs) (by simp [mAlt, Out.alt, runDef, startE, startGo, sSeq, sIf, tB1, op2, op1, mP, mPl, mC, mV, getD, PV.get, Out.bind, Out.bindS, ofO, ofB, atI, fAdd, fMul, oOr, fI, getOw, fSet, ixN, putSl, ofE, sSet, putIm, sRet, outIo, sNil, tT, tNt, mCallD, mFn, qCons, qNil, truD, qArgs, qAt, putBack, backE, qAll, getAll, mAnd, mOr, mNot, aCons, aNil, sRaise, sSetF, fGcd, fSetF, tOr2, tAn, putI, mMake, fFld, fl_top, fl_bottom, fNegI, mMethD, isIns, op2X, ownB, xOr, OF.out, hr, mLst, mTup, hs, g14]) hl
  have f15 : ∀ xs : List D, xs.length < sizeLine → _ := fun xs hl => found_step (mb := mCallD none 1 [] r_f_greatest_of (qCons (mP ((mLst aNil))) qNil)) (s := PySem.Str.ofString "ratios") (a := .ins 1 [.int p, .int q]) (b := d) (xs := xs) (by simp [mAlt, Out.alt, runDef, startE, startGo, sSeq, sIf, tB1, op2, op1, mP, mPl, mC, mV, getD, PV.get, Out.bind, Out.bindS, ofO, ofB, atI, fAdd, fMul, oOr, fI, getOw, fSet, ixN, putSl, ofE, sSet, putIm, sRet, outIo, sNil, tT, tNt, mCallD, mFn, qCons, qNil, truD, qArgs, qAt, putBack, backE, qAll, getAll, mAnd, mOr, mNot, aCons, aNil, sRaise, sSetF, fGcd, fSetF, tOr2, tAn, putI, mMake, fFld, fl_top, fl_bottom, fNegI, mMethD, isIns, op2X, ownB, xOr, OF.out, hr, mLst, mTup, hs, g15]) hl
  have f16 : ∀ xs : List D, xs.length < sizeLine → _ := fun xs hl => found_step (mb := mCallD none 1 [] r_f_least_of (qCons (mP (mTup aNil)) qNil)) (s := PySem.Str.ofString "ratios") (a := .ins 1 [.int p, .int q]) (b := d) (xs := xs) (by simp [mAlt, Out.alt, runDef, startE, startGo, sSeq, sIf, tB1, op2, op1, mP, mPl, mC, mV, getD, PV.get, Out.bind, Out.bindS, ofO, ofB, atI, fAdd, fMul, oOr, fI, getOw, fSet, ixN, putSl, ofE, sSet, putIm, sRet, outIo, sNil, tT, tNt, mCallD, mFn, qCons, qNil, truD, qArgs, qAt, putBack, backE, qAll, getAll, mAnd, mOr, mNot, aCons, aNil, sRaise, sSetF, fGcd, fSetF, tOr2, tAn, putI, mMake, fFld, fl_top, fl_bottom, fNegI, mMethD, isIns, op2X, ownB, xOr, OF.out, hr, mLst, mTup, hs, g16]) hl
  have f17 : ∀ xs : List D, xs.length < sizeLine → _ := fun xs hl => found_step (mb := mCallD none 1 [] r_f_added (qCons (mPl 0) qNil)) (s := PySem.Str.ofString "ratios") (a := .ins 1 [.int p, .int q]) (b := d) (xs := xs) (by simp [mAlt, Out.alt, runDef, startE, startGo, sSeq, sIf, tB1, op2, op1, mP, mPl, mC, mV, getD, PV.get, Out.bind, Out.bindS, ofO, ofB, atI, fAdd, fMul, oOr, fI, getOw, fSet, ixN, putSl, ofE, sSet, putIm, sRet, outIo, sNil, tT, tNt, mCallD, mFn, qCons, qNil, truD, qArgs, qAt, putBack, backE, qAll, getAll, mAnd, mOr, mNot, aCons, aNil, sRaise, sSetF, fGcd, fSetF, tOr2, tAn, putI, mMake, fFld, fl_top, fl_bottom, fNegI, mMethD, isIns, op2X, ownB, xOr, OF.out, hr, mLst, mTup, hs, g17]) hl
  have f18 : ∀ xs : List D, xs.length < sizeLine → _ := fun xs hl => found_step (mb := mMake 1 1 [.int 1] r_c_Ratio_init (aCons (mV 0) aNil)) (s := PySem.Str.ofString "top") (a := .ins 1 [.int p, .int q]) (b := d) (xs := xs) (by simp [mAlt, Out.alt, runDef, startE, startGo, sSeq, sIf, tB1, op2, op1, mP, mPl, mC, mV, getD, PV.get, Out.bind, Out.bindS, ofO, ofB, atI, fAdd, fMul, oOr, fI, getOw, fSet, ixN, putSl, ofE, sSet, putIm, sRet, outIo, sNil, tT, tNt, mCallD, mFn, qCons, qNil, truD, qArgs, qAt, putBack, backE, qAll, getAll, mAnd, mOr, mNot, aCons, aNil, sRaise, sSetF, fGcd, fSetF, tOr2, tAn, putI, mMake, fFld, fl_top, fl_bottom, fNegI, mMethD, isIns, op2X, ownB, xOr, OF.out, hr, mLst, mTup, hs, g18]) hl
  have fr : fRepL (.lst [.bl true]) (.int 18) = some (.lst (List.replicate 18 (.bl true))) := by kernel_rfl
  have fe : fEq (.lst (List.replicate 18 (.bl true))) (.lst (List.replicate 18 (.bl true))) = some (.bl true) := by kernel_rfl
  simp only [List.replicate] at fr fe
  simp only [fAdd, oOr] at f5
  simp only [fMul, oOr] at f7
  simp [mAlt, Out.alt, runDef, startE, startGo, sSeq, sIf, tB1, op2, op1, mP, mPl, mC, mV, getD, PV.get, Out.bind, Out.bindS, ofO, ofB, atI, fAdd, fMul, oOr, fI, getOw, fSet, ixN, putSl, ofE, sSet, putIm, sRet, outIo, sNil, tT, tNt, mCallD, mFn, qCons, qNil, truD, qArgs, qAt, putBack, backE, qAll, getAll, mAnd, mOr, mNot, aCons, aNil, sRaise, sSetF, fGcd, fSetF, tOr2, tAn, putI, mMake, fFld, fl_top, fl_bottom, fNegI, mMethD, isIns, r_f_law_errors_right, m_f_law_errors_right, N_f_law_errors_right, sSetN, putOw, mLst, mTup, i1, i2, i3, f1, f2, f3, f4, f5, f6, f7, f8, f9, f10, f11, f12, f13, f14, f15, f16, f17, f18, hs, op2X, ownB, xOr, OF.out, fr, fe, a0, a1, e0, e1, of1, ii, show okR [1] (.int 0) = true from rfl, okR_rt]
end K01
set_option maxRecDepth 100000
set_option maxHeartbeats 4000000
namespace K01
open PySem PySem.Spec PyProof.Rows L2 Ml SX
/-! texts by their codes -/
theorem sz : sizeLine = 16777216 := by decide +kernel
/-- codes of signs -/
def Cs (a : List Nat) : Prop := ∀ c ∈ a, c < 1114112
theorem S_eq {a b : List Nat} : (S a = S b) ↔ a = b := ⟨S_inj, fun h => by rw [h]⟩
theorem shaped_S {a : List Nat} (h : Cs a) : SeqAt.shaped (PyData.str (S a)) = true := by
  have : (S a).cps.all (· < 0x110000) = true := by
    rw [← Array.all_toList, List.all_eq_true]
    exact fun c hc => decide_eq_true (h c hc)
  have c0 : PyData.canLay0 (.str (S a)) = true := by simpa only [PyData.canLay0, PyData.strOk] using this
  have d0 : PyData.depth (.str (S a)) ≤ 64 := by simp only [PyData.depth]; decide
  unfold SeqAt.shaped
  rw [c0, decide_eq_true d0]; rfl
theorem eq_S {a b : List Nat} (ha : Cs a) (hb : Cs b) : fEq (.str (S a)) (.str (S b)) = some (.bl (decide (a = b))) := by
  have e2 : PyData.eqv (.str (S a)) (.str (S b)) = decide (a = b) := by
    simp only [PyData.eqv]
    exact S_beq_eq
  simp [mAlt, Out.alt, runDef, startE, startGo, sSeq, sIf, tB1, op2, op1, mP, mPl, mC, mV, getD, PV.get, Out.bind, Out.bindS, ofO, ofB, atI, fAdd, fMul, oOr, fI, getOw, fSet, ixN, putSl, ofE, sSet, putIm, sRet, outIo, sNil, tT, tNt, mCallD, mFn, qCons, qNil, truD, qArgs, qAt, putBack, backE, qAll, getAll, mAnd, mOr, mNot, aCons, aNil, sRaise, sSetF, fGcd, fSetF, tOr2, tAn, putI, mMake, fFld, fl_top, fl_bottom, fNegI, mMethD, isIns, fEq, eqP, toP, shaped_S ha, shaped_S hb, e2]
theorem ne_S {a b : List Nat} (ha : Cs a) (hb : Cs b) : fNe (.str (S a)) (.str (S b)) = some (.bl (!decide (a = b))) := by
  have e := eq_S ha hb
  unfold fEq at e
  obtain ⟨k, h, e⟩ := Option.map_eq_some_iff.mp e
  have e : k = decide (a = b) := by simpa using e
  unfold fNe
  rw [h, e]; rfl
theorem sl_to {l : List Nat} (k : Nat) (h : l.length ≤ 16777216) : fSl (.str (S l)) none (some (k : Int)) = some (.str (S (l.take k))) := by
  unfold fSl
  simp only [sz, S_len, h, if_true, HT.sIx_nat, HT.sIx_none]
  rw [List.drop_zero, Nat.sub_zero]
  congr 3
  by_cases hk : k ≤ l.length
  · rw [Nat.min_eq_left hk]
  · rw [Nat.min_eq_right (by omega), List.take_of_length_le (Nat.le_refl _), List.take_of_length_le (by omega)]
theorem sl_from {l : List Nat} (k : Nat) (h : l.length ≤ 16777216) : fSl (.str (S l)) (some (k : Int)) none = some (.str (S (l.drop k))) := by
  unfold fSl
  simp only [sz, S_len, h, if_true, HT.sIx_nat, HT.sIx_none]
  congr 3
  by_cases hk : k ≤ l.length
  · rw [Nat.min_eq_left hk]; rw [List.take_of_length_le (Nat.le_of_eq List.length_drop)]
  · rw [Nat.min_eq_right (by omega), List.drop_of_length_le (Nat.le_refl _), List.drop_of_length_le (by omega), List.take_nil]
theorem sl_to1 {l : List Nat} (h : l.length ≤ 16777216) : fSl (.str (S l)) none (some 1) = some (.str (S (l.take 1))) := sl_to 1 h
theorem sl_from1 {l : List Nat} (h : l.length ≤ 16777216) : fSl (.str (S l)) (some 1) none = some (.str (S (l.drop 1))) := sl_from 1 h
theorem ix_0 {c : Nat} {r : List Nat} (h : (c :: r).length ≤ 16777216) : fIx (.str (S (c :: r))) (.int 0) = some (.str (S [c])) := by
  unfold fIx
  simp only [sz, S_len, h, if_true]
  simp [mAlt, Out.alt, runDef, startE, startGo, sSeq, sIf, tB1, op2, op1, mP, mPl, mC, mV, getD, PV.get, Out.bind, Out.bindS, ofO, ofB, atI, fAdd, fMul, oOr, fI, getOw, fSet, ixN, putSl, ofE, sSet, putIm, sRet, outIo, sNil, tT, tNt, mCallD, mFn, qCons, qNil, truD, qArgs, qAt, putBack, backE, qAll, getAll, mAnd, mOr, mNot, aCons, aNil, sRaise, sSetF, fGcd, fSetF, tOr2, tAn, putI, mMake, fFld, fl_top, fl_bottom, fNegI, mMethD, isIns, chr1]
theorem len_S {l : List Nat} (h : l.length ≤ 16777216) : fLen [.str (S l)] = some (.int l.length) := by
  unfold fLen
  simp only [sz, S_len, h, if_true]
theorem signs_S (l : List Nat) : Ml.signs (S l) = l.map fun c => D.str (S [c]) := rfl
theorem ni_S (c : Nat) (z : Str) : fNi (.str (S [c])) (.str z) = some (.bl (!decide (c ∈ z.cps.toList))) := by rfl
/-! whole numbers as texts -/
def zl (p : Int) : List Nat := if p < 0 then 45 :: TL.numL p.natAbs else TL.numL p.natAbs
theorem num_zl (p : Int) : (toString p : Str) = S (zl p) := by
  cases p with
  | ofNat n =>
    have : zl (Int.ofNat n) = TL.numL n := by unfold zl; rw [if_neg (by simp [mAlt, Out.alt, runDef, startE, startGo, sSeq, sIf, tB1, op2, op1, mP, mPl, mC, mV, getD, PV.get, Out.bind, Out.bindS, ofO, ofB, atI, fAdd, fMul, oOr, fI, getOw, fSet, ixN, putSl, ofE, sSet, putIm, sRet, outIo, sNil, tT, tNt, mCallD, mFn, qCons, qNil, truD, qArgs, qAt, putBack, backE, qAll, getAll, mAnd, mOr, mNot, aCons, aNil, sRaise, sSetF, fGcd, fSetF, tOr2, tAn, putI, mMake, fFld, fl_top, fl_bottom, fNegI, mMethD, isIns])]; rfl
    rw [this]; exact num_S n
  | negSucc m =>
    have e : zl (Int.negSucc m) = 45 :: TL.numL (m + 1) := by unfold zl; rw [if_pos (Int.negSucc_lt_zero m)]; rfl
    rw [e]
    refine TL.ext_tl ?_
    show TL.tl (Str.ofString (toString (Int.negSucc m))) = 45 :: TL.numL (m + 1)
    have h : toString (Int.negSucc m) = "-" ++ toString (((m + 1 : Nat) : Int)) := rfl
    rw [h, TL.tl_ofString, String.toList_append, List.map_append, ← TL.tl_ofString (toString (((m + 1 : Nat) : Int))), TL.tl_num]
    rfl
theorem zl_digit {p : Int} : ∀ c ∈ zl p, c = 45 ∨ (48 ≤ c ∧ c ≤ 57) := by
  intro c hc
  unfold zl at hc
  split at hc
  · rcases List.mem_cons.mp hc with h | h
    · exact .inl h
    · exact .inr (TL.numL_digits _ c h)
  · exact .inr (TL.numL_digits _ c hc)
theorem zl_cs (p : Int) : Cs (zl p) := fun c hc => by
  rcases zl_digit c hc with h | h <;> omega
theorem zl_ne (p : Int) : zl p ≠ [] := by
  unfold zl; split
  · simp [mAlt, Out.alt, runDef, startE, startGo, sSeq, sIf, tB1, op2, op1, mP, mPl, mC, mV, getD, PV.get, Out.bind, Out.bindS, ofO, ofB, atI, fAdd, fMul, oOr, fI, getOw, fSet, ixN, putSl, ofE, sSet, putIm, sRet, outIo, sNil, tT, tNt, mCallD, mFn, qCons, qNil, truD, qArgs, qAt, putBack, backE, qAll, getAll, mAnd, mOr, mNot, aCons, aNil, sRaise, sSetF, fGcd, fSetF, tOr2, tAn, putI, mMake, fFld, fl_top, fl_bottom, fNegI, mMethD, isIns]
  · exact TL.numL_ne _
theorem numL_head {n : Nat} (h : n ≠ 0) : ∀ c r, TL.numL n = c :: r → c ≠ 48 := by
  induction n using Nat.strongRecOn with
  | _ n ih =>
    intro c r e
    by_cases h1 : n < 10
    · rw [TL.numL_lt h1] at e
      cases e; omega
    · rw [TL.numL_step (by omega)] at e
      have hd := ih (n / 10) (by omega) (by omega)
      have ne := TL.numL_ne (n / 10)
      rcases h2 : TL.numL (n / 10) with _ | ⟨c', r'⟩
      · exact absurd h2 ne
      · rw [h2] at e
        cases e
        exact hd _ _ h2
theorem numL_bd {n k : Nat} (hk : 0 < k) (h : n < 10 ^ k) : (TL.numL n).length ≤ k := TL.numL_len hk h
theorem int_zl {p : Int} (h : (zl p).length ≤ 640) : fIntU [.str (S (zl p))] = some (.int p) := by
  have e : intText? (S (zl p)) = some p := by
    by_cases hp : p < 0
    · have : zl p = 45 :: TL.numL p.natAbs := by unfold zl; rw [if_pos hp]
      rw [this] at h ⊢
      rw [intText_neg (x := S (45 :: TL.numL p.natAbs)) (cs := TL.numL p.natAbs) rfl (TL.numL_digits _) (TL.numL_ne _) (by rw [S_len]; omega), TL.numL_val]
      congr 1; omega
    · have : zl p = TL.numL p.natAbs := by unfold zl; rw [if_neg hp]
      rw [this] at h ⊢
      have := TL.int_num (n := p.natAbs) (by omega)
      rw [num_S] at this
      rw [this]
      congr 1; omega
  unfold fIntU cOr
  have l : (S (zl p)).length ≤ 640 := by rw [S_len]; exact h
  simp [mAlt, Out.alt, runDef, startE, startGo, sSeq, sIf, tB1, op2, op1, mP, mPl, mC, mV, getD, PV.get, Out.bind, Out.bindS, ofO, ofB, atI, fAdd, fMul, oOr, fI, getOw, fSet, ixN, putSl, ofE, sSet, putIm, sRet, outIo, sNil, tT, tNt, mCallD, mFn, qCons, qNil, truD, qArgs, qAt, putBack, backE, qAll, getAll, mAnd, mOr, mNot, aCons, aNil, sRaise, sSetF, fGcd, fSetF, tOr2, tAn, putI, mMake, fFld, fl_top, fl_bottom, fNegI, mMethD, isIns, fInt, fIntS, l, e]
theorem num_loop {w body : D} : ∀ (l : List Nat) (x : Sl), NumText.AllDigits l → (∀ d, x ≠ .ow d) → (∀ d, x ≠ .io d) → ∃ y, forGo (gNm 2) (sIf (tB1 (op2 fNi (mPl 2) (mP (mC (.str (PySem.Str.ofString "0123456789")))))) (sRet (mC .non)) sNil) (l.map fun c => .str (S [c])) [.im w, .im body, x] = .nx [.im w, .im body, y]
  | [], x, _, _, _ => ⟨x, rfl⟩
  | c :: l, x, h, h1, h2 => by
    obtain ⟨y, e⟩ := num_loop (w := w) (body := body) l (.im (.str (S [c]))) (fun k hk => h k (List.mem_cons_of_mem _ hk)) (by simp [mAlt, Out.alt, runDef, startE, startGo, sSeq, sIf, tB1, op2, op1, mP, mPl, mC, mV, getD, PV.get, Out.bind, Out.bindS, ofO, ofB, atI, fAdd, fMul, oOr, fI, getOw, fSet, ixN, putSl, ofE, sSet, putIm, sRet, outIo, sNil, tT, tNt, mCallD, mFn, qCons, qNil, truD, qArgs, qAt, putBack, backE, qAll, getAll, mAnd, mOr, mNot, aCons, aNil, sRaise, sSetF, fGcd, fSetF, tOr2, tAn, putI, mMake, fFld, fl_top, fl_bottom, fNegI, mMethD, isIns]) (by simp [mAlt, Out.alt, runDef, startE, startGo, sSeq, sIf, tB1, op2, op1, mP, mPl, mC, mV, getD, PV.get, Out.bind, Out.bindS, ofO, ofB, atI, fAdd, fMul, oOr, fI, getOw, fSet, ixN, putSl, ofE, sSet, putIm, sRet, outIo, sNil, tT, tNt, mCallD, mFn, qCons, qNil, truD, qArgs, qAt, putBack, backE, qAll, getAll, mAnd, mOr, mNot, aCons, aNil, sRaise, sSetF, fGcd, fSetF, tOr2, tAn, putI, mMake, fFld, fl_top, fl_bottom, fNegI, mMethD, isIns])
    refine ⟨y, ?_⟩
    have hc := h c (List.mem_cons_self ..)
    have m : c ∈ (PySem.Str.ofString "0123456789").cps.toList := by
      have : (PySem.Str.ofString "0123456789").cps.toList = [48,49,50,51,52,53,54,55,56,57] := by decide +kernel
      rw [this]
      simp [mAlt, Out.alt, runDef, startE, startGo, sSeq, sIf, tB1, op2, op1, mP, mPl, mC, mV, getD, PV.get, Out.bind, Out.bindS, ofO, ofB, atI, fAdd, fMul, oOr, fI, getOw, fSet, ixN, putSl, ofE, sSet, putIm, sRet, outIo, sNil, tT, tNt, mCallD, mFn, qCons, qNil, truD, qArgs, qAt, putBack, backE, qAll, getAll, mAnd, mOr, mNot, aCons, aNil, sRaise, sSetF, fGcd, fSetF, tOr2, tAn, putI, mMake, fFld, fl_top, fl_bottom, fNegI, mMethD, isIns]; omega
    rcases x with _ | _ | _ | _
    · simp [mAlt, Out.alt, runDef, startE, startGo, sSeq, sIf, tB1, op2, op1, mP, mPl, mC, mV, getD, PV.get, Out.bind, Out.bindS, ofO, ofB, atI, fAdd, fMul, oOr, fI, getOw, fSet, ixN, putSl, ofE, sSet, putIm, sRet, outIo, sNil, tT, tNt, mCallD, mFn, qCons, qNil, truD, qArgs, qAt, putBack, backE, qAll, getAll, mAnd, mOr, mNot, aCons, aNil, sRaise, sSetF, fGcd, fSetF, tOr2, tAn, putI, mMake, fFld, fl_top, fl_bottom, fNegI, mMethD, isIns, forGo, gNm, ni_S, m]; exact e
    · simp [mAlt, Out.alt, runDef, startE, startGo, sSeq, sIf, tB1, op2, op1, mP, mPl, mC, mV, getD, PV.get, Out.bind, Out.bindS, ofO, ofB, atI, fAdd, fMul, oOr, fI, getOw, fSet, ixN, putSl, ofE, sSet, putIm, sRet, outIo, sNil, tT, tNt, mCallD, mFn, qCons, qNil, truD, qArgs, qAt, putBack, backE, qAll, getAll, mAnd, mOr, mNot, aCons, aNil, sRaise, sSetF, fGcd, fSetF, tOr2, tAn, putI, mMake, fFld, fl_top, fl_bottom, fNegI, mMethD, isIns, forGo, gNm, ni_S, m]; exact e
    · exact absurd rfl (h1 _)
    · exact absurd rfl (h2 _)
theorem cs_lit : PySem.Str.ofString "-" = S [45] ∧ PySem.Str.ofString "0" = S [48] ∧ PySem.Str.ofString "/" = S [47] ∧ PySem.Str.ofString " " = S [32] := ⟨by decide +kernel, by decide +kernel, by decide +kernel, by decide +kernel⟩
theorem number_in_ok {p : Int} (h : (TL.numL p.natAbs).length ≤ 60) : r_f_number_in [.str (S (zl p))] = .ok (.int p) none := by
  have e0 := zl_cs p
  have hz : (zl p).length ≤ 61 := by
    unfold zl; split
    · rw [List.length_cons]; omega
    · omega
  have t1 := sl_to1 (l := zl p) (by omega)
  have f1 := sl_from1 (l := zl p) (by omega)
  have iz := int_zl (p := p) (by omega)
  have lb := len_S (l := TL.numL p.natAbs) (by omega)
  have dg := TL.numL_digits p.natAbs
  obtain ⟨c, r, hc⟩ : ∃ c r, TL.numL p.natAbs = c :: r := by
    rcases h2 : TL.numL p.natAbs with _ | ⟨c, r⟩
    · exact absurd h2 (TL.numL_ne _)
    · exact ⟨c, r, rfl⟩
  have h1 : (1 : Int) ≤ ((TL.numL p.natAbs).length : Int) := by rw [hc, List.length_cons]; omega
  have h60 : ((TL.numL p.natAbs).length : Int) ≤ 60 := by omega
  have dc := dg c (by rw [hc]; exact List.mem_cons_self ..)
  have i0 : fIx (.str (S (TL.numL p.natAbs))) (.int 0) = some (.str (S [c])) := by
    rw [hc]; exact ix_0 (by rw [← hc]; omega)
  have cs1 (k : Nat) (hk : k < 1114112) : Cs [k] := fun x hx => by simp [mAlt, Out.alt, runDef, startE, startGo, sSeq, sIf, tB1, op2, op1, mP, mPl, mC, mV, getD, PV.get, Out.bind, Out.bindS, ofO, ofB, atI, fAdd, fMul, oOr, fI, getOw, fSet, ixN, putSl, ofE, sSet, putIm, sRet, outIo, sNil, tT, tNt, mCallD, mFn, qCons, qNil, truD, qArgs, qAt, putBack, backE, qAll, getAll, mAnd, mOr, mNot, aCons, aNil, sRaise, sSetF, fGcd, fSetF, tOr2, tAn, putI, mMake, fFld, fl_top, fl_bottom, fNegI, mMethD, isIns] at hx; omega
  have q0 := eq_S (cs1 c (by omega)) (cs1 48 (by omega))
  have n0 := ne_S e0 (cs1 48 (by omega))
  by_cases hp : p < 0
  · have ez : zl p = 45 :: TL.numL p.natAbs := by unfold zl; rw [if_pos hp]
    have t2 : (zl p).take 1 = [45] := by rw [ez]; rfl
    have f2 : (zl p).drop 1 = TL.numL p.natAbs := by rw [ez]; rfl
    rw [t2] at t1
    rw [f2] at f1
    have q1 := eq_S (cs1 45 (by omega)) (cs1 45 (by omega))
    have c48 : c ≠ 48 := numL_head (n := p.natAbs) (by omega) c r hc
    obtain ⟨y, lp⟩ := num_loop (w := .str (S (zl p))) (body := .str (S (TL.numL p.natAbs))) (TL.numL p.natAbs) .no dg (by simp [mAlt, Out.alt, runDef, startE, startGo, sSeq, sIf, tB1, op2, op1, mP, mPl, mC, mV, getD, PV.get, Out.bind, Out.bindS, ofO, ofB, atI, fAdd, fMul, oOr, fI, getOw, fSet, ixN, putSl, ofE, sSet, putIm, sRet, outIo, sNil, tT, tNt, mCallD, mFn, qCons, qNil, truD, qArgs, qAt, putBack, backE, qAll, getAll, mAnd, mOr, mNot, aCons, aNil, sRaise, sSetF, fGcd, fSetF, tOr2, tAn, putI, mMake, fFld, fl_top, fl_bottom, fNegI, mMethD, isIns]) (by simp [mAlt, Out.alt, runDef, startE, startGo, sSeq, sIf, tB1, op2, op1, mP, mPl, mC, mV, getD, PV.get, Out.bind, Out.bindS, ofO, ofB, atI, fAdd, fMul, oOr, fI, getOw, fSet, ixN, putSl, ofE, sSet, putIm, sRet, outIo, sNil, tT, tNt, mCallD, mFn, qCons, qNil, truD, qArgs, qAt, putBack, backE, qAll, getAll, mAnd, mOr, mNot, aCons, aNil, sRaise, sSetF, fGcd, fSetF, tOr2, tAn, putI, mMake, fFld, fl_top, fl_bottom, fNegI, mMethD, isIns])
    simp [mAlt, Out.alt, runDef, startE, startGo, sSeq, sIf, tB1, op2, op1, mP, mPl, mC, mV, getD, PV.get, Out.bind, Out.bindS, ofO, ofB, atI, fAdd, fMul, oOr, fI, getOw, fSet, ixN, putSl, ofE, sSet, putIm, sRet, outIo, sNil, tT, tNt, mCallD, mFn, qCons, qNil, truD, qArgs, qAt, putBack, backE, qAll, getAll, mAnd, mOr, mNot, aCons, aNil, sRaise, sSetF, fGcd, fSetF, tOr2, tAn, putI, mMake, fFld, fl_top, fl_bottom, fNegI, mMethD, isIns, r_f_number_in, m_f_number_in, N_f_number_in, cs_lit, mSl, oNo, oSo, t1, f1, mIf, q1, mChain, lb, h1, h60, sFor, Ml.iStr, signs_S, i0, q0, c48, iz]
    rw [lp]
    simp [mAlt, Out.alt, runDef, startE, startGo, sSeq, sIf, tB1, op2, op1, mP, mPl, mC, mV, getD, PV.get, Out.bind, Out.bindS, ofO, ofB, atI, fAdd, fMul, oOr, fI, getOw, fSet, ixN, putSl, ofE, sSet, putIm, sRet, outIo, sNil, tT, tNt, mCallD, mFn, qCons, qNil, truD, qArgs, qAt, putBack, backE, qAll, getAll, mAnd, mOr, mNot, aCons, aNil, sRaise, sSetF, fGcd, fSetF, tOr2, tAn, putI, mMake, fFld, fl_top, fl_bottom, fNegI, mMethD, isIns, i0, q0, c48, iz]
  · have ez : zl p = TL.numL p.natAbs := by unfold zl; rw [if_neg hp]
    rw [ez] at t1 n0
    have t2 : (TL.numL p.natAbs).take 1 = [c] := by rw [hc]; rfl
    rw [t2] at t1
    have q1 := eq_S (cs1 c (by omega)) (cs1 45 (by omega))
    have c45 : c ≠ 45 := by omega
    obtain ⟨y, lp⟩ := num_loop (w := .str (S (TL.numL p.natAbs))) (body := .str (S (TL.numL p.natAbs))) (TL.numL p.natAbs) .no dg (by simp [mAlt, Out.alt, runDef, startE, startGo, sSeq, sIf, tB1, op2, op1, mP, mPl, mC, mV, getD, PV.get, Out.bind, Out.bindS, ofO, ofB, atI, fAdd, fMul, oOr, fI, getOw, fSet, ixN, putSl, ofE, sSet, putIm, sRet, outIo, sNil, tT, tNt, mCallD, mFn, qCons, qNil, truD, qArgs, qAt, putBack, backE, qAll, getAll, mAnd, mOr, mNot, aCons, aNil, sRaise, sSetF, fGcd, fSetF, tOr2, tAn, putI, mMake, fFld, fl_top, fl_bottom, fNegI, mMethD, isIns]) (by simp [mAlt, Out.alt, runDef, startE, startGo, sSeq, sIf, tB1, op2, op1, mP, mPl, mC, mV, getD, PV.get, Out.bind, Out.bindS, ofO, ofB, atI, fAdd, fMul, oOr, fI, getOw, fSet, ixN, putSl, ofE, sSet, putIm, sRet, outIo, sNil, tT, tNt, mCallD, mFn, qCons, qNil, truD, qArgs, qAt, putBack, backE, qAll, getAll, mAnd, mOr, mNot, aCons, aNil, sRaise, sSetF, fGcd, fSetF, tOr2, tAn, putI, mMake, fFld, fl_top, fl_bottom, fNegI, mMethD, isIns])
    rw [ez] at iz
    by_cases h0 : p = 0
    · have e48 : TL.numL p.natAbs = [48] := by rw [h0]; rfl
      have c48 : c = 48 := by rw [e48] at hc; cases hc; rfl
      rw [e48] at n0
      rw [ez]
      simp [mAlt, Out.alt, runDef, startE, startGo, sSeq, sIf, tB1, op2, op1, mP, mPl, mC, mV, getD, PV.get, Out.bind, Out.bindS, ofO, ofB, atI, fAdd, fMul, oOr, fI, getOw, fSet, ixN, putSl, ofE, sSet, putIm, sRet, outIo, sNil, tT, tNt, mCallD, mFn, qCons, qNil, truD, qArgs, qAt, putBack, backE, qAll, getAll, mAnd, mOr, mNot, aCons, aNil, sRaise, sSetF, fGcd, fSetF, tOr2, tAn, putI, mMake, fFld, fl_top, fl_bottom, fNegI, mMethD, isIns, r_f_number_in, m_f_number_in, N_f_number_in, cs_lit, mSl, oNo, oSo, t1, f1, mIf, q1, c45, mChain, lb, h1, h60, sFor, Ml.iStr, signs_S]
      rw [lp]
      rw [e48] at i0 iz ⊢
      rw [c48] at i0 q0
      simp [mAlt, Out.alt, runDef, startE, startGo, sSeq, sIf, tB1, op2, op1, mP, mPl, mC, mV, getD, PV.get, Out.bind, Out.bindS, ofO, ofB, atI, fAdd, fMul, oOr, fI, getOw, fSet, ixN, putSl, ofE, sSet, putIm, sRet, outIo, sNil, tT, tNt, mCallD, mFn, qCons, qNil, truD, qArgs, qAt, putBack, backE, qAll, getAll, mAnd, mOr, mNot, aCons, aNil, sRaise, sSetF, fGcd, fSetF, tOr2, tAn, putI, mMake, fFld, fl_top, fl_bottom, fNegI, mMethD, isIns, i0, q0, iz, n0]
    · have c48 : c ≠ 48 := numL_head (n := p.natAbs) (by omega) c r hc
      rw [ez]
      simp [mAlt, Out.alt, runDef, startE, startGo, sSeq, sIf, tB1, op2, op1, mP, mPl, mC, mV, getD, PV.get, Out.bind, Out.bindS, ofO, ofB, atI, fAdd, fMul, oOr, fI, getOw, fSet, ixN, putSl, ofE, sSet, putIm, sRet, outIo, sNil, tT, tNt, mCallD, mFn, qCons, qNil, truD, qArgs, qAt, putBack, backE, qAll, getAll, mAnd, mOr, mNot, aCons, aNil, sRaise, sSetF, fGcd, fSetF, tOr2, tAn, putI, mMake, fFld, fl_top, fl_bottom, fNegI, mMethD, isIns, r_f_number_in, m_f_number_in, N_f_number_in, cs_lit, mSl, oNo, oSo, t1, f1, mIf, q1, c45, mChain, lb, h1, h60, sFor, Ml.iStr, signs_S]
      rw [lp]
      simp [mAlt, Out.alt, runDef, startE, startGo, sSeq, sIf, tB1, op2, op1, mP, mPl, mC, mV, getD, PV.get, Out.bind, Out.bindS, ofO, ofB, atI, fAdd, fMul, oOr, fI, getOw, fSet, ixN, putSl, ofE, sSet, putIm, sRet, outIo, sNil, tT, tNt, mCallD, mFn, qCons, qNil, truD, qArgs, qAt, putBack, backE, qAll, getAll, mAnd, mOr, mNot, aCons, aNil, sRaise, sSetF, fGcd, fSetF, tOr2, tAn, putI, mMake, fFld, fl_top, fl_bottom, fNegI, mMethD, isIns, i0, q0, c48, iz]
/-- the text of a ratio -/
def rl (p q : Int) : List Nat := if q = 1 then zl p else zl p ++ 47 :: zl q
theorem split_one {l : List Nat} {k : Nat} (hk : k < 256) (h : k ∉ l) : Txt.split (S l) (S [k]) = [S l] := by
  have e := split_S (a := l) (b := [k]) (by simp [mAlt, Out.alt, runDef, startE, startGo, sSeq, sIf, tB1, op2, op1, mP, mPl, mC, mV, getD, PV.get, Out.bind, Out.bindS, ofO, ofB, atI, fAdd, fMul, oOr, fI, getOw, fSet, ixN, putSl, ofE, sSet, putIm, sRet, outIo, sNil, tT, tNt, mCallD, mFn, qCons, qNil, truD, qArgs, qAt, putBack, backE, qAll, getAll, mAnd, mOr, mNot, aCons, aNil, sRaise, sSetF, fGcd, fSetF, tOr2, tAn, putI, mMake, fFld, fl_top, fl_bottom, fNegI, mMethD, isIns]) (by simp [mAlt, Out.alt, runDef, startE, startGo, sSeq, sIf, tB1, op2, op1, mP, mPl, mC, mV, getD, PV.get, Out.bind, Out.bindS, ofO, ofB, atI, fAdd, fMul, oOr, fI, getOw, fSet, ixN, putSl, ofE, sSet, putIm, sRet, outIo, sNil, tT, tNt, mCallD, mFn, qCons, qNil, truD, qArgs, qAt, putBack, backE, qAll, getAll, mAnd, mOr, mNot, aCons, aNil, sRaise, sSetF, fGcd, fSetF, tOr2, tAn, putI, mMake, fFld, fl_top, fl_bottom, fNegI, mMethD, isIns, hk])
  have z := spl_join (c := k) (sep := []) (parts := [l]) (by simp [mAlt, Out.alt, runDef, startE, startGo, sSeq, sIf, tB1, op2, op1, mP, mPl, mC, mV, getD, PV.get, Out.bind, Out.bindS, ofO, ofB, atI, fAdd, fMul, oOr, fI, getOw, fSet, ixN, putSl, ofE, sSet, putIm, sRet, outIo, sNil, tT, tNt, mCallD, mFn, qCons, qNil, truD, qArgs, qAt, putBack, backE, qAll, getAll, mAnd, mOr, mNot, aCons, aNil, sRaise, sSetF, fGcd, fSetF, tOr2, tAn, putI, mMake, fFld, fl_top, fl_bottom, fNegI, mMethD, isIns]) (by intro p hp; rw [List.mem_singleton.mp hp]; exact h)
  rw [show TL.joinL [k] [l] = l from rfl] at z
  rw [e, z]; rfl
theorem split_two {l m : List Nat} {k : Nat} (hk : k < 256) (h : k ∉ l) (h' : k ∉ m) : Txt.split (S (l ++ k :: m)) (S [k]) = [S l, S m] := by
  have e := split_S (a := l ++ k :: m) (b := [k]) (by simp [mAlt, Out.alt, runDef, startE, startGo, sSeq, sIf, tB1, op2, op1, mP, mPl, mC, mV, getD, PV.get, Out.bind, Out.bindS, ofO, ofB, atI, fAdd, fMul, oOr, fI, getOw, fSet, ixN, putSl, ofE, sSet, putIm, sRet, outIo, sNil, tT, tNt, mCallD, mFn, qCons, qNil, truD, qArgs, qAt, putBack, backE, qAll, getAll, mAnd, mOr, mNot, aCons, aNil, sRaise, sSetF, fGcd, fSetF, tOr2, tAn, putI, mMake, fFld, fl_top, fl_bottom, fNegI, mMethD, isIns]) (by simp [mAlt, Out.alt, runDef, startE, startGo, sSeq, sIf, tB1, op2, op1, mP, mPl, mC, mV, getD, PV.get, Out.bind, Out.bindS, ofO, ofB, atI, fAdd, fMul, oOr, fI, getOw, fSet, ixN, putSl, ofE, sSet, putIm, sRet, outIo, sNil, tT, tNt, mCallD, mFn, qCons, qNil, truD, qArgs, qAt, putBack, backE, qAll, getAll, mAnd, mOr, mNot, aCons, aNil, sRaise, sSetF, fGcd, fSetF, tOr2, tAn, putI, mMake, fFld, fl_top, fl_bottom, fNegI, mMethD, isIns, hk])
  have z := spl_join (c := k) (sep := []) (parts := [l, m]) (by simp [mAlt, Out.alt, runDef, startE, startGo, sSeq, sIf, tB1, op2, op1, mP, mPl, mC, mV, getD, PV.get, Out.bind, Out.bindS, ofO, ofB, atI, fAdd, fMul, oOr, fI, getOw, fSet, ixN, putSl, ofE, sSet, putIm, sRet, outIo, sNil, tT, tNt, mCallD, mFn, qCons, qNil, truD, qArgs, qAt, putBack, backE, qAll, getAll, mAnd, mOr, mNot, aCons, aNil, sRaise, sSetF, fGcd, fSetF, tOr2, tAn, putI, mMake, fFld, fl_top, fl_bottom, fNegI, mMethD, isIns]) (by
    intro p hp
    simp [mAlt, Out.alt, runDef, startE, startGo, sSeq, sIf, tB1, op2, op1, mP, mPl, mC, mV, getD, PV.get, Out.bind, Out.bindS, ofO, ofB, atI, fAdd, fMul, oOr, fI, getOw, fSet, ixN, putSl, ofE, sSet, putIm, sRet, outIo, sNil, tT, tNt, mCallD, mFn, qCons, qNil, truD, qArgs, qAt, putBack, backE, qAll, getAll, mAnd, mOr, mNot, aCons, aNil, sRaise, sSetF, fGcd, fSetF, tOr2, tAn, putI, mMake, fFld, fl_top, fl_bottom, fNegI, mMethD, isIns] at hp
    rcases hp with hp | hp <;> rw [hp]
    · exact h
    · exact h')
  rw [show TL.joinL [k] [l, m] = l ++ k :: m from rfl] at z
  rw [e, z]; rfl
theorem zl_free {p : Int} {k : Nat} (h : k ≠ 45 ∧ (k < 48 ∨ 57 < k)) : k ∉ zl p := fun hm => by
  rcases zl_digit k hm with z | z <;> omega
theorem zl_len {p : Int} (h : (TL.numL p.natAbs).length ≤ 60) : (zl p).length ≤ 61 := by
  unfold zl; split
  · rw [List.length_cons]; omega
  · omega
theorem ratio_in_ok {p q : Int} (l : Low p q) (hp : (TL.numL p.natAbs).length ≤ 60) (hq : (TL.numL q.natAbs).length ≤ 60) (b : Bd 1000 q) : r_f_ratio_in [.str (S (rl p q))] = .ok (rt p q) none := by
  have n1 := number_in_ok hp
  have n2 := number_in_ok hq
  have lp := zl_len hp
  have lq := zl_len hq
  by_cases h1 : q = 1
  · have e : rl p q = zl p := by unfold rl; rw [if_pos h1]
    have sp := split_one (l := zl p) (k := 47) (by decide) (zl_free (by decide))
    have i := init1 p
    rw [e]
    subst h1
    have ls : (zl p).length + 2 ≤ 16777216 := by omega
    simp only [rt] at i
    simp [mAlt, Out.alt, runDef, startE, startGo, sSeq, sIf, tB1, op2, op1, mP, mPl, mC, mV, getD, PV.get, Out.bind, Out.bindS, ofO, ofB, atI, fAdd, fMul, oOr, fI, getOw, fSet, ixN, putSl, ofE, sSet, putIm, sRet, outIo, sNil, tT, tNt, mCallD, mFn, qCons, qNil, truD, qArgs, qAt, putBack, backE, qAll, getAll, mAnd, mOr, mNot, aCons, aNil, sRaise, sSetF, fGcd, fSetF, tOr2, tAn, putI, mMake, fFld, fl_top, fl_bottom, fNegI, mMethD, isIns, r_f_ratio_in, m_f_ratio_in, N_f_ratio_in, mSplit, isStrD, fSplit, cs_lit, S_len, sz, ls, sp, fIx, n1, fIsN, Ml.isNon, fLen, eq_int, i, rt]
  · have e : rl p q = zl p ++ 47 :: zl q := by unfold rl; rw [if_neg h1]
    have sp := split_two (l := zl p) (m := zl q) (k := 47) (by decide) (zl_free (by decide)) (zl_free (by decide))
    have i := init_rat p q l.ne (b.log (by decide) (by decide))
    rw [rat_low l] at i
    rw [e]
    have ls : (zl p ++ 47 :: zl q).length + 2 ≤ 16777216 := by rw [List.length_append, List.length_cons]; omega
    have q2 : ¬ (q < 2) := by have := l.pos; omega
    have g := l.gcd
    simp only [rt] at i
    simp only [List.length_append, List.length_cons] at ls
    simp [mAlt, Out.alt, runDef, startE, startGo, sSeq, sIf, tB1, op2, op1, mP, mPl, mC, mV, getD, PV.get, Out.bind, Out.bindS, ofO, ofB, atI, fAdd, fMul, oOr, fI, getOw, fSet, ixN, putSl, ofE, sSet, putIm, sRet, outIo, sNil, tT, tNt, mCallD, mFn, qCons, qNil, truD, qArgs, qAt, putBack, backE, qAll, getAll, mAnd, mOr, mNot, aCons, aNil, sRaise, sSetF, fGcd, fSetF, tOr2, tAn, putI, mMake, fFld, fl_top, fl_bottom, fNegI, mMethD, isIns, r_f_ratio_in, m_f_ratio_in, N_f_ratio_in, mSplit, isStrD, fSplit, cs_lit, S_len, sz, ls, sp, fIx, n1, n2, fIsN, Ml.isNon, fLen, eq_int, i, rt, q2, g, ne_int]
end K01
set_option maxRecDepth 100000
set_option maxHeartbeats 4000000
namespace K01
open PySem PySem.Spec PyProof.Rows L2 Ml SX
theorem cat_S (a b : List Nat) : (S a ++ S b : Str) = S (a ++ b) := S_cat a b
theorem empty_S : (Str.empty : Str) = S [] := rfl
theorem rl_len {p q : Int} (hp : (zl p).length ≤ 61) (hq : (zl q).length ≤ 61) : (rl p q).length ≤ 123 := by
  unfold rl; split
  · omega
  · rw [List.length_append, List.length_cons]; omega
theorem rl_cs (p q : Int) : Cs (rl p q) := by
  unfold rl; split
  · exact zl_cs p
  · intro c hc
    rcases List.mem_append.mp hc with h | h
    · exact zl_cs p c h
    · rcases List.mem_cons.mp h with h | h
      · omega
      · exact zl_cs q c h
theorem rl_free {p q : Int} {k : Nat} (h : k ≠ 45 ∧ k ≠ 47 ∧ (k < 48 ∨ 57 < k)) : k ∉ rl p q := by
  unfold rl; split
  · exact zl_free ⟨h.1, h.2.2⟩
  · intro hc
    rcases List.mem_append.mp hc with z | z
    · exact zl_free ⟨h.1, h.2.2⟩ z
    · rcases List.mem_cons.mp z with z | z
      · omega
      · exact zl_free ⟨h.1, h.2.2⟩ z
theorem str_ok {p q : Int} (hp : (zl p).length ≤ 61) (hq : (zl q).length ≤ 61) (b1 : Bd 1000 p) (b2 : Bd 1000 q) : r_c_Ratio_str [rt p q] = .ok (.str (S (rl p q))) none := by
  have l1 : p.natAbs.log2 < 1920 := b1.log (by decide) (by decide)
  have l2 : q.natAbs.log2 < 1920 := b2.log (by decide) (by decide)
  have np : Str.ofString p.repr = S (zl p) := num_zl p
  have nq : Str.ofString q.repr = S (zl q) := num_zl q
  have e47 := cs_lit.2.2.1
  by_cases h : q = 1
  · subst h
    have e : rl p 1 = zl p := by unfold rl; rw [if_pos rfl]
    rw [e]
    simp [mAlt, Out.alt, runDef, startE, startGo, sSeq, sIf, tB1, op2, op1, mP, mPl, mC, mV, getD, PV.get, Out.bind, Out.bindS, ofO, ofB, atI, fAdd, fMul, oOr, fI, getOw, fSet, ixN, putSl, ofE, sSet, putIm, sRet, outIo, sNil, tT, tNt, mCallD, mFn, qCons, qNil, truD, qArgs, qAt, putBack, backE, qAll, getAll, mAnd, mOr, mNot, aCons, aNil, sRaise, sSetF, fGcd, fSetF, tOr2, tAn, putI, mMake, fFld, fl_top, fl_bottom, fNegI, mMethD, isIns, r_c_Ratio_str, m_c_Ratio_str, N_c_Ratio_str, rt, eq_int, fStrI, l1, np]
  · have e : rl p q = zl p ++ 47 :: zl q := by unfold rl; rw [if_neg h]
    rw [e]
    have z1 : (zl p).length ≤ 16777216 := by omega
    have z2 : (zl p).length + 1 ≤ 16777216 := by omega
    have z3 : (zl p).length + ((zl q).length + 1) ≤ 16777216 := by omega
    simp [mAlt, Out.alt, runDef, startE, startGo, sSeq, sIf, tB1, op2, op1, mP, mPl, mC, mV, getD, PV.get, Out.bind, Out.bindS, ofO, ofB, atI, fAdd, fMul, oOr, fI, getOw, fSet, ixN, putSl, ofE, sSet, putIm, sRet, outIo, sNil, tT, tNt, mCallD, mFn, qCons, qNil, truD, qArgs, qAt, putBack, backE, qAll, getAll, mAnd, mOr, mNot, aCons, aNil, sRaise, sSetF, fGcd, fSetF, tOr2, tAn, putI, mMake, fFld, fl_top, fl_bottom, fNegI, mMethD, isIns, r_c_Ratio_str, m_c_Ratio_str, N_c_Ratio_str, rt, eq_int, fFmt, fJs, l1, l2, h, np, nq, empty_S, e47, cat_S, S_len, sz, z1, z2, z3]
theorem repr_ok {p q : Int} (hp : (zl p).length ≤ 61) (hq : (zl q).length ≤ 61) (b1 : Bd 1000 p) (b2 : Bd 1000 q) : r_c_Ratio_repr [rt p q] = .ok (.str (S (rl p q))) none := by
  have e := str_ok hp hq b1 b2
  simp only [rt] at e
  simp [mAlt, Out.alt, runDef, startE, startGo, sSeq, sIf, tB1, op2, op1, mP, mPl, mC, mV, getD, PV.get, Out.bind, Out.bindS, ofO, ofB, atI, fAdd, fMul, oOr, fI, getOw, fSet, ixN, putSl, ofE, sSet, putIm, sRet, outIo, sNil, tT, tNt, mCallD, mFn, qCons, qNil, truD, qArgs, qAt, putBack, backE, qAll, getAll, mAnd, mOr, mNot, aCons, aNil, sRaise, sSetF, fGcd, fSetF, tOr2, tAn, putI, mMake, fFld, fl_top, fl_bottom, fNegI, mMethD, isIns, r_c_Ratio_repr, m_c_Ratio_repr, N_c_Ratio_repr, rt, mFnX, ownS, ownC, ownU, xOr, OF.out, e, strOF]
theorem read_ok {p q : Int} (l : Low p q) (hp : (TL.numL p.natAbs).length ≤ 60) (hq : (TL.numL q.natAbs).length ≤ 60) (b : Bd 1000 q) : r_c_Ratio_read [.cls 1, .str (S (rl p q))] = .ok (rt p q) none := by
  have ri := ratio_in_ok l hp hq b
  have ln := rl_len (p := p) (q := q) (zl_len hp) (zl_len hq)
  have sp := split_one (l := rl p q) (k := 32) (by decide) (rl_free (by decide))
  have ls : (rl p q).length + 2 ≤ 16777216 := by omega
  have e32 := cs_lit.2.2.2
  have it (s : Str) : fIsi t0 [.str s, .ty "str"] = some (.bl true) := by rfl
  have si : r_c_Scan_init [.ins 0 [], .str (S (rl p q))] = .ok .non (some (.ins 0 [.lst [.str (S (rl p q))], .int 0])) := by
    simp [mAlt, Out.alt, runDef, startE, startGo, sSeq, sIf, tB1, op2, op1, mP, mPl, mC, mV, getD, PV.get, Out.bind, Out.bindS, ofO, ofB, atI, fAdd, fMul, oOr, fI, getOw, fSet, ixN, putSl, ofE, sSet, putIm, sRet, outIo, sNil, tT, tNt, mCallD, mFn, qCons, qNil, truD, qArgs, qAt, putBack, backE, qAll, getAll, mAnd, mOr, mNot, aCons, aNil, sRaise, sSetF, fGcd, fSetF, tOr2, tAn, putI, mMake, fFld, fl_top, fl_bottom, fNegI, mMethD, isIns, r_c_Scan_init, m_c_Scan_init, N_c_Scan_init, it, fl_words, fl_at, mSplit, isStrD, fSplit, e32, S_len, sz, ls, sp]
  have so : r_c_Scan_is_over [.ins 0 [.lst [.str (S (rl p q))], .int 0]] = .ok (.bl false) (some (.ins 0 [.lst [.str (S (rl p q))], .int 0])) := by
    simp [mAlt, Out.alt, runDef, startE, startGo, sSeq, sIf, tB1, op2, op1, mP, mPl, mC, mV, getD, PV.get, Out.bind, Out.bindS, ofO, ofB, atI, fAdd, fMul, oOr, fI, getOw, fSet, ixN, putSl, ofE, sSet, putIm, sRet, outIo, sNil, tT, tNt, mCallD, mFn, qCons, qNil, truD, qArgs, qAt, putBack, backE, qAll, getAll, mAnd, mOr, mNot, aCons, aNil, sRaise, sSetF, fGcd, fSetF, tOr2, tAn, putI, mMake, fFld, fl_top, fl_bottom, fNegI, mMethD, isIns, r_c_Scan_is_over, m_c_Scan_is_over, N_c_Scan_is_over, fl_words, fl_at, fLen]
  have se : r_c_Scan_seen [.ins 0 [.lst [.str (S (rl p q))], .int 0]] = .ok (.str (S (rl p q))) (some (.ins 0 [.lst [.str (S (rl p q))], .int 0])) := by
    simp [mAlt, Out.alt, runDef, startE, startGo, sSeq, sIf, tB1, op2, op1, mP, mPl, mC, mV, getD, PV.get, Out.bind, Out.bindS, ofO, ofB, atI, fAdd, fMul, oOr, fI, getOw, fSet, ixN, putSl, ofE, sSet, putIm, sRet, outIo, sNil, tT, tNt, mCallD, mFn, qCons, qNil, truD, qArgs, qAt, putBack, backE, qAll, getAll, mAnd, mOr, mNot, aCons, aNil, sRaise, sSetF, fGcd, fSetF, tOr2, tAn, putI, mMake, fFld, fl_top, fl_bottom, fNegI, mMethD, isIns, r_c_Scan_seen, m_c_Scan_seen, N_c_Scan_seen, fl_words, fl_at, fLen, fIx]
  have sk : r_c_Scan_take [.ins 0 [.lst [.str (S (rl p q))], .int 0]] = .ok (.str (S (rl p q))) (some (.ins 0 [.lst [.str (S (rl p q))], .int 1])) := by
    simp [mAlt, Out.alt, runDef, startE, startGo, sSeq, sIf, tB1, op2, op1, mP, mPl, mC, mV, getD, PV.get, Out.bind, Out.bindS, ofO, ofB, atI, fAdd, fMul, oOr, fI, getOw, fSet, ixN, putSl, ofE, sSet, putIm, sRet, outIo, sNil, tT, tNt, mCallD, mFn, qCons, qNil, truD, qArgs, qAt, putBack, backE, qAll, getAll, mAnd, mOr, mNot, aCons, aNil, sRaise, sSetF, fGcd, fSetF, tOr2, tAn, putI, mMake, fFld, fl_top, fl_bottom, fNegI, mMethD, isIns, r_c_Scan_take, m_c_Scan_take, N_c_Scan_take, fl_words, fl_at, se, fIsN, Ml.isNon]
  have sf : r_c_Scan_finish [.ins 0 [.lst [.str (S (rl p q))], .int 1]] = .ok .non (some (.ins 0 [.lst [.str (S (rl p q))], .int 1])) := by
    simp [mAlt, Out.alt, runDef, startE, startGo, sSeq, sIf, tB1, op2, op1, mP, mPl, mC, mV, getD, PV.get, Out.bind, Out.bindS, ofO, ofB, atI, fAdd, fMul, oOr, fI, getOw, fSet, ixN, putSl, ofE, sSet, putIm, sRet, outIo, sNil, tT, tNt, mCallD, mFn, qCons, qNil, truD, qArgs, qAt, putBack, backE, qAll, getAll, mAnd, mOr, mNot, aCons, aNil, sRaise, sSetF, fGcd, fSetF, tOr2, tAn, putI, mMake, fFld, fl_top, fl_bottom, fNegI, mMethD, isIns, r_c_Scan_finish, m_c_Scan_finish, N_c_Scan_finish, fl_words, fl_at, fLen]
  have tk : r_f_take_ratio [.ins 0 [.lst [.str (S (rl p q))], .int 0]] = .ok (rt p q) (some (.ins 0 [.lst [.str (S (rl p q))], .int 1])) := by
    simp only [rt] at ri
    simp [mAlt, Out.alt, runDef, startE, startGo, sSeq, sIf, tB1, op2, op1, mP, mPl, mC, mV, getD, PV.get, Out.bind, Out.bindS, ofO, ofB, atI, fAdd, fMul, oOr, fI, getOw, fSet, ixN, putSl, ofE, sSet, putIm, sRet, outIo, sNil, tT, tNt, mCallD, mFn, qCons, qNil, truD, qArgs, qAt, putBack, backE, qAll, getAll, mAnd, mOr, mNot, aCons, aNil, sRaise, sSetF, fGcd, fSetF, tOr2, tAn, putI, mMake, fFld, fl_top, fl_bottom, fNegI, mMethD, isIns, r_f_take_ratio, m_f_take_ratio, N_f_take_ratio, mIf, so, se, ri, fIsN, Ml.isNon, sExpr, sk, rt]
  simp only [rt] at tk
  simp [mAlt, Out.alt, runDef, startE, startGo, sSeq, sIf, tB1, op2, op1, mP, mPl, mC, mV, getD, PV.get, Out.bind, Out.bindS, ofO, ofB, atI, fAdd, fMul, oOr, fI, getOw, fSet, ixN, putSl, ofE, sSet, putIm, sRet, outIo, sNil, tT, tNt, mCallD, mFn, qCons, qNil, truD, qArgs, qAt, putBack, backE, qAll, getAll, mAnd, mOr, mNot, aCons, aNil, sRaise, sSetF, fGcd, fSetF, tOr2, tAn, putI, mMake, fFld, fl_top, fl_bottom, fNegI, mMethD, isIns, r_c_Ratio_read, m_c_Ratio_read, N_c_Ratio_read, sSetN, putOw, si, tk, sf, sExpr, rt]
theorem eq_odd {p q : Int} {d : D} (h : Odd d) : r_c_Ratio_eq [rt p q, d] = .ok (.bl false) none := by
  have h1 := h.1
  have h2 := h.2
  simp [mAlt, Out.alt, runDef, startE, startGo, sSeq, sIf, tB1, op2, op1, mP, mPl, mC, mV, getD, PV.get, Out.bind, Out.bindS, ofO, ofB, atI, fAdd, fMul, oOr, fI, getOw, fSet, ixN, putSl, ofE, sSet, putIm, sRet, outIo, sNil, tT, tNt, mCallD, mFn, qCons, qNil, truD, qArgs, qAt, putBack, backE, qAll, getAll, mAnd, mOr, mNot, aCons, aNil, sRaise, sSetF, fGcd, fSetF, tOr2, tAn, putI, mMake, fFld, fl_top, fl_bottom, fNegI, mMethD, isIns, r_c_Ratio_eq, m_c_Ratio_eq, N_c_Ratio_eq, rt, h1, h2]
theorem sign_ok (p q : Int) : r_c_Ratio_sign [rt p q] = .ok (.int (if p < 0 then -1 else if 0 < p then 1 else 0)) none := by
  by_cases h : p < 0
  · simp [mAlt, Out.alt, runDef, startE, startGo, sSeq, sIf, tB1, op2, op1, mP, mPl, mC, mV, getD, PV.get, Out.bind, Out.bindS, ofO, ofB, atI, fAdd, fMul, oOr, fI, getOw, fSet, ixN, putSl, ofE, sSet, putIm, sRet, outIo, sNil, tT, tNt, mCallD, mFn, qCons, qNil, truD, qArgs, qAt, putBack, backE, qAll, getAll, mAnd, mOr, mNot, aCons, aNil, sRaise, sSetF, fGcd, fSetF, tOr2, tAn, putI, mMake, fFld, fl_top, fl_bottom, fNegI, mMethD, isIns, r_c_Ratio_sign, m_c_Ratio_sign, N_c_Ratio_sign, rt, h]
  · by_cases h2 : 0 < p
    · simp [mAlt, Out.alt, runDef, startE, startGo, sSeq, sIf, tB1, op2, op1, mP, mPl, mC, mV, getD, PV.get, Out.bind, Out.bindS, ofO, ofB, atI, fAdd, fMul, oOr, fI, getOw, fSet, ixN, putSl, ofE, sSet, putIm, sRet, outIo, sNil, tT, tNt, mCallD, mFn, qCons, qNil, truD, qArgs, qAt, putBack, backE, qAll, getAll, mAnd, mOr, mNot, aCons, aNil, sRaise, sSetF, fGcd, fSetF, tOr2, tAn, putI, mMake, fFld, fl_top, fl_bottom, fNegI, mMethD, isIns, r_c_Ratio_sign, m_c_Ratio_sign, N_c_Ratio_sign, rt, h, h2, mIf]
    · simp [mAlt, Out.alt, runDef, startE, startGo, sSeq, sIf, tB1, op2, op1, mP, mPl, mC, mV, getD, PV.get, Out.bind, Out.bindS, ofO, ofB, atI, fAdd, fMul, oOr, fI, getOw, fSet, ixN, putSl, ofE, sSet, putIm, sRet, outIo, sNil, tT, tNt, mCallD, mFn, qCons, qNil, truD, qArgs, qAt, putBack, backE, qAll, getAll, mAnd, mOr, mNot, aCons, aNil, sRaise, sSetF, fGcd, fSetF, tOr2, tAn, putI, mMake, fFld, fl_top, fl_bottom, fNegI, mMethD, isIns, r_c_Ratio_sign, m_c_Ratio_sign, N_c_Ratio_sign, rt, h, h2, mIf]
theorem whole_ok (p q : Int) : r_c_Ratio_is_whole [rt p q] = .ok (.bl (decide (q = 1))) none := by
  simp [mAlt, Out.alt, runDef, startE, startGo, sSeq, sIf, tB1, op2, op1, mP, mPl, mC, mV, getD, PV.get, Out.bind, Out.bindS, ofO, ofB, atI, fAdd, fMul, oOr, fI, getOw, fSet, ixN, putSl, ofE, sSet, putIm, sRet, outIo, sNil, tT, tNt, mCallD, mFn, qCons, qNil, truD, qArgs, qAt, putBack, backE, qAll, getAll, mAnd, mOr, mNot, aCons, aNil, sRaise, sSetF, fGcd, fSetF, tOr2, tAn, putI, mMake, fFld, fl_top, fl_bottom, fNegI, mMethD, isIns, r_c_Ratio_is_whole, m_c_Ratio_is_whole, N_c_Ratio_is_whole, rt, eq_int]
theorem odd_non : Odd .non := ⟨isint_non, by rfl⟩
theorem odd_bl (b : Bool) : Odd (.bl b) := ⟨isint_bl b, by rfl⟩
theorem odd_str (s : Str) : Odd (.str s) := ⟨isint_str s, by rfl⟩
theorem odd_lst (xs : List D) : Odd (.lst xs) := ⟨isint_lst xs, by rfl⟩
theorem odd_tup (xs : List D) : Odd (.tup xs) := ⟨isint_tup xs, by rfl⟩
theorem odd_dct (xs : List (Key × D)) : Odd (.dct xs) := ⟨isint_dct xs, by rfl⟩
theorem low_eq {p q : Int} (l : Low p q) : tp p q = p ∧ bt p q = q := ⟨tp_low l.pos l.gcd, bt_low l.pos l.gcd⟩
/-- the texts of a ratio a / b = p / q -/
theorem texts_ok {a b : Int} (hb : b ≠ 0) (hp : (TL.numL (tp a b).natAbs).length ≤ 60) (hq : (TL.numL (bt a b).natAbs).length ≤ 60) (b1 : Bd 1000 a) (b2 : Bd 1000 b) :
    r_f_law_texts_right [rt (tp a b) (bt a b), .int a, .int b] = .ok (.bl true) none := by
  have l := low_tb a hb
  have k1 := b1.tp b
  have k2 := b2.bt a
  have du := due_int a b hb (b2.log (by decide) (by decide))
  have e1 : a.fdiv (sg a b) = tp a b := rfl
  have e2 : b.fdiv (sg a b) = bt a b := rfl
  rw [e1, e2] at du
  have st := str_ok (zl_len hp) (zl_len hq) k1 k2
  have re := repr_ok (zl_len hp) (zl_len hq) k1 k2
  have rd := read_ok l hp hq k2
  have is1 := is_low (x := tp a b) (y := bt a b) (a := a) (b := b) (low_eq l) hb b2
  rw [rat_low l] at is1
  have eqs := eq_rat (tp a b) (bt a b) (tp a b) (bt a b)
  have eqi := eq_rt_int (tp a b) (bt a b) (tp a b)
  have sg1 := sign_ok (tp a b) (bt a b)
  have wh := whole_ok (tp a b) (bt a b)
  have bo := bool_rat (tp a b) (bt a b)
  have ng := neg_v (p := tp a b) l.ne k2
  have ab := abs_rat (tp a b) (bt a b) l.ne (k2.log (by decide) (by decide))
  have is2 : r_f_law_is [rat (-tp a b) (bt a b), .int (-a), .int b] = .ok (.bl true) none := by
    refine is_low ?_ hb b2
    have := low_eq l.neg
    rw [this.1, this.2]
    have := tp_neg (a := a) hb
    exact ⟨this.1.symm, this.2.symm⟩
  have is3 : r_f_law_is [rat ((tp a b).natAbs : Int) (bt a b), .int (a.natAbs : Int), .int (b.natAbs : Int)] = .ok (.bl true) none := by
    have s0 : ((sg a b).natAbs : Int) ≠ 0 := by have := sg_ne (a := a) hb; omega
    have x1 : (a.natAbs : Int) = ((sg a b).natAbs : Int) * ((tp a b).natAbs : Int) := by
      rw [← Int.natCast_mul, ← Int.natAbs_mul, Int.mul_comm, tp_mul]
    have x2 : (b.natAbs : Int) = ((sg a b).natAbs : Int) * bt a b := by
      have : (bt a b) = ((bt a b).natAbs : Int) := by have := l.pos; omega
      rw [this, ← Int.natCast_mul, ← Int.natAbs_mul, Int.mul_comm, bt_mul]
    refine is_low ?_ (by omega) (by unfold Bd at *; rwa [Int.natAbs_natCast])
    rw [x1, x2]
    exact ⟨(tp_scale s0 l.ne).symm, (bt_scale s0 l.ne).symm⟩
  have e47 := cs_lit.2.2.1
  have np : Str.ofString (tp a b).repr = S (zl (tp a b)) := num_zl _
  have nq : Str.ofString (bt a b).repr = S (zl (bt a b)) := num_zl _
  have log1 : (tp a b).natAbs.log2 < 1920 := k1.log (by decide) (by decide)
  have log2 : (bt a b).natAbs.log2 < 1920 := k2.log (by decide) (by decide)
  have lp := zl_len hp
  have lq := zl_len hq
  have lz1 : (zl (tp a b)).length + 1 ≤ 16777216 := by omega
  have lz2 : (zl (tp a b)).length + 1 + (zl (bt a b)).length ≤ 16777216 := by omega
  have lz3 : 4 ≤ 16777216 := by decide
  have rcs := rl_cs (tp a b) (bt a b)
  have o1 (s : Str) := eq_odd (p := tp a b) (q := bt a b) (odd_str s)
  have o2 := eq_odd (p := tp a b) (q := bt a b) odd_non
  have o3 (xs : List D) := eq_odd (p := tp a b) (q := bt a b) (odd_lst xs)
  have o4 (k : Bool) := eq_odd (p := tp a b) (q := bt a b) (odd_bl k)
  have nl : fNe (.lst []) (.lst []) = some (.bl false) := by rfl
  have ab1 (i : Int) : (if i < 0 then -i else i) = (i.natAbs : Int) := by split <;> omega
  have erl1 : bt a b = 1 → rl (tp a b) (bt a b) = zl (tp a b) := fun h => by unfold rl; rw [if_pos h]
  have erl2 : bt a b ≠ 1 → rl (tp a b) (bt a b) = zl (tp a b) ++ 47 :: zl (bt a b) := fun h => by unfold rl; rw [if_neg h]
  generalize hP : tp a b = P at *
  generalize hQ : bt a b = Q at *
  have EE := @eq_S
  have NE := @ne_S
  have nr := ne_S rcs rcs
  simp only [rt] at *
  by_cases q1 : Q = 1
  · have erl := erl1 q1
    rw [erl] at st re rd nr
    subst q1
    rcases Int.lt_trichotomy P 0 with c | c | c
    · have c1 : ¬ (0 < P) := by omega
      have c2 : ¬ (P = 0) := by omega
      simp [mAlt, Out.alt, runDef, startE, startGo, sSeq, sIf, tB1, op2, op1, mP, mPl, mC, mV, getD, PV.get, Out.bind, Out.bindS, ofO, ofB, atI, fAdd, fMul, oOr, fI, getOw, fSet, ixN, putSl, ofE, sSet, putIm, sRet, outIo, sNil, tT, tNt, mCallD, mFn, qCons, qNil, truD, qArgs, qAt, putBack, backE, qAll, getAll, mAnd, mOr, mNot, aCons, aNil, sRaise, sSetF, fGcd, fSetF, tOr2, tAn, putI, mMake, fFld, fl_top, fl_bottom, fNegI, mMethD, isIns, r_f_law_texts_right, m_f_law_texts_right, N_f_law_texts_right, du, op2X, op1X, ownB, ownU, ownC, ownS, ownT, mFnX, xOr, OF.out, strOF, blOF, fIx, mIf, eq_int, ne_int, fStrI, np, nq, e47, c, c1, c2, lz1, lz2, lz3, log1, log2, st, re, rd, is1, eqs, eqi, sg1, wh, bo, ng, ab, is2, is3, mCMeth, mProp, nr, int_bl, ne_bl, eq_bl, mLst, sz, mLc, iSeq, noOwn, lcGo, wipeE, mergeE, gNm, o1, o2, o3, o4, okR, fAbs, nl, cat_S, S_len, fAddS, ab1]
    · have c1 : ¬ (0 < P) := by omega
      have c2 : ¬ (P < 0) := by omega
      have c3 : decide (P = 0) = true := decide_eq_true c
      have ca : decide (P < 0) = false := decide_eq_false c2
      have cb : decide (0 < P) = false := decide_eq_false c1
      have n0 := ne_int P 0
      rw [c3] at n0
      have bo' : r_c_Ratio_bool [D.ins 1 [D.int P, D.int 1]] = OF.ok (D.bl false) none := by rw [bo, decide_eq_false (fun h => h c)]
      simp [mAlt, Out.alt, runDef, startE, startGo, sSeq, sIf, tB1, op2, op1, mP, mPl, mC, mV, getD, PV.get, Out.bind, Out.bindS, ofO, ofB, atI, fAdd, fMul, oOr, fI, getOw, fSet, ixN, putSl, ofE, sSet, putIm, sRet, outIo, sNil, tT, tNt, mCallD, mFn, qCons, qNil, truD, qArgs, qAt, putBack, backE, qAll, getAll, mAnd, mOr, mNot, aCons, aNil, sRaise, sSetF, fGcd, fSetF, tOr2, tAn, putI, mMake, fFld, fl_top, fl_bottom, fNegI, mMethD, isIns, r_f_law_texts_right, m_f_law_texts_right, N_f_law_texts_right, du, op2X, op1X, ownB, ownU, ownC, ownS, ownT, mFnX, xOr, OF.out, strOF, blOF, fIx, mIf, eq_int, n0, ne_self, fStrI, np, nq, e47, c1, c2, ca, cb, lz1, lz2, lz3, log1, log2, st, re, rd, is1, eqs, eqi, sg1, wh, bo', ng, ab, is2, is3, mCMeth, mProp, nr, int_bl, ne_bl, eq_bl, mLst, sz, mLc, iSeq, noOwn, lcGo, wipeE, mergeE, gNm, o1, o2, o3, o4, okR, fAbs, nl, cat_S, S_len, fAddS, ab1]
    · have c1 : ¬ (P < 0) := by omega
      have c2 : ¬ (P = 0) := by omega
      simp [mAlt, Out.alt, runDef, startE, startGo, sSeq, sIf, tB1, op2, op1, mP, mPl, mC, mV, getD, PV.get, Out.bind, Out.bindS, ofO, ofB, atI, fAdd, fMul, oOr, fI, getOw, fSet, ixN, putSl, ofE, sSet, putIm, sRet, outIo, sNil, tT, tNt, mCallD, mFn, qCons, qNil, truD, qArgs, qAt, putBack, backE, qAll, getAll, mAnd, mOr, mNot, aCons, aNil, sRaise, sSetF, fGcd, fSetF, tOr2, tAn, putI, mMake, fFld, fl_top, fl_bottom, fNegI, mMethD, isIns, r_f_law_texts_right, m_f_law_texts_right, N_f_law_texts_right, du, op2X, op1X, ownB, ownU, ownC, ownS, ownT, mFnX, xOr, OF.out, strOF, blOF, fIx, mIf, eq_int, ne_int, fStrI, np, nq, e47, c, c1, c2, lz1, lz2, lz3, log1, log2, st, re, rd, is1, eqs, eqi, sg1, wh, bo, ng, ab, is2, is3, mCMeth, mProp, nr, int_bl, ne_bl, eq_bl, mLst, sz, mLc, iSeq, noOwn, lcGo, wipeE, mergeE, gNm, o1, o2, o3, o4, okR, fAbs, nl, cat_S, S_len, fAddS, ab1]
  · have erl := erl2 q1
    rw [erl] at st re rd nr
    rcases Int.lt_trichotomy P 0 with c | c | c
    · have c1 : ¬ (0 < P) := by omega
      have c2 : ¬ (P = 0) := by omega
      simp [mAlt, Out.alt, runDef, startE, startGo, sSeq, sIf, tB1, op2, op1, mP, mPl, mC, mV, getD, PV.get, Out.bind, Out.bindS, ofO, ofB, atI, fAdd, fMul, oOr, fI, getOw, fSet, ixN, putSl, ofE, sSet, putIm, sRet, outIo, sNil, tT, tNt, mCallD, mFn, qCons, qNil, truD, qArgs, qAt, putBack, backE, qAll, getAll, mAnd, mOr, mNot, aCons, aNil, sRaise, sSetF, fGcd, fSetF, tOr2, tAn, putI, mMake, fFld, fl_top, fl_bottom, fNegI, mMethD, isIns, r_f_law_texts_right, m_f_law_texts_right, N_f_law_texts_right, du, op2X, op1X, ownB, ownU, ownC, ownS, ownT, mFnX, xOr, OF.out, strOF, blOF, fIx, mIf, eq_int, ne_int, fStrI, np, nq, e47, q1, c, c1, c2, lz1, lz2, lz3, log1, log2, st, re, rd, is1, eqs, eqi, sg1, wh, bo, ng, ab, is2, is3, mCMeth, mProp, nr, int_bl, ne_bl, eq_bl, mLst, sz, mLc, iSeq, noOwn, lcGo, wipeE, mergeE, gNm, o1, o2, o3, o4, okR, fAbs, nl, cat_S, S_len, fAddS, ab1]
    · have c1 : ¬ (0 < P) := by omega
      have c2 : ¬ (P < 0) := by omega
      have c3 : decide (P = 0) = true := decide_eq_true c
      have ca : decide (P < 0) = false := decide_eq_false c2
      have cb : decide (0 < P) = false := decide_eq_false c1
      have n0 := ne_int P 0
      rw [c3] at n0
      have bo' : r_c_Ratio_bool [D.ins 1 [D.int P, D.int Q]] = OF.ok (D.bl false) none := by rw [bo, decide_eq_false (fun h => h c)]
      simp [mAlt, Out.alt, runDef, startE, startGo, sSeq, sIf, tB1, op2, op1, mP, mPl, mC, mV, getD, PV.get, Out.bind, Out.bindS, ofO, ofB, atI, fAdd, fMul, oOr, fI, getOw, fSet, ixN, putSl, ofE, sSet, putIm, sRet, outIo, sNil, tT, tNt, mCallD, mFn, qCons, qNil, truD, qArgs, qAt, putBack, backE, qAll, getAll, mAnd, mOr, mNot, aCons, aNil, sRaise, sSetF, fGcd, fSetF, tOr2, tAn, putI, mMake, fFld, fl_top, fl_bottom, fNegI, mMethD, isIns, r_f_law_texts_right, m_f_law_texts_right, N_f_law_texts_right, du, op2X, op1X, ownB, ownU, ownC, ownS, ownT, mFnX, xOr, OF.out, strOF, blOF, fIx, mIf, eq_int, n0, ne_self, fStrI, np, nq, e47, q1, c1, c2, ca, cb, lz1, lz2, lz3, log1, log2, st, re, rd, is1, eqs, eqi, sg1, wh, bo', ng, ab, is2, is3, mCMeth, mProp, nr, int_bl, ne_bl, eq_bl, mLst, sz, mLc, iSeq, noOwn, lcGo, wipeE, mergeE, gNm, o1, o2, o3, o4, okR, fAbs, nl, cat_S, S_len, fAddS, ab1]
    · have c1 : ¬ (P < 0) := by omega
      have c2 : ¬ (P = 0) := by omega
      simp [mAlt, Out.alt, runDef, startE, startGo, sSeq, sIf, tB1, op2, op1, mP, mPl, mC, mV, getD, PV.get, Out.bind, Out.bindS, ofO, ofB, atI, fAdd, fMul, oOr, fI, getOw, fSet, ixN, putSl, ofE, sSet, putIm, sRet, outIo, sNil, tT, tNt, mCallD, mFn, qCons, qNil, truD, qArgs, qAt, putBack, backE, qAll, getAll, mAnd, mOr, mNot, aCons, aNil, sRaise, sSetF, fGcd, fSetF, tOr2, tAn, putI, mMake, fFld, fl_top, fl_bottom, fNegI, mMethD, isIns, r_f_law_texts_right, m_f_law_texts_right, N_f_law_texts_right, du, op2X, op1X, ownB, ownU, ownC, ownS, ownT, mFnX, xOr, OF.out, strOF, blOF, fIx, mIf, eq_int, ne_int, fStrI, np, nq, e47, q1, c, c1, c2, lz1, lz2, lz3, log1, log2, st, re, rd, is1, eqs, eqi, sg1, wh, bo, ng, ab, is2, is3, mCMeth, mProp, nr, int_bl, ne_bl, eq_bl, mLst, sz, mLc, iSeq, noOwn, lcGo, wipeE, mergeE, gNm, o1, o2, o3, o4, okR, fAbs, nl, cat_S, S_len, fAddS, ab1]
end K01
set_option maxRecDepth 100000
set_option maxHeartbeats 4000000
namespace K01
open PySem PySem.Spec PyProof.Rows L2 Ml SX
/-! what draws -/
def Tub (n : Nat) (d : D) : Prop := ∃ a c : Int, d = .lst [.int a, .int c] ∧ 0 ≤ c ∧ c ≤ (n : Int)
theorem scoop_ok {n : Nat} {d : D} {m : Int} (t : Tub n d) (hn : n ≤ 900000) (h0 : 0 < m) (hm : m.natAbs.log2 < 9000) : ∃ (r : Int) (d' : D), r_f_law_scoop [d, .int m] = .ok (.int r) (some d') ∧ 0 ≤ r ∧ r < m ∧ Tub (n + 1) d' := by
  obtain ⟨a, c, rfl, h1, h2⟩ := t
  have e := scoop1 a c m h1 (by omega) h0 hm
  by_cases z : a = 0
  · rw [if_pos z] at e
    exact ⟨_, _, e, Int.fmod_nonneg_of_pos _ h0, Int.fmod_lt_of_pos _ h0, _, _, rfl, by omega, by omega⟩
  · rw [if_neg z] at e
    exact ⟨_, _, e, Int.fmod_nonneg_of_pos _ h0, Int.fmod_lt_of_pos _ h0, _, _, rfl, h1, by omega⟩
theorem Tub.mono {n m : Nat} {d : D} (t : Tub n d) (h : n ≤ m) : Tub m d := by
  obtain ⟨a, c, rfl, h1, h2⟩ := t
  exact ⟨a, c, rfl, h1, by omega⟩
theorem pair_ok {n : Nat} {d : D} (t : Tub n d) (hn : n ≤ 800000) : ∃ (a b : Int) (d' : D), r_f_law_pair [d] = .ok (.tup [.int a, .int b]) (some d') ∧ b ≠ 0 ∧ a.natAbs < 10 ^ 26 ∧ b.natAbs < 10 ^ 26 ∧ Tub (n + 5) d' := by
  obtain ⟨r1, d1, s1, u1, v1, t1⟩ := scoop_ok (m := 4) t (by omega) (by decide) (by decide +kernel)
  obtain ⟨r2, d2, s2, u2, v2, t2⟩ := scoop_ok (m := 2) t1 (by omega) (by decide) (by decide +kernel)
  have z4 : 4 ≤ sizeLine := by decide
  have z2 : 2 ≤ sizeLine := by decide
  have key : ∀ g : Int, 0 < g → g ≤ 10 ^ 25 → fIx (.tup [.int 4, .int 13, .int (10 ^ 7), .int (10 ^ 25)]) (.int r1) = some (.int g) → ∃ (a b : Int) (d' : D), r_f_law_pair [d] = .ok (.tup [.int a, .int b]) (some d') ∧ b ≠ 0 ∧ a.natAbs < 10 ^ 26 ∧ b.natAbs < 10 ^ 26 ∧ Tub (n + 5) d' := by
    intro g hg hg2 hx
    have gl : g.natAbs.log2 < 9000 := by
      have : g.natAbs ≠ 0 := by omega
      rw [Nat.log2_lt this]
      have : (2 : Nat) ^ 84 ≤ 2 ^ 9000 := Nat.pow_le_pow_right (by decide) (by decide)
      have e : (10 : Nat) ^ 25 < 2 ^ 84 := by decide +kernel
      omega
    obtain ⟨r3, d3, s3, u3, v3, t3⟩ := scoop_ok (m := g) t2 (by omega) hg gl
    obtain ⟨r4, d4, s4, u4, v4, t4⟩ := scoop_ok (m := 2) t3 (by omega) (by decide) (by decide +kernel)
    obtain ⟨r5, d5, s5, u5, v5, t5⟩ := scoop_ok (m := g) t4 (by omega) hg gl
    refine ⟨(2 * r4 - 1) * r5, (2 * r2 - 1) * (1 + r3), d5, ?_, ?_, ?_, ?_, t5⟩
    · have q1 : Nat.log2 2 + r2.natAbs.log2 < 1000000 := by
        have : r2 = 0 ∨ r2 = 1 := by omega
        rcases this with h | h <;> rw [h] <;> decide +kernel
      have q2 : Nat.log2 2 + r4.natAbs.log2 < 1000000 := by
        have : r4 = 0 ∨ r4 = 1 := by omega
        rcases this with h | h <;> rw [h] <;> decide +kernel
      have bb (x : Int) (h : x.natAbs ≤ 10 ^ 25) : x.natAbs.log2 < 500000 := by
        by_cases z : x.natAbs = 0
        · rw [z]; decide
        · have e : (10 : Nat) ^ 25 < 2 ^ 84 := by decide +kernel
          have : x.natAbs.log2 < 84 := (Nat.log2_lt z).mpr (by omega)
          omega
      have q3 : (2 * r2 - 1).natAbs.log2 + (1 + r3).natAbs.log2 < 1000000 := by
        have h1 := bb (1 + r3) (by omega)
        have h2 := bb (2 * r2 - 1) (by omega)
        omega
      have q4 : (2 * r4 - 1).natAbs.log2 + r5.natAbs.log2 < 1000000 := by
        have h1 := bb r5 (by omega)
        have h2 := bb (2 * r4 - 1) (by omega)
        omega
      simp [mAlt, Out.alt, runDef, startE, startGo, sSeq, sIf, tB1, op2, op1, mP, mPl, mC, mV, getD, PV.get, Out.bind, Out.bindS, ofO, ofB, atI, fAdd, fMul, oOr, fI, getOw, fSet, ixN, putSl, ofE, sSet, putIm, sRet, outIo, sNil, tT, tNt, mCallD, mFn, qCons, qNil, truD, qArgs, qAt, putBack, backE, qAll, getAll, mAnd, mOr, mNot, aCons, aNil, sRaise, sSetF, fGcd, fSetF, tOr2, tAn, putI, mMake, fFld, fl_top, fl_bottom, fNegI, mMethD, isIns] at hx
      simp [mAlt, Out.alt, runDef, startE, startGo, sSeq, sIf, tB1, op2, op1, mP, mPl, mC, mV, getD, PV.get, Out.bind, Out.bindS, ofO, ofB, atI, fAdd, fMul, oOr, fI, getOw, fSet, ixN, putSl, ofE, sSet, putIm, sRet, outIo, sNil, tT, tNt, mCallD, mFn, qCons, qNil, truD, qArgs, qAt, putBack, backE, qAll, getAll, mAnd, mOr, mNot, aCons, aNil, sRaise, sSetF, fGcd, fSetF, tOr2, tAn, putI, mMake, fFld, fl_top, fl_bottom, fNegI, mMethD, isIns, r_f_law_pair, m_f_law_pair, N_f_law_pair, mTup, z4, z2, s1, s2, hx, s3, s4, s5, q1, q2, q3, q4]
    · have : r2 = 0 ∨ r2 = 1 := by omega
      rcases this with h | h <;> rw [h] <;> omega
    · have : r4 = 0 ∨ r4 = 1 := by omega
      rcases this with h | h <;> rw [h] <;> omega
    · have : r2 = 0 ∨ r2 = 1 := by omega
      rcases this with h | h <;> rw [h] <;> omega
  have : r1 = 0 ∨ r1 = 1 ∨ r1 = 2 ∨ r1 = 3 := by omega
  rcases this with h | h | h | h <;> subst h
  · exact key 4 (by decide) (by decide) (by rfl)
  · exact key 13 (by decide) (by decide) (by rfl)
  · exact key (10 ^ 7) (by decide) (by decide) (by rfl)
  · exact key (10 ^ 25) (by decide) (by decide) (by rfl)
end K01
set_option maxRecDepth 100000
set_option maxHeartbeats 4000000
namespace K01
open PySem PySem.Spec PyProof.Rows L2 Ml SX
/-! drawn texts, names -/
def sgn : List Nat := [97,98,99,100,101,102,103,104,105,106,107,108,109,110,111,112,113,114,115,116,117,118,119,120,121,122,48,49,50,51,52,53,54,55,56,57,97,65,46,95,45,32,126]
theorem sgn_lit : PySem.Str.ofString "abcdefghijklmnopqrstuvwxyz0123456789" ++ PySem.Str.ofString "aA._- ~" = S sgn := by decide +kernel
theorem sgn_cs : ∀ c ∈ sgn, c < 127 := by decide
theorem ix_sgn {i : Int} (h0 : 0 ≤ i) (h1 : i < 43) : ∃ c, fIx (.str (S sgn)) (.int i) = some (.str (S [c])) ∧ c < 127 := by
  have hl : sgn.length = 43 := by decide
  obtain ⟨k, hk⟩ : ∃ k : Nat, i = (k : Int) := ⟨i.toNat, by omega⟩
  subst hk
  have hk : k < sgn.length := by omega
  refine ⟨sgn[k], ?_, sgn_cs _ (List.getElem_mem hk)⟩
  have l : (S sgn).length ≤ sizeLine := by decide
  have e : atI sgn (k : Int) = sgn[k]? := by
    have h3 : (k : Int) < (sgn.length : Int) := by omega
    simp [mAlt, Out.alt, runDef, startE, startGo, sSeq, sIf, tB1, op2, op1, mP, mPl, mC, mV, getD, PV.get, Out.bind, Out.bindS, ofO, ofB, atI, fAdd, fMul, oOr, fI, getOw, fSet, ixN, putSl, ofE, sSet, putIm, sRet, outIo, sNil, tT, tNt, mCallD, mFn, qCons, qNil, truD, qArgs, qAt, putBack, backE, qAll, getAll, mAnd, mOr, mNot, aCons, aNil, sRaise, sSetF, fGcd, fSetF, tOr2, tAn, putI, mMake, fFld, fl_top, fl_bottom, fNegI, mMethD, isIns, atI, ixN, h3]
  show (if (S sgn).length ≤ sizeLine then Option.map chr1 (atI sgn (k : Int)) else none) = _
  rw [if_pos l, e, List.getElem?_eq_getElem hk]; rfl
noncomputable def txC : ME := op2 fIx (mPl 1) (mP (mCallD (some 0) 2 [] r_f_law_scoop (qCons (mPl 0) (qCons (mP (mC (.int 36))) qNil))))
theorem tx_loop : ∀ (ds : List D) (n : Nat) (d m : D) (n5 : n + ds.length ≤ 700000), Tub n d → ∃ (cs : List Nat) (d' : D), lcGo (gNm 4) tTrue txC [4] ds [.io d, .im (.str (S sgn)), .im m, .no, .no, .no] = .ok (cs.map fun c => .str (S [c])) [.io d', .im (.str (S sgn)), .im m, .no, .no, .no] ∧ cs.length = ds.length ∧ (∀ c ∈ cs, c < 127) ∧ Tub (n + ds.length) d'
  | [], n, d, m, _, t => ⟨[], d, rfl, rfl, by simp, t⟩
  | x :: ds, n, d, m, hl, t => by
    obtain ⟨r, d1, s1, u1, v1, t1⟩ := scoop_ok (m := 36) t (by omega) (by decide) (by decide +kernel)
    obtain ⟨c, hc, hc2⟩ := ix_sgn u1 (by omega)
    rw [List.length_cons] at hl
    obtain ⟨cs, d', h1, h2, h3, h4⟩ := tx_loop ds (n + 1) d1 m (by omega) t1
    refine ⟨c :: cs, d', ?_, by simp [mAlt, Out.alt, runDef, startE, startGo, sSeq, sIf, tB1, op2, op1, mP, mPl, mC, mV, getD, PV.get, Out.bind, Out.bindS, ofO, ofB, atI, fAdd, fMul, oOr, fI, getOw, fSet, ixN, putSl, ofE, sSet, putIm, sRet, outIo, sNil, tT, tNt, mCallD, mFn, qCons, qNil, truD, qArgs, qAt, putBack, backE, qAll, getAll, mAnd, mOr, mNot, aCons, aNil, sRaise, sSetF, fGcd, fSetF, tOr2, tAn, putI, mMake, fFld, fl_top, fl_bottom, fNegI, mMethD, isIns, h2], fun k hk => ?_, h4.mono (by rw [List.length_cons]; omega)⟩
    · simp only [lcGo]
      simp [mAlt, Out.alt, runDef, startE, startGo, sSeq, sIf, tB1, op2, op1, mP, mPl, mC, mV, getD, PV.get, Out.bind, Out.bindS, ofO, ofB, atI, fAdd, fMul, oOr, fI, getOw, fSet, ixN, putSl, ofE, sSet, putIm, sRet, outIo, sNil, tT, tNt, mCallD, mFn, qCons, qNil, truD, qArgs, qAt, putBack, backE, qAll, getAll, mAnd, mOr, mNot, aCons, aNil, sRaise, sSetF, fGcd, fSetF, tOr2, tAn, putI, mMake, fFld, fl_top, fl_bottom, fNegI, mMethD, isIns, gNm, tTrue, txC, s1, hc, wipeE]
      simp [mAlt, Out.alt, runDef, startE, startGo, sSeq, sIf, tB1, op2, op1, mP, mPl, mC, mV, getD, PV.get, Out.bind, Out.bindS, ofO, ofB, atI, fAdd, fMul, oOr, fI, getOw, fSet, ixN, putSl, ofE, sSet, putIm, sRet, outIo, sNil, tT, tNt, mCallD, mFn, qCons, qNil, truD, qArgs, qAt, putBack, backE, qAll, getAll, mAnd, mOr, mNot, aCons, aNil, sRaise, sSetF, fGcd, fSetF, tOr2, tAn, putI, mMake, fFld, fl_top, fl_bottom, fNegI, mMethD, isIns, txC] at h1
      rw [h1]
    · rcases List.mem_cons.mp hk with h | h
      · omega
      · exact h3 k h
theorem strs_S (cs : List Nat) : strsD (cs.map fun c => D.str (S [c])) = some (cs.map fun c => S [c]) := by
  induction cs with
  | nil => rfl
  | cons c cs ih => simp [mAlt, Out.alt, runDef, startE, startGo, sSeq, sIf, tB1, op2, op1, mP, mPl, mC, mV, getD, PV.get, Out.bind, Out.bindS, ofO, ofB, atI, fAdd, fMul, oOr, fI, getOw, fSet, ixN, putSl, ofE, sSet, putIm, sRet, outIo, sNil, tT, tNt, mCallD, mFn, qCons, qNil, truD, qArgs, qAt, putBack, backE, qAll, getAll, mAnd, mOr, mNot, aCons, aNil, sRaise, sSetF, fGcd, fSetF, tOr2, tAn, putI, mMake, fFld, fl_top, fl_bottom, fNegI, mMethD, isIns, strsD, ih]
theorem join_nil (cs : List Nat) : Txt.join (S []) (cs.map fun c => S [c]) = S cs := by
  have e := join_S [] (cs.map fun c => [c])
  rw [List.map_map] at e
  have z : ∀ l : List Nat, TL.joinL [] (l.map fun c => [c]) = l := by
    intro l
    induction l with
    | nil => rfl
    | cons c l ih =>
      cases l with
      | nil => rfl
      | cons c2 l => 
        have : TL.joinL [] ((c :: c2 :: l).map fun c => [c]) = [c] ++ ([] ++ TL.joinL [] ((c2 :: l).map fun c => [c])) := rfl
        rw [this, ih]; rfl
  rw [z] at e
  exact e
theorem join_ok {cs : List Nat} (h : cs.length ≤ 16) : fJoin (.str (S [])) (.lst (cs.map fun c => D.str (S [c]))) = some (.str (S cs)) := by
  unfold fJoin
  simp only [strs_S, Option.bind_some]
  have l : ((cs.map fun c => S [c]).map (·.length)).sum = cs.length := by
    have : ∀ l : List Nat, ((l.map fun c => S [c]).map (·.length)).sum = l.length := by
      intro l
      induction l with
      | nil => rfl
      | cons c l ih => simp only [List.map_cons, List.sum_cons, ih, S_len, List.length_cons, List.length_nil]; omega
    exact this cs
  rw [l, S_len, join_nil]
  simp [mAlt, Out.alt, runDef, startE, startGo, sSeq, sIf, tB1, op2, op1, mP, mPl, mC, mV, getD, PV.get, Out.bind, Out.bindS, ofO, ofB, atI, fAdd, fMul, oOr, fI, getOw, fSet, ixN, putSl, ofE, sSet, putIm, sRet, outIo, sNil, tT, tNt, mCallD, mFn, qCons, qNil, truD, qArgs, qAt, putBack, backE, qAll, getAll, mAnd, mOr, mNot, aCons, aNil, sRaise, sSetF, fGcd, fSetF, tOr2, tAn, putI, mMake, fFld, fl_top, fl_bottom, fNegI, mMethD, isIns]
  omega
theorem rg1 {m : MA} {env env1 : Ml.Env} {j : Int} (h : m env = .ok [.int j] env1) (s : small62 j = true) : iRg1 m env = .ok (rangeD 0 j.toNat) env1 := by
  unfold iRg1
  rw [h]
  exact if_pos s
theorem text_ok {n : Nat} {d : D} (t : Tub n d) (hn : n ≤ 600000) : ∃ (cs : List Nat) (d' : D), r_f_law_text [d] = .ok (.str (S cs)) (some d') ∧ cs.length ≤ 16 ∧ (∀ c ∈ cs, c < 127) ∧ Tub (n + 20) d' := by
  obtain ⟨r1, d1, s1, u1, v1, t1⟩ := scoop_ok (m := 8) t (by omega) (by decide) (by decide +kernel)
  have z8 : 8 ≤ 16777216 := by decide
  have e0 : PySem.Str.ofString "" = S [] := by decide +kernel
  have sl := sgn_lit
  have sll : (Str.ofString "abcdefghijklmnopqrstuvwxyz0123456789").length + (Str.ofString "aA._- ~").length ≤ 16777216 := by decide +kernel
  have key : ∀ g : Int, 0 ≤ g → g ≤ 16 → fIx (.tup [.int 0, .int 1, .int 2, .int 5, .int 11, .int 12, .int 13, .int 16]) (.int r1) = some (.int g) → ∃ (cs : List Nat) (d' : D), r_f_law_text [d] = .ok (.str (S cs)) (some d') ∧ cs.length ≤ 16 ∧ (∀ c ∈ cs, c < 127) ∧ Tub (n + 20) d' := by
    intro g h0g hg hx
    have lr : (rangeD 0 g.toNat).length = g.toNat := rangeD_len 0 g.toNat
    obtain ⟨cs, d2, l1, l2, l3, t2⟩ := tx_loop (rangeD 0 g.toNat) (n + 1) d1 (.int g) (by omega) t1
    rw [lr] at l2 t2
    obtain ⟨r3, d3, s3, u3, v3, t3⟩ := scoop_ok (m := 3) t2 (by omega) (by decide) (by decide +kernel)
    have sm : small62 g = true := by unfold small62; simp [mAlt, Out.alt, runDef, startE, startGo, sSeq, sIf, tB1, op2, op1, mP, mPl, mC, mV, getD, PV.get, Out.bind, Out.bindS, ofO, ofB, atI, fAdd, fMul, oOr, fI, getOw, fSet, ixN, putSl, ofE, sSet, putIm, sRet, outIo, sNil, tT, tNt, mCallD, mFn, qCons, qNil, truD, qArgs, qAt, putBack, backE, qAll, getAll, mAnd, mOr, mNot, aCons, aNil, sRaise, sSetF, fGcd, fSetF, tOr2, tAn, putI, mMake, fFld, fl_top, fl_bottom, fNegI, mMethD, isIns]; omega
    have rr := rg1 (m := aCons (mV 2) aNil) (env := [.io d1, .im (.str (S sgn)), .im (.int g), .no, .no, .no]) (env1 := [.io d1, .im (.str (S sgn)), .im (.int g), .no, .no, .no]) (j := g) (by simp [mAlt, Out.alt, runDef, startE, startGo, sSeq, sIf, tB1, op2, op1, mP, mPl, mC, mV, getD, PV.get, Out.bind, Out.bindS, ofO, ofB, atI, fAdd, fMul, oOr, fI, getOw, fSet, ixN, putSl, ofE, sSet, putIm, sRet, outIo, sNil, tT, tNt, mCallD, mFn, qCons, qNil, truD, qArgs, qAt, putBack, backE, qAll, getAll, mAnd, mOr, mNot, aCons, aNil, sRaise, sSetF, fGcd, fSetF, tOr2, tAn, putI, mMake, fFld, fl_top, fl_bottom, fNegI, mMethD, isIns]) sm
    have jo := join_ok (cs := cs) (by omega)
    have lg : g.toNat ≤ 16777216 := by omega
    simp only [txC] at l1
    have cc : Cs cs := fun c hc => by have := l3 c hc; omega
    by_cases hb : r3 = 0 ∧ 0 < g
    · obtain ⟨h3, hg0⟩ := hb
      subst h3
      obtain ⟨r4, d4, s4, u4, v4, t4⟩ := scoop_ok (m := g) t3 (by omega) (by omega) (by
        have : g.natAbs.log2 < 5 := by
          rw [Nat.log2_lt (by omega)]
          omega
        omega)
      obtain ⟨r5, d5, s5, u5, v5, t5⟩ := scoop_ok (m := 7) t4 (by omega) (by decide) (by decide +kernel)
      obtain ⟨c, hc, hc2⟩ := ix_sgn (i := 36 + r5) (by omega) (by omega)
      obtain ⟨k, hk⟩ : ∃ k : Nat, r4 = (k : Int) := ⟨r4.toNat, by omega⟩
      subst hk
      have q1 := sl_to (l := cs) k (by omega)
      have q2 := sl_from (l := cs) (k + 1) (by omega)
      rw [Int.natCast_add] at q2
      have w1 : (cs.take k).length + 1 ≤ 16777216 := by rw [List.length_take]; omega
      have w2 : (cs.take k).length + 1 + (cs.drop (k + 1)).length ≤ 16777216 := by rw [List.length_take, List.length_drop]; omega
      simp only [List.length_take, List.length_drop] at w1 w2
      refine ⟨cs.take k ++ [c] ++ cs.drop (k + 1), d5, ?_, ?_, ?_, t5.mono (by omega)⟩
      · simp [mAlt, Out.alt, runDef, startE, startGo, sSeq, sIf, tB1, op2, op1, mP, mPl, mC, mV, getD, PV.get, Out.bind, Out.bindS, ofO, ofB, atI, fAdd, fMul, oOr, fI, getOw, fSet, ixN, putSl, ofE, sSet, putIm, sRet, outIo, sNil, tT, tNt, mCallD, mFn, qCons, qNil, truD, qArgs, qAt, putBack, backE, qAll, getAll, mAnd, mOr, mNot, aCons, aNil, sRaise, sSetF, fGcd, fSetF, tOr2, tAn, putI, mMake, fFld, fl_top, fl_bottom, fNegI, mMethD, isIns] at q2
        simp [mAlt, Out.alt, runDef, startE, startGo, sSeq, sIf, tB1, op2, op1, mP, mPl, mC, mV, getD, PV.get, Out.bind, Out.bindS, ofO, ofB, atI, fAdd, fMul, oOr, fI, getOw, fSet, ixN, putSl, ofE, sSet, putIm, sRet, outIo, sNil, tT, tNt, mCallD, mFn, qCons, qNil, truD, qArgs, qAt, putBack, backE, qAll, getAll, mAnd, mOr, mNot, aCons, aNil, sRaise, sSetF, fGcd, fSetF, tOr2, tAn, putI, mMake, fFld, fl_top, fl_bottom, fNegI, mMethD, isIns, r_f_law_text, m_f_law_text, N_f_law_text, sl, sll, sz, fAddS, mTup, z8, s1, hx, mLc, rr, noOwn, lr, lg, wipeE, l1, mergeE, mJoin, isStrD, e0, jo, s3, eq_int, hg0, s4, mSl, oNo, oSo, q1, q2, s5, hc, cat_S, S_len, sz, w1, w2]
      · simp [mAlt, Out.alt, runDef, startE, startGo, sSeq, sIf, tB1, op2, op1, mP, mPl, mC, mV, getD, PV.get, Out.bind, Out.bindS, ofO, ofB, atI, fAdd, fMul, oOr, fI, getOw, fSet, ixN, putSl, ofE, sSet, putIm, sRet, outIo, sNil, tT, tNt, mCallD, mFn, qCons, qNil, truD, qArgs, qAt, putBack, backE, qAll, getAll, mAnd, mOr, mNot, aCons, aNil, sRaise, sSetF, fGcd, fSetF, tOr2, tAn, putI, mMake, fFld, fl_top, fl_bottom, fNegI, mMethD, isIns]; omega
      · intro x hx
        simp only [List.mem_append, List.mem_singleton] at hx
        rcases hx with (h | h) | h
        · exact l3 x (List.mem_of_mem_take h)
        · omega
        · exact l3 x (List.mem_of_mem_drop h)
    · refine ⟨cs, d3, ?_, by omega, l3, t3.mono (by omega)⟩
      by_cases h3 : r3 = 0
      · have hg0 : ¬ 0 < g := fun h => hb ⟨h3, h⟩
        subst h3
        simp [mAlt, Out.alt, runDef, startE, startGo, sSeq, sIf, tB1, op2, op1, mP, mPl, mC, mV, getD, PV.get, Out.bind, Out.bindS, ofO, ofB, atI, fAdd, fMul, oOr, fI, getOw, fSet, ixN, putSl, ofE, sSet, putIm, sRet, outIo, sNil, tT, tNt, mCallD, mFn, qCons, qNil, truD, qArgs, qAt, putBack, backE, qAll, getAll, mAnd, mOr, mNot, aCons, aNil, sRaise, sSetF, fGcd, fSetF, tOr2, tAn, putI, mMake, fFld, fl_top, fl_bottom, fNegI, mMethD, isIns, r_f_law_text, m_f_law_text, N_f_law_text, sl, sll, sz, fAddS, mTup, z8, s1, hx, mLc, rr, noOwn, lr, lg, wipeE, l1, mergeE, mJoin, isStrD, e0, jo, s3, eq_int, hg0]
      · simp [mAlt, Out.alt, runDef, startE, startGo, sSeq, sIf, tB1, op2, op1, mP, mPl, mC, mV, getD, PV.get, Out.bind, Out.bindS, ofO, ofB, atI, fAdd, fMul, oOr, fI, getOw, fSet, ixN, putSl, ofE, sSet, putIm, sRet, outIo, sNil, tT, tNt, mCallD, mFn, qCons, qNil, truD, qArgs, qAt, putBack, backE, qAll, getAll, mAnd, mOr, mNot, aCons, aNil, sRaise, sSetF, fGcd, fSetF, tOr2, tAn, putI, mMake, fFld, fl_top, fl_bottom, fNegI, mMethD, isIns, r_f_law_text, m_f_law_text, N_f_law_text, sl, sll, sz, fAddS, mTup, z8, s1, hx, mLc, rr, noOwn, lr, lg, wipeE, l1, mergeE, mJoin, isStrD, e0, jo, s3, eq_int, h3]
  have : r1 = 0 ∨ r1 = 1 ∨ r1 = 2 ∨ r1 = 3 ∨ r1 = 4 ∨ r1 = 5 ∨ r1 = 6 ∨ r1 = 7 := by omega
  rcases this with h | h | h | h | h | h | h | h <;> subst h
  · exact key 0 (by decide) (by decide) (by rfl)
  · exact key 1 (by decide) (by decide) (by rfl)
  · exact key 2 (by decide) (by decide) (by rfl)
  · exact key 5 (by decide) (by decide) (by rfl)
  · exact key 11 (by decide) (by decide) (by rfl)
  · exact key 12 (by decide) (by decide) (by rfl)
  · exact key 13 (by decide) (by decide) (by rfl)
  · exact key 16 (by decide) (by decide) (by rfl)
end K01
set_option maxRecDepth 100000
set_option maxHeartbeats 4000000
namespace K01
open PySem PySem.Spec PyProof.Rows L2 Ml SX
/-! names -/
def sm (c : Nat) : Bool := decide (c ∈ (PySem.Str.ofString "abcdefghijklmnopqrstuvwxyz").cps.toList)
def fg (c : Nat) : Bool := decide (c ∈ (PySem.Str.ofString "0123456789").cps.toList)
theorem ni_sm (c : Nat) : fNi (.str (S [c])) (.str (PySem.Str.ofString "abcdefghijklmnopqrstuvwxyz")) = some (.bl (!sm c)) := ni_S c _
theorem ni_fg (c : Nat) : fNi (.str (S [c])) (.str (PySem.Str.ofString "0123456789")) = some (.bl (!fg c)) := ni_S c _
def nmB (l : List Nat) : Bool := decide (1 ≤ l.length) && decide (l.length ≤ 12) && sm (l.headD 0) && l.all fun c => sm c || fg c
theorem nm_loop (v : D) : ∀ (l : List Nat) (x : Sl), (∀ d, x ≠ .ow d) → (∀ d, x ≠ .io d) → (l.all (fun c => sm c || fg c) = true → ∃ y, forGo (gNm 1) (sIf ((tAn (tB1 (op2 fNi (mPl 1) (mP (mC (.str (PySem.Str.ofString "abcdefghijklmnopqrstuvwxyz")))))) (tB1 (op2 fNi (mPl 1) (mP (mC (.str (PySem.Str.ofString "0123456789")))))))) (sRet (mC (.bl false))) sNil) (l.map fun c => .str (S [c])) [.im v, x] = .nx [.im v, y])
    ∧ (l.all (fun c => sm c || fg c) = false → ∃ y, forGo (gNm 1) (sIf ((tAn (tB1 (op2 fNi (mPl 1) (mP (mC (.str (PySem.Str.ofString "abcdefghijklmnopqrstuvwxyz")))))) (tB1 (op2 fNi (mPl 1) (mP (mC (.str (PySem.Str.ofString "0123456789")))))))) (sRet (mC (.bl false))) sNil) (l.map fun c => .str (S [c])) [.im v, x] = .rt (.bl false) [.im v, y])
  | [], x, _, _ => ⟨fun _ => ⟨x, rfl⟩, fun h => by cases h⟩
  | c :: l, x, h1, h2 => by
    obtain ⟨i1, i2⟩ := nm_loop v l (.im (.str (S [c]))) (by simp [mAlt, Out.alt, runDef, startE, startGo, sSeq, sIf, tB1, op2, op1, mP, mPl, mC, mV, getD, PV.get, Out.bind, Out.bindS, ofO, ofB, atI, fAdd, fMul, oOr, fI, getOw, fSet, ixN, putSl, ofE, sSet, putIm, sRet, outIo, sNil, tT, tNt, mCallD, mFn, qCons, qNil, truD, qArgs, qAt, putBack, backE, qAll, getAll, mAnd, mOr, mNot, aCons, aNil, sRaise, sSetF, fGcd, fSetF, tOr2, tAn, putI, mMake, fFld, fl_top, fl_bottom, fNegI, mMethD, isIns]) (by simp [mAlt, Out.alt, runDef, startE, startGo, sSeq, sIf, tB1, op2, op1, mP, mPl, mC, mV, getD, PV.get, Out.bind, Out.bindS, ofO, ofB, atI, fAdd, fMul, oOr, fI, getOw, fSet, ixN, putSl, ofE, sSet, putIm, sRet, outIo, sNil, tT, tNt, mCallD, mFn, qCons, qNil, truD, qArgs, qAt, putBack, backE, qAll, getAll, mAnd, mOr, mNot, aCons, aNil, sRaise, sSetF, fGcd, fSetF, tOr2, tAn, putI, mMake, fFld, fl_top, fl_bottom, fNegI, mMethD, isIns])
    have s1 := ni_sm c
    have s2 := ni_fg c
    have px : putIm 1 (.str (S [c])) [.im v, x] = some [.im v, .im (.str (S [c]))] := by
      rcases x with _ | _ | _ | _
      · rfl
      · rfl
      · exact absurd rfl (h1 _)
      · exact absurd rfl (h2 _)
    cases e1 : sm c <;> cases e2 : fg c <;> rw [e1] at s1 <;> rw [e2] at s2 <;> simp only [List.all_cons, e1, e2, List.map_cons, forGo, gNm, px]
    · refine ⟨fun h => by simp [mAlt, Out.alt, runDef, startE, startGo, sSeq, sIf, tB1, op2, op1, mP, mPl, mC, mV, getD, PV.get, Out.bind, Out.bindS, ofO, ofB, atI, fAdd, fMul, oOr, fI, getOw, fSet, ixN, putSl, ofE, sSet, putIm, sRet, outIo, sNil, tT, tNt, mCallD, mFn, qCons, qNil, truD, qArgs, qAt, putBack, backE, qAll, getAll, mAnd, mOr, mNot, aCons, aNil, sRaise, sSetF, fGcd, fSetF, tOr2, tAn, putI, mMake, fFld, fl_top, fl_bottom, fNegI, mMethD, isIns] at h, fun _ => ⟨.im (.str (S [c])), ?_⟩⟩
      simp [mAlt, Out.alt, runDef, startE, startGo, sSeq, sIf, tB1, op2, op1, mP, mPl, mC, mV, getD, PV.get, Out.bind, Out.bindS, ofO, ofB, atI, fAdd, fMul, oOr, fI, getOw, fSet, ixN, putSl, ofE, sSet, putIm, sRet, outIo, sNil, tT, tNt, mCallD, mFn, qCons, qNil, truD, qArgs, qAt, putBack, backE, qAll, getAll, mAnd, mOr, mNot, aCons, aNil, sRaise, sSetF, fGcd, fSetF, tOr2, tAn, putI, mMake, fFld, fl_top, fl_bottom, fNegI, mMethD, isIns, s1, s2]
    · refine ⟨fun h => ?_, fun h => ?_⟩
      · obtain ⟨y, hy⟩ := i1 (by simpa using h)
        exact ⟨y, by simp [mAlt, Out.alt, runDef, startE, startGo, sSeq, sIf, tB1, op2, op1, mP, mPl, mC, mV, getD, PV.get, Out.bind, Out.bindS, ofO, ofB, atI, fAdd, fMul, oOr, fI, getOw, fSet, ixN, putSl, ofE, sSet, putIm, sRet, outIo, sNil, tT, tNt, mCallD, mFn, qCons, qNil, truD, qArgs, qAt, putBack, backE, qAll, getAll, mAnd, mOr, mNot, aCons, aNil, sRaise, sSetF, fGcd, fSetF, tOr2, tAn, putI, mMake, fFld, fl_top, fl_bottom, fNegI, mMethD, isIns, s1, s2]; exact hy⟩
      · obtain ⟨y, hy⟩ := i2 (by simpa using h)
        exact ⟨y, by simp [mAlt, Out.alt, runDef, startE, startGo, sSeq, sIf, tB1, op2, op1, mP, mPl, mC, mV, getD, PV.get, Out.bind, Out.bindS, ofO, ofB, atI, fAdd, fMul, oOr, fI, getOw, fSet, ixN, putSl, ofE, sSet, putIm, sRet, outIo, sNil, tT, tNt, mCallD, mFn, qCons, qNil, truD, qArgs, qAt, putBack, backE, qAll, getAll, mAnd, mOr, mNot, aCons, aNil, sRaise, sSetF, fGcd, fSetF, tOr2, tAn, putI, mMake, fFld, fl_top, fl_bottom, fNegI, mMethD, isIns, s1, s2]; exact hy⟩
    · refine ⟨fun h => ?_, fun h => ?_⟩
      · obtain ⟨y, hy⟩ := i1 (by simpa using h)
        exact ⟨y, by simp [mAlt, Out.alt, runDef, startE, startGo, sSeq, sIf, tB1, op2, op1, mP, mPl, mC, mV, getD, PV.get, Out.bind, Out.bindS, ofO, ofB, atI, fAdd, fMul, oOr, fI, getOw, fSet, ixN, putSl, ofE, sSet, putIm, sRet, outIo, sNil, tT, tNt, mCallD, mFn, qCons, qNil, truD, qArgs, qAt, putBack, backE, qAll, getAll, mAnd, mOr, mNot, aCons, aNil, sRaise, sSetF, fGcd, fSetF, tOr2, tAn, putI, mMake, fFld, fl_top, fl_bottom, fNegI, mMethD, isIns, s1, s2]; exact hy⟩
      · obtain ⟨y, hy⟩ := i2 (by simpa using h)
        exact ⟨y, by simp [mAlt, Out.alt, runDef, startE, startGo, sSeq, sIf, tB1, op2, op1, mP, mPl, mC, mV, getD, PV.get, Out.bind, Out.bindS, ofO, ofB, atI, fAdd, fMul, oOr, fI, getOw, fSet, ixN, putSl, ofE, sSet, putIm, sRet, outIo, sNil, tT, tNt, mCallD, mFn, qCons, qNil, truD, qArgs, qAt, putBack, backE, qAll, getAll, mAnd, mOr, mNot, aCons, aNil, sRaise, sSetF, fGcd, fSetF, tOr2, tAn, putI, mMake, fFld, fl_top, fl_bottom, fNegI, mMethD, isIns, s1, s2]; exact hy⟩
    · refine ⟨fun h => ?_, fun h => ?_⟩
      · obtain ⟨y, hy⟩ := i1 (by simpa using h)
        exact ⟨y, by simp [mAlt, Out.alt, runDef, startE, startGo, sSeq, sIf, tB1, op2, op1, mP, mPl, mC, mV, getD, PV.get, Out.bind, Out.bindS, ofO, ofB, atI, fAdd, fMul, oOr, fI, getOw, fSet, ixN, putSl, ofE, sSet, putIm, sRet, outIo, sNil, tT, tNt, mCallD, mFn, qCons, qNil, truD, qArgs, qAt, putBack, backE, qAll, getAll, mAnd, mOr, mNot, aCons, aNil, sRaise, sSetF, fGcd, fSetF, tOr2, tAn, putI, mMake, fFld, fl_top, fl_bottom, fNegI, mMethD, isIns, s1, s2]; exact hy⟩
      · obtain ⟨y, hy⟩ := i2 (by simpa using h)
        exact ⟨y, by simp [mAlt, Out.alt, runDef, startE, startGo, sSeq, sIf, tB1, op2, op1, mP, mPl, mC, mV, getD, PV.get, Out.bind, Out.bindS, ofO, ofB, atI, fAdd, fMul, oOr, fI, getOw, fSet, ixN, putSl, ofE, sSet, putIm, sRet, outIo, sNil, tT, tNt, mCallD, mFn, qCons, qNil, truD, qArgs, qAt, putBack, backE, qAll, getAll, mAnd, mOr, mNot, aCons, aNil, sRaise, sSetF, fGcd, fSetF, tOr2, tAn, putI, mMake, fFld, fl_top, fl_bottom, fNegI, mMethD, isIns, s1, s2]; exact hy⟩
theorem isn_ok {l : List Nat} (h : l.length ≤ 16) : r_f_is_name [.str (S l)] = .ok (.bl (nmB l)) none := by
  have it (s : Str) : fIsi t0 [.str s, .ty "str"] = some (.bl true) := by rfl
  have hl := len_S (l := l) (by omega)
  obtain ⟨i1, i2⟩ := nm_loop (.str (S l)) l .no (by simp [mAlt, Out.alt, runDef, startE, startGo, sSeq, sIf, tB1, op2, op1, mP, mPl, mC, mV, getD, PV.get, Out.bind, Out.bindS, ofO, ofB, atI, fAdd, fMul, oOr, fI, getOw, fSet, ixN, putSl, ofE, sSet, putIm, sRet, outIo, sNil, tT, tNt, mCallD, mFn, qCons, qNil, truD, qArgs, qAt, putBack, backE, qAll, getAll, mAnd, mOr, mNot, aCons, aNil, sRaise, sSetF, fGcd, fSetF, tOr2, tAn, putI, mMake, fFld, fl_top, fl_bottom, fNegI, mMethD, isIns]) (by simp [mAlt, Out.alt, runDef, startE, startGo, sSeq, sIf, tB1, op2, op1, mP, mPl, mC, mV, getD, PV.get, Out.bind, Out.bindS, ofO, ofB, atI, fAdd, fMul, oOr, fI, getOw, fSet, ixN, putSl, ofE, sSet, putIm, sRet, outIo, sNil, tT, tNt, mCallD, mFn, qCons, qNil, truD, qArgs, qAt, putBack, backE, qAll, getAll, mAnd, mOr, mNot, aCons, aNil, sRaise, sSetF, fGcd, fSetF, tOr2, tAn, putI, mMake, fFld, fl_top, fl_bottom, fNegI, mMethD, isIns])
  by_cases h0 : 1 ≤ l.length
  · by_cases h12 : l.length ≤ 12
    · have h12i : ((l.length : Nat) : Int) ≤ 12 := by omega
      have h0i : (1 : Int) ≤ ((l.length : Nat) : Int) := by omega
      obtain ⟨c, r, rfl⟩ : ∃ c r, l = c :: r := by
        cases l with
        | nil => simp [mAlt, Out.alt, runDef, startE, startGo, sSeq, sIf, tB1, op2, op1, mP, mPl, mC, mV, getD, PV.get, Out.bind, Out.bindS, ofO, ofB, atI, fAdd, fMul, oOr, fI, getOw, fSet, ixN, putSl, ofE, sSet, putIm, sRet, outIo, sNil, tT, tNt, mCallD, mFn, qCons, qNil, truD, qArgs, qAt, putBack, backE, qAll, getAll, mAnd, mOr, mNot, aCons, aNil, sRaise, sSetF, fGcd, fSetF, tOr2, tAn, putI, mMake, fFld, fl_top, fl_bottom, fNegI, mMethD, isIns] at h0
        | cons c r => exact ⟨c, r, rfl⟩
      have x0 := ix_0 (c := c) (r := r) (by omega)
      have s1 := ni_sm c
      have e : nmB (c :: r) = (sm c && (c :: r).all fun c => sm c || fg c) := by
        unfold nmB; rw [decide_eq_true h0, decide_eq_true h12]; rfl
      rw [e]
      generalize hL : c :: r = L at *
      generalize hn : ((L.length : Nat) : Int) = ln at *
      cases e1 : sm c
      · rw [e1] at s1
        simp [mAlt, Out.alt, runDef, startE, startGo, sSeq, sIf, tB1, op2, op1, mP, mPl, mC, mV, getD, PV.get, Out.bind, Out.bindS, ofO, ofB, atI, fAdd, fMul, oOr, fI, getOw, fSet, ixN, putSl, ofE, sSet, putIm, sRet, outIo, sNil, tT, tNt, mCallD, mFn, qCons, qNil, truD, qArgs, qAt, putBack, backE, qAll, getAll, mAnd, mOr, mNot, aCons, aNil, sRaise, sSetF, fGcd, fSetF, tOr2, tAn, putI, mMake, fFld, fl_top, fl_bottom, fNegI, mMethD, isIns, r_f_is_name, m_f_is_name, N_f_is_name, it, mChain, hl, h0i, h12i, x0, s1]
      · rw [e1] at s1
        cases e2 : L.all fun c => sm c || fg c
        · obtain ⟨y, hy⟩ := i2 e2
          simp [mAlt, Out.alt, runDef, startE, startGo, sSeq, sIf, tB1, op2, op1, mP, mPl, mC, mV, getD, PV.get, Out.bind, Out.bindS, ofO, ofB, atI, fAdd, fMul, oOr, fI, getOw, fSet, ixN, putSl, ofE, sSet, putIm, sRet, outIo, sNil, tT, tNt, mCallD, mFn, qCons, qNil, truD, qArgs, qAt, putBack, backE, qAll, getAll, mAnd, mOr, mNot, aCons, aNil, sRaise, sSetF, fGcd, fSetF, tOr2, tAn, putI, mMake, fFld, fl_top, fl_bottom, fNegI, mMethD, isIns, r_f_is_name, m_f_is_name, N_f_is_name, it, mChain, hl, h0i, h12i, x0, s1, sFor, Ml.iStr, signs_S]
          rw [hy]
        · obtain ⟨y, hy⟩ := i1 e2
          simp [mAlt, Out.alt, runDef, startE, startGo, sSeq, sIf, tB1, op2, op1, mP, mPl, mC, mV, getD, PV.get, Out.bind, Out.bindS, ofO, ofB, atI, fAdd, fMul, oOr, fI, getOw, fSet, ixN, putSl, ofE, sSet, putIm, sRet, outIo, sNil, tT, tNt, mCallD, mFn, qCons, qNil, truD, qArgs, qAt, putBack, backE, qAll, getAll, mAnd, mOr, mNot, aCons, aNil, sRaise, sSetF, fGcd, fSetF, tOr2, tAn, putI, mMake, fFld, fl_top, fl_bottom, fNegI, mMethD, isIns, r_f_is_name, m_f_is_name, N_f_is_name, it, mChain, hl, h0i, h12i, x0, s1, sFor, Ml.iStr, signs_S]
          rw [hy]
    · have e : nmB l = false := by unfold nmB; rw [decide_eq_false h12]; simp [mAlt, Out.alt, runDef, startE, startGo, sSeq, sIf, tB1, op2, op1, mP, mPl, mC, mV, getD, PV.get, Out.bind, Out.bindS, ofO, ofB, atI, fAdd, fMul, oOr, fI, getOw, fSet, ixN, putSl, ofE, sSet, putIm, sRet, outIo, sNil, tT, tNt, mCallD, mFn, qCons, qNil, truD, qArgs, qAt, putBack, backE, qAll, getAll, mAnd, mOr, mNot, aCons, aNil, sRaise, sSetF, fGcd, fSetF, tOr2, tAn, putI, mMake, fFld, fl_top, fl_bottom, fNegI, mMethD, isIns]
      have h12i : ¬ ((l.length : Nat) : Int) ≤ 12 := by omega
      have h0i : (1 : Int) ≤ ((l.length : Nat) : Int) := by omega
      generalize hn : ((l.length : Nat) : Int) = ln at *
      simp [mAlt, Out.alt, runDef, startE, startGo, sSeq, sIf, tB1, op2, op1, mP, mPl, mC, mV, getD, PV.get, Out.bind, Out.bindS, ofO, ofB, atI, fAdd, fMul, oOr, fI, getOw, fSet, ixN, putSl, ofE, sSet, putIm, sRet, outIo, sNil, tT, tNt, mCallD, mFn, qCons, qNil, truD, qArgs, qAt, putBack, backE, qAll, getAll, mAnd, mOr, mNot, aCons, aNil, sRaise, sSetF, fGcd, fSetF, tOr2, tAn, putI, mMake, fFld, fl_top, fl_bottom, fNegI, mMethD, isIns, r_f_is_name, m_f_is_name, N_f_is_name, it, mChain, hl, h0i, h12i, e]
  · have e : nmB l = false := by unfold nmB; rw [decide_eq_false h0]; simp [mAlt, Out.alt, runDef, startE, startGo, sSeq, sIf, tB1, op2, op1, mP, mPl, mC, mV, getD, PV.get, Out.bind, Out.bindS, ofO, ofB, atI, fAdd, fMul, oOr, fI, getOw, fSet, ixN, putSl, ofE, sSet, putIm, sRet, outIo, sNil, tT, tNt, mCallD, mFn, qCons, qNil, truD, qArgs, qAt, putBack, backE, qAll, getAll, mAnd, mOr, mNot, aCons, aNil, sRaise, sSetF, fGcd, fSetF, tOr2, tAn, putI, mMake, fFld, fl_top, fl_bottom, fNegI, mMethD, isIns]
    have h0i : ¬ (1 : Int) ≤ ((l.length : Nat) : Int) := by omega
    generalize hn : ((l.length : Nat) : Int) = ln at *
    simp [mAlt, Out.alt, runDef, startE, startGo, sSeq, sIf, tB1, op2, op1, mP, mPl, mC, mV, getD, PV.get, Out.bind, Out.bindS, ofO, ofB, atI, fAdd, fMul, oOr, fI, getOw, fSet, ixN, putSl, ofE, sSet, putIm, sRet, outIo, sNil, tT, tNt, mCallD, mFn, qCons, qNil, truD, qArgs, qAt, putBack, backE, qAll, getAll, mAnd, mOr, mNot, aCons, aNil, sRaise, sSetF, fGcd, fSetF, tOr2, tAn, putI, mMake, fFld, fl_top, fl_bottom, fNegI, mMethD, isIns, r_f_is_name, m_f_is_name, N_f_is_name, it, mChain, hl, h0i, e]
/-- the signs that no name has -/
def od (l : List Nat) : List Nat := l.filter fun c => !sm c && !fg c
theorem ln_loop (v a b : D) (ha : a = .str (PySem.Str.ofString "abcdefghijklmnopqrstuvwxyz")) (hb : b = .str (PySem.Str.ofString "0123456789")) : ∀ (l : List Nat), ∃ y, lcGo (gNm 3) ((tAn (tB1 (op2 fNi (mPl 3) (mPl 1))) (tB1 (op2 fNi (mPl 3) (mPl 2))))) (mV 3) [3] (l.map fun c => .str (S [c])) [.im v, .im a, .im b, .no] = .ok ((od l).map fun c => .str (S [c])) [.im v, .im a, .im b, y]
  | [] => ⟨.no, rfl⟩
  | c :: l => by
    obtain ⟨y, hy⟩ := ln_loop v a b ha hb l
    subst ha hb
    have s1 := ni_sm c
    have s2 := ni_fg c
    refine ⟨y, ?_⟩
    cases e1 : sm c <;> cases e2 : fg c <;> rw [e1] at s1 <;> rw [e2] at s2
    · have : od (c :: l) = c :: od l := by simp [mAlt, Out.alt, runDef, startE, startGo, sSeq, sIf, tB1, op2, op1, mP, mPl, mC, mV, getD, PV.get, Out.bind, Out.bindS, ofO, ofB, atI, fAdd, fMul, oOr, fI, getOw, fSet, ixN, putSl, ofE, sSet, putIm, sRet, outIo, sNil, tT, tNt, mCallD, mFn, qCons, qNil, truD, qArgs, qAt, putBack, backE, qAll, getAll, mAnd, mOr, mNot, aCons, aNil, sRaise, sSetF, fGcd, fSetF, tOr2, tAn, putI, mMake, fFld, fl_top, fl_bottom, fNegI, mMethD, isIns, od, e1, e2]
      rw [this]
      simp only [List.map_cons, lcGo, gNm]
      simp [mAlt, Out.alt, runDef, startE, startGo, sSeq, sIf, tB1, op2, op1, mP, mPl, mC, mV, getD, PV.get, Out.bind, Out.bindS, ofO, ofB, atI, fAdd, fMul, oOr, fI, getOw, fSet, ixN, putSl, ofE, sSet, putIm, sRet, outIo, sNil, tT, tNt, mCallD, mFn, qCons, qNil, truD, qArgs, qAt, putBack, backE, qAll, getAll, mAnd, mOr, mNot, aCons, aNil, sRaise, sSetF, fGcd, fSetF, tOr2, tAn, putI, mMake, fFld, fl_top, fl_bottom, fNegI, mMethD, isIns, s1, s2, wipeE]
      rw [hy]
    all_goals
      have : od (c :: l) = od l := by simp [mAlt, Out.alt, runDef, startE, startGo, sSeq, sIf, tB1, op2, op1, mP, mPl, mC, mV, getD, PV.get, Out.bind, Out.bindS, ofO, ofB, atI, fAdd, fMul, oOr, fI, getOw, fSet, ixN, putSl, ofE, sSet, putIm, sRet, outIo, sNil, tT, tNt, mCallD, mFn, qCons, qNil, truD, qArgs, qAt, putBack, backE, qAll, getAll, mAnd, mOr, mNot, aCons, aNil, sRaise, sSetF, fGcd, fSetF, tOr2, tAn, putI, mMake, fFld, fl_top, fl_bottom, fNegI, mMethD, isIns, od, e1, e2]
      rw [this]
      simp only [List.map_cons, lcGo, gNm]
      simp [mAlt, Out.alt, runDef, startE, startGo, sSeq, sIf, tB1, op2, op1, mP, mPl, mC, mV, getD, PV.get, Out.bind, Out.bindS, ofO, ofB, atI, fAdd, fMul, oOr, fI, getOw, fSet, ixN, putSl, ofE, sSet, putIm, sRet, outIo, sNil, tT, tNt, mCallD, mFn, qCons, qNil, truD, qArgs, qAt, putBack, backE, qAll, getAll, mAnd, mOr, mNot, aCons, aNil, sRaise, sSetF, fGcd, fSetF, tOr2, tAn, putI, mMake, fFld, fl_top, fl_bottom, fNegI, mMethD, isIns, s1, s2, wipeE]
      rw [hy]
theorem toPs_S (l : List Nat) : toPs (l.map fun c => D.str (S [c])) = some (l.map fun c => PyData.str (S [c])) := by
  induction l with
  | nil => rfl
  | cons c l ih => simp [mAlt, Out.alt, runDef, startE, startGo, sSeq, sIf, tB1, op2, op1, mP, mPl, mC, mV, getD, PV.get, Out.bind, Out.bindS, ofO, ofB, atI, fAdd, fMul, oOr, fI, getOw, fSet, ixN, putSl, ofE, sSet, putIm, sRet, outIo, sNil, tT, tNt, mCallD, mFn, qCons, qNil, truD, qArgs, qAt, putBack, backE, qAll, getAll, mAnd, mOr, mNot, aCons, aNil, sRaise, sSetF, fGcd, fSetF, tOr2, tAn, putI, mMake, fFld, fl_top, fl_bottom, fNegI, mMethD, isIns, toPs, toP, ih]
theorem canLay_S {l : List Nat} (h : Cs l) : PyData.canLayAll0 (l.map fun c => PyData.str (S [c])) = true := by
  induction l with
  | nil => rfl
  | cons c l ih =>
    have h1 := ih fun x hx => h x (List.mem_cons_of_mem _ hx)
    have h2 := shaped_S (a := [c]) (fun x hx => by rw [List.mem_singleton.mp hx]; exact h c (List.mem_cons_self ..))
    unfold SeqAt.shaped at h2
    rw [Bool.and_eq_true] at h2
    simp only [List.map_cons, PyData.canLayAll0, h1, h2.1]; rfl
theorem depth_S (l : List Nat) : PyData.depthAll (l.map fun c => PyData.str (S [c])) ≤ 2 := by
  induction l with
  | nil => decide
  | cons c l ih =>
    simp only [List.map_cons, PyData.depthAll, PyData.depth]
    omega
theorem eq_nil {l : List Nat} (h : Cs l) : fEq (.lst (l.map fun c => D.str (S [c]))) (.lst []) = some (.bl l.isEmpty) := by
  have s1 : SeqAt.shaped (PyData.list (l.map fun c => PyData.str (S [c]))) = true := by
    unfold SeqAt.shaped
    have dp : PyData.depth (PyData.list (l.map fun c => PyData.str (S [c]))) ≤ 64 := by
      have := depth_S l
      simp only [PyData.depth]; omega
    have cl : PyData.canLay0 (PyData.list (l.map fun c => PyData.str (S [c]))) = true := by
      simp only [PyData.canLay0, canLay_S h]
    rw [cl, decide_eq_true dp]; rfl
  have s2 : SeqAt.shaped (PyData.list []) = true := by decide
  have e2 : PyData.eqv (.list (l.map fun c => PyData.str (S [c]))) (.list []) = l.isEmpty := by
    cases l <;> simp [mAlt, Out.alt, runDef, startE, startGo, sSeq, sIf, tB1, op2, op1, mP, mPl, mC, mV, getD, PV.get, Out.bind, Out.bindS, ofO, ofB, atI, fAdd, fMul, oOr, fI, getOw, fSet, ixN, putSl, ofE, sSet, putIm, sRet, outIo, sNil, tT, tNt, mCallD, mFn, qCons, qNil, truD, qArgs, qAt, putBack, backE, qAll, getAll, mAnd, mOr, mNot, aCons, aNil, sRaise, sSetF, fGcd, fSetF, tOr2, tAn, putI, mMake, fFld, fl_top, fl_bottom, fNegI, mMethD, isIns, PyData.eqv, PyData.eqvAll]
  have t1 : toP (.lst (l.map fun c => D.str (S [c]))) = some (.list (l.map fun c => PyData.str (S [c]))) := by
    unfold toP; rw [toPs_S]; rfl
  have t2 : toP (.lst []) = some (.list []) := rfl
  simp [mAlt, Out.alt, runDef, startE, startGo, sSeq, sIf, tB1, op2, op1, mP, mPl, mC, mV, getD, PV.get, Out.bind, Out.bindS, ofO, ofB, atI, fAdd, fMul, oOr, fI, getOw, fSet, ixN, putSl, ofE, sSet, putIm, sRet, outIo, sNil, tT, tNt, mCallD, mFn, qCons, qNil, truD, qArgs, qAt, putBack, backE, qAll, getAll, mAnd, mOr, mNot, aCons, aNil, sRaise, sSetF, fGcd, fSetF, tOr2, tAn, putI, mMake, fFld, fl_top, fl_bottom, fNegI, mMethD, isIns, fEq, eqP, t1, t2, s1, s2, e2]
theorem nm_od (l : List Nat) : (l.all fun c => sm c || fg c) = (od l).isEmpty := by
  induction l with
  | nil => rfl
  | cons c l ih => cases e1 : sm c <;> cases e2 : fg c <;> simp [mAlt, Out.alt, runDef, startE, startGo, sSeq, sIf, tB1, op2, op1, mP, mPl, mC, mV, getD, PV.get, Out.bind, Out.bindS, ofO, ofB, atI, fAdd, fMul, oOr, fI, getOw, fSet, ixN, putSl, ofE, sSet, putIm, sRet, outIo, sNil, tT, tNt, mCallD, mFn, qCons, qNil, truD, qArgs, qAt, putBack, backE, qAll, getAll, mAnd, mOr, mNot, aCons, aNil, sRaise, sSetF, fGcd, fSetF, tOr2, tAn, putI, mMake, fFld, fl_top, fl_bottom, fNegI, mMethD, isIns, od, e1, e2] at ih ⊢ <;> exact ih
theorem lawname_ok {l : List Nat} (h : l.length ≤ 16) (hc : Cs l) : r_f_law_is_name [.str (S l)] = .ok (.bl (nmB l)) none := by
  have hl := len_S (l := l) (by omega)
  have z2 : 2 ≤ sizeLine := by decide
  have z0 : 0 ≤ sizeLine := by decide
  have zl : (l.map fun c => D.str (S [c])).length ≤ sizeLine := by rw [sz, List.length_map]; omega
  have co : Cs (od l) := fun c hx => hc c (List.mem_filter.mp hx).1
  obtain ⟨y, lp⟩ := ln_loop (.str (S l)) _ _ rfl rfl l
  have eo := eq_nil co
  rw [← nm_od l] at eo
  by_cases h0 : 1 ≤ l.length
  · by_cases h12 : l.length ≤ 12
    · have h12i : ¬ (12 : Int) < ((l.length : Nat) : Int) := by omega
      have h0i : ¬ ((l.length : Nat) : Int) < 1 := by omega
      obtain ⟨c, r, rfl⟩ : ∃ c r, l = c :: r := by
        cases l with
        | nil => simp [mAlt, Out.alt, runDef, startE, startGo, sSeq, sIf, tB1, op2, op1, mP, mPl, mC, mV, getD, PV.get, Out.bind, Out.bindS, ofO, ofB, atI, fAdd, fMul, oOr, fI, getOw, fSet, ixN, putSl, ofE, sSet, putIm, sRet, outIo, sNil, tT, tNt, mCallD, mFn, qCons, qNil, truD, qArgs, qAt, putBack, backE, qAll, getAll, mAnd, mOr, mNot, aCons, aNil, sRaise, sSetF, fGcd, fSetF, tOr2, tAn, putI, mMake, fFld, fl_top, fl_bottom, fNegI, mMethD, isIns] at h0
        | cons c r => exact ⟨c, r, rfl⟩
      have x0 := ix_0 (c := c) (r := r) (by omega)
      have s1 := ni_sm c
      have e : nmB (c :: r) = (sm c && (c :: r).all fun c => sm c || fg c) := by
        unfold nmB; rw [decide_eq_true h0, decide_eq_true h12]; rfl
      rw [e]
      generalize hL : c :: r = L at *
      generalize hn : ((L.length : Nat) : Int) = ln at *
      cases e1 : sm c
      · rw [e1] at s1
        simp [mAlt, Out.alt, runDef, startE, startGo, sSeq, sIf, tB1, op2, op1, mP, mPl, mC, mV, getD, PV.get, Out.bind, Out.bindS, ofO, ofB, atI, fAdd, fMul, oOr, fI, getOw, fSet, ixN, putSl, ofE, sSet, putIm, sRet, outIo, sNil, tT, tNt, mCallD, mFn, qCons, qNil, truD, qArgs, qAt, putBack, backE, qAll, getAll, mAnd, mOr, mNot, aCons, aNil, sRaise, sSetF, fGcd, fSetF, tOr2, tAn, putI, mMake, fFld, fl_top, fl_bottom, fNegI, mMethD, isIns, r_f_law_is_name, m_f_law_is_name, N_f_law_is_name, sAsg, mTup, z2, gTp, gsCons, gsNil, gNm, hl, h0i, h12i, x0, s1]
      · rw [e1] at s1
        have zl' : L.length ≤ sizeLine := by rw [sz]; omega
        simp [mAlt, Out.alt, runDef, startE, startGo, sSeq, sIf, tB1, op2, op1, mP, mPl, mC, mV, getD, PV.get, Out.bind, Out.bindS, ofO, ofB, atI, fAdd, fMul, oOr, fI, getOw, fSet, ixN, putSl, ofE, sSet, putIm, sRet, outIo, sNil, tT, tNt, mCallD, mFn, qCons, qNil, truD, qArgs, qAt, putBack, backE, qAll, getAll, mAnd, mOr, mNot, aCons, aNil, sRaise, sSetF, fGcd, fSetF, tOr2, tAn, putI, mMake, fFld, fl_top, fl_bottom, fNegI, mMethD, isIns, r_f_law_is_name, m_f_law_is_name, N_f_law_is_name, sAsg, mTup, z2, gTp, gsCons, gsNil, hl, h0i, h12i, x0, s1, mLc, Ml.iStr, signs_S, noOwn, zl', wipeE, gNm, mLst]
        rw [lp]
        simp [mAlt, Out.alt, runDef, startE, startGo, sSeq, sIf, tB1, op2, op1, mP, mPl, mC, mV, getD, PV.get, Out.bind, Out.bindS, ofO, ofB, atI, fAdd, fMul, oOr, fI, getOw, fSet, ixN, putSl, ofE, sSet, putIm, sRet, outIo, sNil, tT, tNt, mCallD, mFn, qCons, qNil, truD, qArgs, qAt, putBack, backE, qAll, getAll, mAnd, mOr, mNot, aCons, aNil, sRaise, sSetF, fGcd, fSetF, tOr2, tAn, putI, mMake, fFld, fl_top, fl_bottom, fNegI, mMethD, isIns, mergeE, eo]
    · have e : nmB l = false := by unfold nmB; rw [decide_eq_false h12]; simp [mAlt, Out.alt, runDef, startE, startGo, sSeq, sIf, tB1, op2, op1, mP, mPl, mC, mV, getD, PV.get, Out.bind, Out.bindS, ofO, ofB, atI, fAdd, fMul, oOr, fI, getOw, fSet, ixN, putSl, ofE, sSet, putIm, sRet, outIo, sNil, tT, tNt, mCallD, mFn, qCons, qNil, truD, qArgs, qAt, putBack, backE, qAll, getAll, mAnd, mOr, mNot, aCons, aNil, sRaise, sSetF, fGcd, fSetF, tOr2, tAn, putI, mMake, fFld, fl_top, fl_bottom, fNegI, mMethD, isIns]
      have h12i : (12 : Int) < ((l.length : Nat) : Int) := by omega
      have h0i : ¬ ((l.length : Nat) : Int) < 1 := by omega
      generalize hn : ((l.length : Nat) : Int) = ln at *
      simp [mAlt, Out.alt, runDef, startE, startGo, sSeq, sIf, tB1, op2, op1, mP, mPl, mC, mV, getD, PV.get, Out.bind, Out.bindS, ofO, ofB, atI, fAdd, fMul, oOr, fI, getOw, fSet, ixN, putSl, ofE, sSet, putIm, sRet, outIo, sNil, tT, tNt, mCallD, mFn, qCons, qNil, truD, qArgs, qAt, putBack, backE, qAll, getAll, mAnd, mOr, mNot, aCons, aNil, sRaise, sSetF, fGcd, fSetF, tOr2, tAn, putI, mMake, fFld, fl_top, fl_bottom, fNegI, mMethD, isIns, r_f_law_is_name, m_f_law_is_name, N_f_law_is_name, sAsg, mTup, z2, gTp, gsCons, gsNil, gNm, hl, h0i, h12i, e]
  · have e : nmB l = false := by unfold nmB; rw [decide_eq_false h0]; simp [mAlt, Out.alt, runDef, startE, startGo, sSeq, sIf, tB1, op2, op1, mP, mPl, mC, mV, getD, PV.get, Out.bind, Out.bindS, ofO, ofB, atI, fAdd, fMul, oOr, fI, getOw, fSet, ixN, putSl, ofE, sSet, putIm, sRet, outIo, sNil, tT, tNt, mCallD, mFn, qCons, qNil, truD, qArgs, qAt, putBack, backE, qAll, getAll, mAnd, mOr, mNot, aCons, aNil, sRaise, sSetF, fGcd, fSetF, tOr2, tAn, putI, mMake, fFld, fl_top, fl_bottom, fNegI, mMethD, isIns]
    have h0i : ((l.length : Nat) : Int) < 1 := by omega
    generalize hn : ((l.length : Nat) : Int) = ln at *
    simp [mAlt, Out.alt, runDef, startE, startGo, sSeq, sIf, tB1, op2, op1, mP, mPl, mC, mV, getD, PV.get, Out.bind, Out.bindS, ofO, ofB, atI, fAdd, fMul, oOr, fI, getOw, fSet, ixN, putSl, ofE, sSet, putIm, sRet, outIo, sNil, tT, tNt, mCallD, mFn, qCons, qNil, truD, qArgs, qAt, putBack, backE, qAll, getAll, mAnd, mOr, mNot, aCons, aNil, sRaise, sSetF, fGcd, fSetF, tOr2, tAn, putI, mMake, fFld, fl_top, fl_bottom, fNegI, mMethD, isIns, r_f_law_is_name, m_f_law_is_name, N_f_law_is_name, sAsg, mTup, z2, gTp, gsCons, gsNil, gNm, hl, h0i, e]
/-! bounds -/
theorem isw_no {v : D} (h : r_f_is_integer [v] = .ok (.bl false) none) (a b : D) : r_f_is_within [v, a, b] = .ok (.bl false) none := by
  simp [mAlt, Out.alt, runDef, startE, startGo, sSeq, sIf, tB1, op2, op1, mP, mPl, mC, mV, getD, PV.get, Out.bind, Out.bindS, ofO, ofB, atI, fAdd, fMul, oOr, fI, getOw, fSet, ixN, putSl, ofE, sSet, putIm, sRet, outIo, sNil, tT, tNt, mCallD, mFn, qCons, qNil, truD, qArgs, qAt, putBack, backE, qAll, getAll, mAnd, mOr, mNot, aCons, aNil, sRaise, sSetF, fGcd, fSetF, tOr2, tAn, putI, mMake, fFld, fl_top, fl_bottom, fNegI, mMethD, isIns, r_f_is_within, m_f_is_within, N_f_is_within, h]
theorem isw_nn (n : Int) : r_f_is_within [.int n, .non, .non] = .ok (.bl true) none := by
  simp [mAlt, Out.alt, runDef, startE, startGo, sSeq, sIf, tB1, op2, op1, mP, mPl, mC, mV, getD, PV.get, Out.bind, Out.bindS, ofO, ofB, atI, fAdd, fMul, oOr, fI, getOw, fSet, ixN, putSl, ofE, sSet, putIm, sRet, outIo, sNil, tT, tNt, mCallD, mFn, qCons, qNil, truD, qArgs, qAt, putBack, backE, qAll, getAll, mAnd, mOr, mNot, aCons, aNil, sRaise, sSetF, fGcd, fSetF, tOr2, tAn, putI, mMake, fFld, fl_top, fl_bottom, fNegI, mMethD, isIns, r_f_is_within, m_f_is_within, N_f_is_within, isint_int, fNotN, fIsN, Ml.isNon]
theorem isw_ln (n a : Int) : r_f_is_within [.int n, .int a, .non] = .ok (.bl (decide (a ≤ n))) none := by
  by_cases h : n < a
  · have : ¬ a ≤ n := by omega
    simp [mAlt, Out.alt, runDef, startE, startGo, sSeq, sIf, tB1, op2, op1, mP, mPl, mC, mV, getD, PV.get, Out.bind, Out.bindS, ofO, ofB, atI, fAdd, fMul, oOr, fI, getOw, fSet, ixN, putSl, ofE, sSet, putIm, sRet, outIo, sNil, tT, tNt, mCallD, mFn, qCons, qNil, truD, qArgs, qAt, putBack, backE, qAll, getAll, mAnd, mOr, mNot, aCons, aNil, sRaise, sSetF, fGcd, fSetF, tOr2, tAn, putI, mMake, fFld, fl_top, fl_bottom, fNegI, mMethD, isIns, r_f_is_within, m_f_is_within, N_f_is_within, isint_int, fNotN, fIsN, Ml.isNon, h, this]
  · have : a ≤ n := by omega
    simp [mAlt, Out.alt, runDef, startE, startGo, sSeq, sIf, tB1, op2, op1, mP, mPl, mC, mV, getD, PV.get, Out.bind, Out.bindS, ofO, ofB, atI, fAdd, fMul, oOr, fI, getOw, fSet, ixN, putSl, ofE, sSet, putIm, sRet, outIo, sNil, tT, tNt, mCallD, mFn, qCons, qNil, truD, qArgs, qAt, putBack, backE, qAll, getAll, mAnd, mOr, mNot, aCons, aNil, sRaise, sSetF, fGcd, fSetF, tOr2, tAn, putI, mMake, fFld, fl_top, fl_bottom, fNegI, mMethD, isIns, r_f_is_within, m_f_is_within, N_f_is_within, isint_int, fNotN, fIsN, Ml.isNon, h, this]
theorem isw_nm (n b : Int) : r_f_is_within [.int n, .non, .int b] = .ok (.bl (decide (n ≤ b))) none := by
  by_cases h : n ≤ b
  · simp [mAlt, Out.alt, runDef, startE, startGo, sSeq, sIf, tB1, op2, op1, mP, mPl, mC, mV, getD, PV.get, Out.bind, Out.bindS, ofO, ofB, atI, fAdd, fMul, oOr, fI, getOw, fSet, ixN, putSl, ofE, sSet, putIm, sRet, outIo, sNil, tT, tNt, mCallD, mFn, qCons, qNil, truD, qArgs, qAt, putBack, backE, qAll, getAll, mAnd, mOr, mNot, aCons, aNil, sRaise, sSetF, fGcd, fSetF, tOr2, tAn, putI, mMake, fFld, fl_top, fl_bottom, fNegI, mMethD, isIns, r_f_is_within, m_f_is_within, N_f_is_within, isint_int, fNotN, fIsN, Ml.isNon, h]
  · simp [mAlt, Out.alt, runDef, startE, startGo, sSeq, sIf, tB1, op2, op1, mP, mPl, mC, mV, getD, PV.get, Out.bind, Out.bindS, ofO, ofB, atI, fAdd, fMul, oOr, fI, getOw, fSet, ixN, putSl, ofE, sSet, putIm, sRet, outIo, sNil, tT, tNt, mCallD, mFn, qCons, qNil, truD, qArgs, qAt, putBack, backE, qAll, getAll, mAnd, mOr, mNot, aCons, aNil, sRaise, sSetF, fGcd, fSetF, tOr2, tAn, putI, mMake, fFld, fl_top, fl_bottom, fNegI, mMethD, isIns, r_f_is_within, m_f_is_within, N_f_is_within, isint_int, fNotN, fIsN, Ml.isNon, h]
theorem isw_lm (n a b : Int) : r_f_is_within [.int n, .int a, .int b] = .ok (.bl (decide (a ≤ n) && decide (n ≤ b))) none := by
  by_cases h : n < a
  · have : ¬ a ≤ n := by omega
    simp [mAlt, Out.alt, runDef, startE, startGo, sSeq, sIf, tB1, op2, op1, mP, mPl, mC, mV, getD, PV.get, Out.bind, Out.bindS, ofO, ofB, atI, fAdd, fMul, oOr, fI, getOw, fSet, ixN, putSl, ofE, sSet, putIm, sRet, outIo, sNil, tT, tNt, mCallD, mFn, qCons, qNil, truD, qArgs, qAt, putBack, backE, qAll, getAll, mAnd, mOr, mNot, aCons, aNil, sRaise, sSetF, fGcd, fSetF, tOr2, tAn, putI, mMake, fFld, fl_top, fl_bottom, fNegI, mMethD, isIns, r_f_is_within, m_f_is_within, N_f_is_within, isint_int, fNotN, fIsN, Ml.isNon, h, this]
  · have h' : a ≤ n := by omega
    by_cases h2 : n ≤ b
    · simp [mAlt, Out.alt, runDef, startE, startGo, sSeq, sIf, tB1, op2, op1, mP, mPl, mC, mV, getD, PV.get, Out.bind, Out.bindS, ofO, ofB, atI, fAdd, fMul, oOr, fI, getOw, fSet, ixN, putSl, ofE, sSet, putIm, sRet, outIo, sNil, tT, tNt, mCallD, mFn, qCons, qNil, truD, qArgs, qAt, putBack, backE, qAll, getAll, mAnd, mOr, mNot, aCons, aNil, sRaise, sSetF, fGcd, fSetF, tOr2, tAn, putI, mMake, fFld, fl_top, fl_bottom, fNegI, mMethD, isIns, r_f_is_within, m_f_is_within, N_f_is_within, isint_int, fNotN, fIsN, Ml.isNon, h, h', h2]
    · simp [mAlt, Out.alt, runDef, startE, startGo, sSeq, sIf, tB1, op2, op1, mP, mPl, mC, mV, getD, PV.get, Out.bind, Out.bindS, ofO, ofB, atI, fAdd, fMul, oOr, fI, getOw, fSet, ixN, putSl, ofE, sSet, putIm, sRet, outIo, sNil, tT, tNt, mCallD, mFn, qCons, qNil, truD, qArgs, qAt, putBack, backE, qAll, getAll, mAnd, mOr, mNot, aCons, aNil, sRaise, sSetF, fGcd, fSetF, tOr2, tAn, putI, mMake, fFld, fl_top, fl_bottom, fNegI, mMethD, isIns, r_f_is_within, m_f_is_within, N_f_is_within, isint_int, fNotN, fIsN, Ml.isNon, h, h', h2]
noncomputable def ckB : MS := (sIf ((tOr2 (tT (mP (mCallD none 1 [] r_f_is_integer (qCons (mPl 4) qNil)))) (tOr2 (tT (mP (mCallD none 3 [] r_f_is_within (qCons (mPl 4) (qCons (mP (mC .non)) (qCons (mP (mC .non)) qNil)))))) (tT (mP (mCallD none 3 [] r_f_is_within (qCons (mPl 4) (qCons (mP (op2 fSubI (mP (mC (.int 0))) (mP (op2 fPowI (mP (mC (.int 10))) (mP (mC (.int 62))))))) (qCons (mP (op2 fPowI (mP (mC (.int 10))) (mP (mC (.int 62))))) qNil))))))))) (sRet (mC (.bl false))) sNil)
theorem ck_loop (t a b c : D) : ∀ (ds : List D) (x : Sl), (∀ d, x ≠ .ow d) → (∀ d, x ≠ .io d) → (∀ d ∈ ds, r_f_is_integer [d] = .ok (.bl false) none) → ∃ y, forGo (gNm 4) ckB ds [.io t, .im a, .im b, .im c, x, .no, .no] = .nx [.io t, .im a, .im b, .im c, y, .no, .no]
  | [], x, _, _, _ => ⟨x, rfl⟩
  | d :: ds, x, h1, h2, h => by
    obtain ⟨y, hy⟩ := ck_loop t a b c ds (.im d) (by simp [mAlt, Out.alt, runDef, startE, startGo, sSeq, sIf, tB1, op2, op1, mP, mPl, mC, mV, getD, PV.get, Out.bind, Out.bindS, ofO, ofB, atI, fAdd, fMul, oOr, fI, getOw, fSet, ixN, putSl, ofE, sSet, putIm, sRet, outIo, sNil, tT, tNt, mCallD, mFn, qCons, qNil, truD, qArgs, qAt, putBack, backE, qAll, getAll, mAnd, mOr, mNot, aCons, aNil, sRaise, sSetF, fGcd, fSetF, tOr2, tAn, putI, mMake, fFld, fl_top, fl_bottom, fNegI, mMethD, isIns]) (by simp [mAlt, Out.alt, runDef, startE, startGo, sSeq, sIf, tB1, op2, op1, mP, mPl, mC, mV, getD, PV.get, Out.bind, Out.bindS, ofO, ofB, atI, fAdd, fMul, oOr, fI, getOw, fSet, ixN, putSl, ofE, sSet, putIm, sRet, outIo, sNil, tT, tNt, mCallD, mFn, qCons, qNil, truD, qArgs, qAt, putBack, backE, qAll, getAll, mAnd, mOr, mNot, aCons, aNil, sRaise, sSetF, fGcd, fSetF, tOr2, tAn, putI, mMake, fFld, fl_top, fl_bottom, fNegI, mMethD, isIns]) fun z hz => h z (List.mem_cons_of_mem _ hz)
    have hd := h d (List.mem_cons_self ..)
    have w := isw_no hd
    have px : putIm 4 d [.io t, .im a, .im b, .im c, x, .no, .no] = some [.io t, .im a, .im b, .im c, .im d, .no, .no] := by
      rcases x with _ | _ | _ | _
      · rfl
      · rfl
      · exact absurd rfl (h1 _)
      · exact absurd rfl (h2 _)
    have hb : ckB [.io t, .im a, .im b, .im c, .im d, .no, .no] = .nx [.io t, .im a, .im b, .im c, .im d, .no, .no] := by
      simp [mAlt, Out.alt, runDef, startE, startGo, sSeq, sIf, tB1, op2, op1, mP, mPl, mC, mV, getD, PV.get, Out.bind, Out.bindS, ofO, ofB, atI, fAdd, fMul, oOr, fI, getOw, fSet, ixN, putSl, ofE, sSet, putIm, sRet, outIo, sNil, tT, tNt, mCallD, mFn, qCons, qNil, truD, qArgs, qAt, putBack, backE, qAll, getAll, mAnd, mOr, mNot, aCons, aNil, sRaise, sSetF, fGcd, fSetF, tOr2, tAn, putI, mMake, fFld, fl_top, fl_bottom, fNegI, mMethD, isIns, ckB, hd, w]
    refine ⟨y, ?_⟩
    simp only [forGo, gNm, px, hb]
    exact hy
theorem checks_ok {n : Nat} {d : D} (t : Tub n d) (hn : n ≤ 500000) : ∃ d' : D, r_f_law_checks_right [d] = .ok (.bl true) (some d') ∧ Tub (n + 30) d' := by
  obtain ⟨r1, d1, s1, u1, v1, t1⟩ := scoop_ok (m := 2) t (by omega) (by decide) (by decide +kernel)
  obtain ⟨r2, d2, s2, u2, v2, t2⟩ := scoop_ok (m := 10 ^ 60) t1 (by omega) (by decide) (by decide +kernel)
  obtain ⟨cs, d3, s3, l1, l2, t3⟩ := text_ok t2 (by omega)
  obtain ⟨r4, d4, s4, u4, v4, t4⟩ := scoop_ok (m := 5) t3 (by omega) (by decide) (by decide +kernel)
  obtain ⟨r5, d5, s5, u5, v5, t5⟩ := scoop_ok (m := 5) t4 (by omega) (by decide) (by decide +kernel)
  refine ⟨d5, ?_, t5.mono (by omega)⟩
  have q1 : Nat.log2 2 + r1.natAbs.log2 < 1000000 := by
    have : r1 = 0 ∨ r1 = 1 := by omega
    rcases this with h | h <;> rw [h] <;> decide +kernel
  have q2 : (2 * r1 - 1).natAbs.log2 + r2.natAbs.log2 < 1000000 := by
    have h1 : (2 * r1 - 1).natAbs.log2 < 1000 := by
      have : r1 = 0 ∨ r1 = 1 := by omega
      rcases this with h | h <;> rw [h] <;> decide +kernel
    have h2 : r2.natAbs.log2 < 1000 := by
      by_cases z : r2.natAbs = 0
      · rw [z]; decide
      · have e : (10 : Int) ^ 60 < 2 ^ 200 := by decide +kernel
        have : r2.natAbs.log2 < 200 := (Nat.log2_lt z).mpr (by omega)
        omega
    omega
  generalize hN : (2 * r1 - 1) * r2 = N at *
  have cc : Cs cs := fun c hc => by have := l2 c hc; omega
  have n1 := isn_ok l1
  have n2 := lawname_ok l1 cc
  have n3 (v : D) (h : fIsi t0 [v, .ty "str"] = some (.bl false)) : r_f_is_name [v] = .ok (.bl false) none := by
    simp [mAlt, Out.alt, runDef, startE, startGo, sSeq, sIf, tB1, op2, op1, mP, mPl, mC, mV, getD, PV.get, Out.bind, Out.bindS, ofO, ofB, atI, fAdd, fMul, oOr, fI, getOw, fSet, ixN, putSl, ofE, sSet, putIm, sRet, outIo, sNil, tT, tNt, mCallD, mFn, qCons, qNil, truD, qArgs, qAt, putBack, backE, qAll, getAll, mAnd, mOr, mNot, aCons, aNil, sRaise, sSetF, fGcd, fSetF, tOr2, tAn, putI, mMake, fFld, fl_top, fl_bottom, fNegI, mMethD, isIns, r_f_is_name, m_f_is_name, N_f_is_name, h]
  have n4 := n3 (.lst [.str (S cs)]) (by rfl)
  have n5 := n3 (.int N) (by rfl)
  have n6 := n3 .non (by rfl)
  have i1 := init1 N
  have kk : keyD (.str (PySem.Str.ofString "a")) = some (.inr (PySem.Str.ofString "a")) := by rfl
  have z1 : 1 ≤ 16777216 := by decide
  have z8 : 8 ≤ 16777216 := by decide
  obtain ⟨y, lp⟩ := ck_loop d3 (.int N) (.str (S cs)) (.lst [.non, .bl true, .bl false, .str (S cs), .lst [.int N], .tup [.int N], .dct [(.inr (PySem.Str.ofString "a"), .int N)], rt N 1]) [.non, .bl true, .bl false, .str (S cs), .lst [.int N], .tup [.int N], .dct [(.inr (PySem.Str.ofString "a"), .int N)], rt N 1] .no (by simp [mAlt, Out.alt, runDef, startE, startGo, sSeq, sIf, tB1, op2, op1, mP, mPl, mC, mV, getD, PV.get, Out.bind, Out.bindS, ofO, ofB, atI, fAdd, fMul, oOr, fI, getOw, fSet, ixN, putSl, ofE, sSet, putIm, sRet, outIo, sNil, tT, tNt, mCallD, mFn, qCons, qNil, truD, qArgs, qAt, putBack, backE, qAll, getAll, mAnd, mOr, mNot, aCons, aNil, sRaise, sSetF, fGcd, fSetF, tOr2, tAn, putI, mMake, fFld, fl_top, fl_bottom, fNegI, mMethD, isIns]) (by simp [mAlt, Out.alt, runDef, startE, startGo, sSeq, sIf, tB1, op2, op1, mP, mPl, mC, mV, getD, PV.get, Out.bind, Out.bindS, ofO, ofB, atI, fAdd, fMul, oOr, fI, getOw, fSet, ixN, putSl, ofE, sSet, putIm, sRet, outIo, sNil, tT, tNt, mCallD, mFn, qCons, qNil, truD, qArgs, qAt, putBack, backE, qAll, getAll, mAnd, mOr, mNot, aCons, aNil, sRaise, sSetF, fGcd, fSetF, tOr2, tAn, putI, mMake, fFld, fl_top, fl_bottom, fNegI, mMethD, isIns]) (by
    intro v hv
    simp only [List.mem_cons, List.not_mem_nil, or_false] at hv
    rcases hv with h | h | h | h | h | h | h | h <;> rw [h]
    · exact isint_non
    · exact isint_bl _
    · exact isint_bl _
    · exact isint_str _
    · exact isint_lst _
    · exact isint_tup _
    · exact isint_dct _
    · exact isint_rat _)
  have w1 := isint_int N
  have w2 := isw_nn N
  have w3 := isw_ln N (N + r4 - 2)
  have w4 := isw_nm N (N + r5 - 2)
  have w5 := isw_lm N (N + r4 - 2) (N + r5 - 2)
  simp only [ckB] at lp
  simp only [rt] at i1 lp
  rw [show (10 : Int) ^ 60 = 1000000000000000000000000000000000000000000000000000000000000 from by decide +kernel] at s2
  have ch : mChain fLeI fLeI (mV 5) (mV 1) (mV 6) [.io d5, .im (.int N), .im (.str (S cs)), .im (.lst [.non, .bl true, .bl false, .str (S cs), .lst [.int N], .tup [.int N], .dct [(.inr (PySem.Str.ofString "a"), .int N)], .ins 1 [.int N, .int 1]]), y, .im (.int (N + r4 - 2)), .im (.int (N + r5 - 2))] = .ok (.bl (decide (N + r4 - 2 ≤ N) && decide (N ≤ N + r5 - 2))) [.io d5, .im (.int N), .im (.str (S cs)), .im (.lst [.non, .bl true, .bl false, .str (S cs), .lst [.int N], .tup [.int N], .dct [(.inr (PySem.Str.ofString "a"), .int N)], .ins 1 [.int N, .int 1]]), y, .im (.int (N + r4 - 2)), .im (.int (N + r5 - 2))] := by
    by_cases h : N + r4 - 2 ≤ N
    · simp [mAlt, Out.alt, runDef, startE, startGo, sSeq, sIf, tB1, op2, op1, mP, mPl, mC, mV, getD, PV.get, Out.bind, Out.bindS, ofO, ofB, atI, fAdd, fMul, oOr, fI, getOw, fSet, ixN, putSl, ofE, sSet, putIm, sRet, outIo, sNil, tT, tNt, mCallD, mFn, qCons, qNil, truD, qArgs, qAt, putBack, backE, qAll, getAll, mAnd, mOr, mNot, aCons, aNil, sRaise, sSetF, fGcd, fSetF, tOr2, tAn, putI, mMake, fFld, fl_top, fl_bottom, fNegI, mMethD, isIns, mChain, h]
    · simp [mAlt, Out.alt, runDef, startE, startGo, sSeq, sIf, tB1, op2, op1, mP, mPl, mC, mV, getD, PV.get, Out.bind, Out.bindS, ofO, ofB, atI, fAdd, fMul, oOr, fI, getOw, fSet, ixN, putSl, ofE, sSet, putIm, sRet, outIo, sNil, tT, tNt, mCallD, mFn, qCons, qNil, truD, qArgs, qAt, putBack, backE, qAll, getAll, mAnd, mOr, mNot, aCons, aNil, sRaise, sSetF, fGcd, fSetF, tOr2, tAn, putI, mMake, fFld, fl_top, fl_bottom, fNegI, mMethD, isIns, mChain, h]
  simp [mAlt, Out.alt, runDef, startE, startGo, sSeq, sIf, tB1, op2, op1, mP, mPl, mC, mV, getD, PV.get, Out.bind, Out.bindS, ofO, ofB, atI, fAdd, fMul, oOr, fI, getOw, fSet, ixN, putSl, ofE, sSet, putIm, sRet, outIo, sNil, tT, tNt, mCallD, mFn, qCons, qNil, truD, qArgs, qAt, putBack, backE, qAll, getAll, mAnd, mOr, mNot, aCons, aNil, sRaise, sSetF, fGcd, fSetF, tOr2, tAn, putI, mMake, fFld, fl_top, fl_bottom, fNegI, mMethD, isIns, r_f_law_checks_right, m_f_law_checks_right, N_f_law_checks_right, s1, s2, s3, s4, s5, q1, q2, hN, n1, n2, n4, n5, n6, ne_bl, eq_bl, mLst, mTup, sz, mDict1, kk, i1, sFor, iSeq, w1, w2, w3, w4, w5]
  rw [lp]
  simp [mAlt, Out.alt, runDef, startE, startGo, sSeq, sIf, tB1, op2, op1, mP, mPl, mC, mV, getD, PV.get, Out.bind, Out.bindS, ofO, ofB, atI, fAdd, fMul, oOr, fI, getOw, fSet, ixN, putSl, ofE, sSet, putIm, sRet, outIo, sNil, tT, tNt, mCallD, mFn, qCons, qNil, truD, qArgs, qAt, putBack, backE, qAll, getAll, mAnd, mOr, mNot, aCons, aNil, sRaise, sSetF, fGcd, fSetF, tOr2, tAn, putI, mMake, fFld, fl_top, fl_bottom, fNegI, mMethD, isIns, sPar, putL, s4, s5, w1, w2, w3, w4, w5, ne_bl, eq_bl, ch]
end K01
set_option maxRecDepth 100000
set_option maxHeartbeats 4000000
namespace K01
open PySem PySem.Spec PyProof.Rows L2 Ml SX
/-! the number of all cells -/
noncomputable def tbB : MS := (sSet 1 (op2 fAdd (mP (op2 fAdd (mP (op2 fMul (mPl 1) (mP (mC (.int 1213))))) (mP (op2 fModI (mP (mFn (fAbs) (qCons (mP (mFn (fIntU) (qCons (mPl 2) qNil))) qNil))) (mP (op2 fPowI (mP (mC (.int 10))) (mP (mC (.int 40))))))))) (mP (op2 fMul (mP (op2 fPowI (mP (mC (.int 10))) (mP (mC (.int 41))))) (mP (mFn (fIntU) (qCons (mP (op2 fLtI (mPl 2) (mP (mC (.int 0))))) qNil)))))))
theorem int_int (i : Int) : fIntU [.int i] = some (.int i) := rfl
theorem tb_loop (v : D) : ∀ (l : List Int) (w : Int) (x : Sl) (k : Nat), (∀ d, x ≠ .ow d) → (∀ d, x ≠ .io d) → Bd (200 + 12 * k) w → k + l.length ≤ 60 → ∃ w' y, forGo (gNm 2) tbB (l.map D.int) [.im v, .im (.int w), x] = .nx [.im v, .im (.int w'), y]
  | [], w, x, k, _, _, _, _ => ⟨w, x, rfl⟩
  | c :: l, w, x, k, h1, h2, hb, hk => by
    rw [List.length_cons] at hk
    have q1 : w.natAbs.log2 + Nat.log2 1213 < 1000000 := by
      have := hb.log (m := 2000) (by omega) (by decide)
      have e : Nat.log2 1213 = 10 := by decide +kernel
      omega
    have e40 : (10 : Int) ^ 40 = 10000000000000000000000000000000000000000 := by decide +kernel
    have e41 : (10 : Int) ^ 41 = 100000000000000000000000000000000000000000 := by decide +kernel
    have px : putIm 2 (.int c) [.im v, .im (.int w), x] = some [.im v, .im (.int w), .im (.int c)] := by
      rcases x with _ | _ | _ | _
      · rfl
      · rfl
      · exact absurd rfl (h1 _)
      · exact absurd rfl (h2 _)
    obtain ⟨a, ha, ha0⟩ : ∃ a : Int, (if c < 0 then -c else c) = a ∧ 0 ≤ a := ⟨_, rfl, by split <;> omega⟩
    have ab : fAbs [.int c] = some (.int a) := by simp [mAlt, Out.alt, runDef, startE, startGo, sSeq, sIf, tB1, op2, op1, mP, mPl, mC, mV, getD, PV.get, Out.bind, Out.bindS, ofO, ofB, atI, fAdd, fMul, oOr, fI, getOw, fSet, ixN, putSl, ofE, sSet, putIm, sRet, outIo, sNil, tT, tNt, mCallD, mFn, qCons, qNil, truD, qArgs, qAt, putBack, backE, qAll, getAll, mAnd, mOr, mNot, aCons, aNil, sRaise, sSetF, fGcd, fSetF, tOr2, tAn, putI, mMake, fFld, fl_top, fl_bottom, fNegI, mMethD, isIns, fAbs, ha]
    obtain ⟨m, hm⟩ : ∃ m : Int, m = a.fmod 10000000000000000000000000000000000000000 := ⟨_, rfl⟩
    have hm0 : 0 ≤ m := by rw [hm]; exact Int.fmod_nonneg_of_pos _ (by decide)
    have hm1 : m < 10000000000000000000000000000000000000000 := by rw [hm]; exact Int.fmod_lt_of_pos _ (by decide)
    obtain ⟨s, hs, hs2⟩ : ∃ s : Int, (s = 0 ∨ s = 1) ∧ s = (if decide (c < 0) then 1 else 0) := by
      by_cases z : c < 0
      · exact ⟨1, .inr rfl, by simp [mAlt, Out.alt, runDef, startE, startGo, sSeq, sIf, tB1, op2, op1, mP, mPl, mC, mV, getD, PV.get, Out.bind, Out.bindS, ofO, ofB, atI, fAdd, fMul, oOr, fI, getOw, fSet, ixN, putSl, ofE, sSet, putIm, sRet, outIo, sNil, tT, tNt, mCallD, mFn, qCons, qNil, truD, qArgs, qAt, putBack, backE, qAll, getAll, mAnd, mOr, mNot, aCons, aNil, sRaise, sSetF, fGcd, fSetF, tOr2, tAn, putI, mMake, fFld, fl_top, fl_bottom, fNegI, mMethD, isIns, z]⟩
      · exact ⟨0, .inl rfl, by simp [mAlt, Out.alt, runDef, startE, startGo, sSeq, sIf, tB1, op2, op1, mP, mPl, mC, mV, getD, PV.get, Out.bind, Out.bindS, ofO, ofB, atI, fAdd, fMul, oOr, fI, getOw, fSet, ixN, putSl, ofE, sSet, putIm, sRet, outIo, sNil, tT, tNt, mCallD, mFn, qCons, qNil, truD, qArgs, qAt, putBack, backE, qAll, getAll, mAnd, mOr, mNot, aCons, aNil, sRaise, sSetF, fGcd, fSetF, tOr2, tAn, putI, mMake, fFld, fl_top, fl_bottom, fNegI, mMethD, isIns, z]⟩
    have q2 : Nat.log2 100000000000000000000000000000000000000000 + s.natAbs.log2 < 1000000 := by
      rcases hs with h | h <;> rw [h] <;> decide +kernel
    have ib := int_bl (decide (c < 0))
    rw [← hs2] at ib
    have md : fModI (.int a) (.int 10000000000000000000000000000000000000000) = some (.int m) := by
      rw [hm]; rfl
    have bw : Bd (200 + 12 * (k + 1)) (w * 1213 + m + 100000000000000000000000000000000000000000 * s) := by
      unfold Bd at *
      have e : (2 : Nat) ^ (200 + 12 * (k + 1)) = 2 ^ (200 + 12 * k) * 4096 := by
        rw [show 200 + 12 * (k + 1) = (200 + 12 * k) + 12 by omega, Nat.pow_add]
      have g : 2 ^ 200 ≤ 2 ^ (200 + 12 * k) := Nat.pow_le_pow_right (by decide) (by omega)
      have g2 : (2 : Nat) ^ 200 = 1606938044258990275541962092341162602522202993782792835301376 := by decide +kernel
      rw [e]
      rw [g2] at g
      generalize (2 : Nat) ^ (200 + 12 * k) = G at *
      rcases hs with h | h <;> rw [h] <;> omega
    obtain ⟨w', y, hy⟩ := tb_loop v l (w * 1213 + m + 100000000000000000000000000000000000000000 * s) (.im (.int c)) (k + 1) (by simp [mAlt, Out.alt, runDef, startE, startGo, sSeq, sIf, tB1, op2, op1, mP, mPl, mC, mV, getD, PV.get, Out.bind, Out.bindS, ofO, ofB, atI, fAdd, fMul, oOr, fI, getOw, fSet, ixN, putSl, ofE, sSet, putIm, sRet, outIo, sNil, tT, tNt, mCallD, mFn, qCons, qNil, truD, qArgs, qAt, putBack, backE, qAll, getAll, mAnd, mOr, mNot, aCons, aNil, sRaise, sSetF, fGcd, fSetF, tOr2, tAn, putI, mMake, fFld, fl_top, fl_bottom, fNegI, mMethD, isIns]) (by simp [mAlt, Out.alt, runDef, startE, startGo, sSeq, sIf, tB1, op2, op1, mP, mPl, mC, mV, getD, PV.get, Out.bind, Out.bindS, ofO, ofB, atI, fAdd, fMul, oOr, fI, getOw, fSet, ixN, putSl, ofE, sSet, putIm, sRet, outIo, sNil, tT, tNt, mCallD, mFn, qCons, qNil, truD, qArgs, qAt, putBack, backE, qAll, getAll, mAnd, mOr, mNot, aCons, aNil, sRaise, sSetF, fGcd, fSetF, tOr2, tAn, putI, mMake, fFld, fl_top, fl_bottom, fNegI, mMethD, isIns]) bw (by omega)
    refine ⟨w', y, ?_⟩
    have hbd : tbB [.im v, .im (.int w), .im (.int c)] = .nx [.im v, .im (.int (w * 1213 + m + 100000000000000000000000000000000000000000 * s)), .im (.int c)] := by
      simp [mAlt, Out.alt, runDef, startE, startGo, sSeq, sIf, tB1, op2, op1, mP, mPl, mC, mV, getD, PV.get, Out.bind, Out.bindS, ofO, ofB, atI, fAdd, fMul, oOr, fI, getOw, fSet, ixN, putSl, ofE, sSet, putIm, sRet, outIo, sNil, tT, tNt, mCallD, mFn, qCons, qNil, truD, qArgs, qAt, putBack, backE, qAll, getAll, mAnd, mOr, mNot, aCons, aNil, sRaise, sSetF, fGcd, fSetF, tOr2, tAn, putI, mMake, fFld, fl_top, fl_bottom, fNegI, mMethD, isIns, tbB, int_int, ab, md, ib, q1, q2]
    simp only [List.map_cons, forGo, gNm, px, hbd]
    exact hy
theorem tub_ok (ns : List Int) : ∃ a : Int, r_f_law_tub [.rdl (ns.map D.int)] = .ok (.lst [.int a, .int 0]) none := by
  have h2 : 2 ≤ sizeLine := by decide
  obtain ⟨l, hl, hlen⟩ : ∃ l : List Int, Ml.cutD (ns.map D.int) none (some 40) = l.map D.int ∧ l.length ≤ 40 := by
    refine ⟨ns.take 40, ?_, by rw [List.length_take]; omega⟩
    unfold Ml.cutD
    rw [HT.sIx_none, List.drop_zero, Nat.sub_zero, show (40 : Int) = ((40 : Nat) : Int) from rfl, HT.sIx_nat]
    rw [List.map_take]
    by_cases h : 40 ≤ (ns.map D.int).length
    · rw [Nat.min_eq_left h]
    · rw [Nat.min_eq_right (by omega), List.take_of_length_le (Nat.le_refl _), List.take_of_length_le (by omega)]
  obtain ⟨w', y, h⟩ := tb_loop (.rdl (ns.map D.int)) l 59 .no 0 (by simp [mAlt, Out.alt, runDef, startE, startGo, sSeq, sIf, tB1, op2, op1, mP, mPl, mC, mV, getD, PV.get, Out.bind, Out.bindS, ofO, ofB, atI, fAdd, fMul, oOr, fI, getOw, fSet, ixN, putSl, ofE, sSet, putIm, sRet, outIo, sNil, tT, tNt, mCallD, mFn, qCons, qNil, truD, qArgs, qAt, putBack, backE, qAll, getAll, mAnd, mOr, mNot, aCons, aNil, sRaise, sSetF, fGcd, fSetF, tOr2, tAn, putI, mMake, fFld, fl_top, fl_bottom, fNegI, mMethD, isIns]) (by simp [mAlt, Out.alt, runDef, startE, startGo, sSeq, sIf, tB1, op2, op1, mP, mPl, mC, mV, getD, PV.get, Out.bind, Out.bindS, ofO, ofB, atI, fAdd, fMul, oOr, fI, getOw, fSet, ixN, putSl, ofE, sSet, putIm, sRet, outIo, sNil, tT, tNt, mCallD, mFn, qCons, qNil, truD, qArgs, qAt, putBack, backE, qAll, getAll, mAnd, mOr, mNot, aCons, aNil, sRaise, sSetF, fGcd, fSetF, tOr2, tAn, putI, mMake, fFld, fl_top, fl_bottom, fNegI, mMethD, isIns]) (Bd.mono (n := 6) (by unfold Bd; decide) (by decide)) (by omega)
  simp only [tbB, fAdd, fMul] at h
  refine ⟨w', ?_⟩
  simp [mAlt, Out.alt, runDef, startE, startGo, sSeq, sIf, tB1, op2, op1, mP, mPl, mC, mV, getD, PV.get, Out.bind, Out.bindS, ofO, ofB, atI, fAdd, fMul, oOr, fI, getOw, fSet, ixN, putSl, ofE, sSet, putIm, sRet, outIo, sNil, tT, tNt, mCallD, mFn, qCons, qNil, truD, qArgs, qAt, putBack, backE, qAll, getAll, mAnd, mOr, mNot, aCons, aNil, sRaise, sSetF, fGcd, fSetF, tOr2, tAn, putI, mMake, fFld, fl_top, fl_bottom, fNegI, mMethD, isIns, r_f_law_tub, m_f_law_tub, N_f_law_tub, sFor, iSeq, mSl, oNo, oSo, fSl, fSlN, hl, sRetN, mLst, h2]
  rw [h]
  simp [mAlt, Out.alt, runDef, startE, startGo, sSeq, sIf, tB1, op2, op1, mP, mPl, mC, mV, getD, PV.get, Out.bind, Out.bindS, ofO, ofB, atI, fAdd, fMul, oOr, fI, getOw, fSet, ixN, putSl, ofE, sSet, putIm, sRet, outIo, sNil, tT, tNt, mCallD, mFn, qCons, qNil, truD, qArgs, qAt, putBack, backE, qAll, getAll, mAnd, mOr, mNot, aCons, aNil, sRaise, sSetF, fGcd, fSetF, tOr2, tAn, putI, mMake, fFld, fl_top, fl_bottom, fNegI, mMethD, isIns, h2]
/-! one turn -/
theorem odd_ok {r : Int} (h0 : 0 ≤ r) (h1 : r < 6) : ∃ o, fIx (.lst [.non, .bl true, .str (PySem.Str.ofString "1/2"), .lst [.int 1], .tup [.int 1, .int 2], .dct []]) (.int r) = some o ∧ Odd o ∧ okR [1] o = true := by
  have : r = 0 ∨ r = 1 ∨ r = 2 ∨ r = 3 ∨ r = 4 ∨ r = 5 := by omega
  rcases this with h | h | h | h | h | h <;> subst h
  · exact ⟨_, rfl, odd_non, rfl⟩
  · exact ⟨_, rfl, odd_bl _, rfl⟩
  · exact ⟨_, rfl, odd_str _, rfl⟩
  · exact ⟨_, rfl, odd_lst _, rfl⟩
  · exact ⟨_, rfl, odd_tup _, rfl⟩
  · exact ⟨_, rfl, odd_dct _, rfl⟩
theorem bd26 {a : Int} (h : a.natAbs < 10 ^ 26) : Bd 100 a := by
  unfold Bd
  have e : (10 : Nat) ^ 26 < 2 ^ 100 := by decide +kernel
  omega
theorem dg26 {a : Int} (h : a.natAbs < 10 ^ 26) : (TL.numL a.natAbs).length ≤ 60 := by
  have := numL_bd (n := a.natAbs) (k := 26) (by decide) h
  omega
structure Turn (d d' : D) (a0 a1 b0 b1 : Int) (o : D) : Prop where
  p1 : ∃ d1, r_f_law_pair [d] = .ok (.tup [.int a0, .int a1]) (some d1) ∧ ∃ d2, r_f_law_pair [d1] = .ok (.tup [.int b0, .int b1]) (some d2) ∧ ∃ d3, r_f_law_checks_right [d2] = .ok (.bl true) (some d3) ∧ ∃ r, r_f_law_scoop [d3, .int 6] = .ok (.int r) (some d') ∧ fIx (.lst [.non, .bl true, .str (PySem.Str.ofString "1/2"), .lst [.int 1], .tup [.int 1, .int 2], .dct []]) (.int r) = some o
  n1 : r_c_Ratio_init [.ins 1 [], .int a0, .int a1] = .ok .non (some (rt (tp a0 a1) (bt a0 a1)))
  n2 : r_c_Ratio_init [.ins 1 [], .int b0, .int b1] = .ok .non (some (rt (tp b0 b1) (bt b0 b1)))
  n3 : r_c_Ratio_init [.ins 1 [], .int b0, .int 1] = .ok .non (some (rt b0 1))
  i1 : r_f_law_is [rt (tp a0 a1) (bt a0 a1), .int a0, .int a1] = .ok (.bl true) none
  x1 : r_f_law_texts_right [rt (tp a0 a1) (bt a0 a1), .int a0, .int a1] = .ok (.bl true) none
  x2 : r_f_law_texts_right [rt b0 1, .int b0, .int 1] = .ok (.bl true) none
  s1 : r_f_law_sums_right [.tup [.int a0, .int a1], .tup [.int b0, .int b1], rt (tp a0 a1) (bt a0 a1), rt (tp b0 b1) (bt b0 b1)] = .ok (.bl true) none
  s2 : r_f_law_sums_right [.tup [.int a0, .int a1], .tup [.int b0, .int 1], rt (tp a0 a1) (bt a0 a1), .int b0] = .ok (.bl true) none
  e1 : r_f_law_errors_right [rt (tp a0 a1) (bt a0 a1), o] = .ok (.bl true) none
  o1 : r_c_Ratio_of [.int b0] = .ok (rt b0 1) none
  i2 : r_f_law_is [rt b0 1, .int b0, .int 1] = .ok (.bl true) none
theorem turn_ok {n : Nat} {d : D} (t : Tub n d) (hn : n ≤ 400000) : ∃ d' a0 a1 b0 b1 o, Turn d d' a0 a1 b0 b1 o ∧ Tub (n + 50) d' := by
  obtain ⟨a0, a1, d1, p1, ha, A0, A1, t1⟩ := pair_ok t (by omega)
  obtain ⟨b0, b1, d2, p2, hb, B0, B1, t2⟩ := pair_ok t1 (by omega)
  obtain ⟨d3, c, t3⟩ := checks_ok t2 (by omega)
  obtain ⟨r, d4, s, u, v, t4⟩ := scoop_ok (m := 6) t3 (by omega) (by decide) (by decide +kernel)
  obtain ⟨o, ho, od, okr⟩ := odd_ok u v
  have la := low_tb a0 ha
  have lb := low_tb b0 hb
  have K1 := bd26 A0
  have K2 := bd26 A1
  have K3 := bd26 B0
  have K4 := bd26 B1
  have one : Bd 100 1 := Bd.mono (n := 1) (by unfold Bd; decide) (by decide)
  have one' : Bd 1000 1 := Bd.mono (n := 1) (by unfold Bd; decide) (by decide)
  have w1 : tp b0 1 = b0 := tp_one b0
  have w2 : bt b0 1 = 1 := bt_one b0
  have i1 := is_low (x := tp a0 a1) (y := bt a0 a1) (a := a0) (b := a1) (low_eq la) ha (K2.mono (show 100 ≤ 1000 by decide))
  rw [rat_low la] at i1
  have i2 := is_low (x := b0) (y := 1) (a := b0) (b := 1) ⟨rfl, rfl⟩ (show (1 : Int) ≠ 0 by decide) one'
  rw [rat_int] at i2
  have x1 := texts_ok ha (dg26 (Nat.lt_of_le_of_lt (tp_le a0 a1) A0)) (dg26 (Nat.lt_of_le_of_lt (bt_le a0 a1) A1)) (K1.mono (show 100 ≤ 1000 by decide)) (K2.mono (show 100 ≤ 1000 by decide))
  have x2 := texts_ok (a := b0) (b := 1) (by decide) (by rw [w1]; exact dg26 B0) (by rw [w2]; decide +kernel) (K3.mono (show 100 ≤ 1000 by decide)) one'
  rw [w1, w2] at x2
  have s1 := sums_ok ha hb K1 K2 K3 K4 (vl_rt _ _)
  have s2 := sums_ok (b0 := b0) (b1 := 1) (d := .int b0) ha (by decide) K1 K2 K3 one (by rw [w1, w2]; exact vl_int b0)
  refine ⟨d4, a0, a1, b0, b1, o, ⟨⟨d1, p1, d2, p2, d3, c, r, s, ho⟩, init_rat a0 a1 ha (K2.log (by decide) (by decide)), init_rat b0 b1 hb (K4.log (by decide) (by decide)), init1 b0, i1, x1, x2, s1, s2, errors_ok od okr, by rw [of_int, rat_int], i2⟩, t4.mono (by omega)⟩
noncomputable def lwB : MS := (sSeq (sPar [3, 4] (aCons (mCallD (some 0) 1 [] r_f_law_pair (qCons (mPl 1) qNil)) (aCons (mCallD (some 0) 1 [] r_f_law_pair (qCons (mPl 1) qNil)) aNil))) (sSeq (sIf (tNt (tT (mP (mCallD (some 0) 1 [] r_f_law_checks_right (qCons (mPl 1) qNil))))) (sRet (mC (.bl false))) sNil) (sSeq (sPar [5, 6, 7] (aCons ((mMake 1 2 [] r_c_Ratio_init (aCons (op2 fIx (mPl 3) (mP (mC (.int 0)))) (aCons (op2 fIx (mPl 3) (mP (mC (.int 1)))) aNil)))) (aCons ((mMake 1 2 [] r_c_Ratio_init (aCons (op2 fIx (mPl 4) (mP (mC (.int 0)))) (aCons (op2 fIx (mPl 4) (mP (mC (.int 1)))) aNil)))) (aCons ((mMake 1 1 [.int 1] r_c_Ratio_init (aCons (op2 fIx (mPl 4) (mP (mC (.int 0)))) aNil))) aNil)))) (sSeq (sIf ((tOr2 (tNt (tT (mP (mCallD none 3 [] r_f_law_is (qCons (mPl 5) (qCons (mP (op2 fIx (mPl 3) (mP (mC (.int 0))))) (qCons (mP (op2 fIx (mPl 3) (mP (mC (.int 1))))) qNil))))))) (tOr2 (tNt (tT (mP (mCallD none 3 [] r_f_law_texts_right (qCons (mPl 5) (qCons (mP (op2 fIx (mPl 3) (mP (mC (.int 0))))) (qCons (mP (op2 fIx (mPl 3) (mP (mC (.int 1))))) qNil))))))) (tNt (tT (mP (mCallD none 3 [] r_f_law_texts_right (qCons (mPl 7) (qCons (mP (op2 fIx (mPl 4) (mP (mC (.int 0))))) (qCons (mP (mC (.int 1))) qNil)))))))))) (sRet (mC (.bl false))) sNil) (sSeq (sIf ((tOr2 (tNt (tT (mP (mCallD none 4 [] r_f_law_sums_right (qCons (mPl 3) (qCons (mPl 4) (qCons (mPl 5) (qCons (mPl 6) qNil)))))))) (tNt (tT (mP (mCallD none 4 [] r_f_law_sums_right (qCons (mPl 3) (qCons (mP (mTup (aCons (op2 fIx (mPl 4) (mP (mC (.int 0)))) (aCons (mC (.int 1)) aNil)))) (qCons (mPl 5) (qCons (mP (op2 fIx (mPl 4) (mP (mC (.int 0))))) qNil)))))))))) (sRet (mC (.bl false))) sNil) (sSeq (sSet 8 (op2 fIx (mP ((mLst (aCons (mC .non) (aCons (mC (.bl true)) (aCons (mC (.str (PySem.Str.ofString "1/2"))) (aCons ((mLst (aCons (mC (.int 1)) aNil))) (aCons (mTup (aCons (mC (.int 1)) (aCons (mC (.int 2)) aNil))) (aCons ((mC (.dct []))) aNil))))))))) (mP (mCallD (some 0) 2 [] r_f_law_scoop (qCons (mPl 1) (qCons (mP (mC (.int 6))) qNil)))))) (sIf ((tOr2 (tNt (tT (mP (mCallD none 2 [] r_f_law_errors_right (qCons (mPl 5) (qCons (mPl 8) qNil)))))) (tNt (tT (mP (mCallD none 3 [] r_f_law_is (qCons (mP (mCallD none 1 [] r_c_Ratio_of (qCons (mP (op2 fIx (mPl 4) (mP (mC (.int 0))))) qNil))) (qCons (mP (op2 fIx (mPl 4) (mP (mC (.int 0))))) (qCons (mP (mC (.int 1))) qNil))))))))) (sRet (mC (.bl false))) sNil)))))))
theorem law_eq : m_f_law = (sSeq (sSetN 1 (mCallQ none 1 r_f_law_tub (qCons (mPl 0) qNil))) (sSeq (sFor (iRg1 (aCons (mC (.int 4)) aNil)) (gNm 2) lwB) (sRet (mC (.bl true))))) := rfl
def Six (x : List Sl) : Prop := x = [.no, .no, .no, .no, .no, .no] ∨ ∃ a b c e f g, x = [.im a, .im b, .im c, .im e, .im f, .im g]
theorem lw_turn {d d' : D} {a0 a1 b0 b1 : Int} {o : D} (t : Turn d d' a0 a1 b0 b1 o) (s k : D) (x : List Sl) (hx : Six x) : ∃ y, Six y ∧ lwB (.im s :: .ow d :: .im k :: x) = .nx (.im s :: .ow d' :: .im k :: y) := by
  obtain ⟨⟨d1, p1, d2, p2, d3, p3, r, p4, fo⟩, n1, n2, n3, i1, x1, x2, s1, s2, e1, o1, i2⟩ := t
  refine ⟨[.im (.tup [.int a0, .int a1]), .im (.tup [.int b0, .int b1]), .im (rt (tp a0 a1) (bt a0 a1)), .im (rt (tp b0 b1) (bt b0 b1)), .im (rt b0 1), .im o], .inr ⟨_, _, _, _, _, _, rfl⟩, ?_⟩
  have z1 : 1 ≤ 16777216 := by decide
  have z2 : 2 ≤ 16777216 := by decide
  have z6 : 6 ≤ 16777216 := by decide
  have ix0 (a b : Int) : fIx (.tup [.int a, .int b]) (.int 0) = some (.int a) := by rfl
  have ix1 (a b : Int) : fIx (.tup [.int a, .int b]) (.int 1) = some (.int b) := by rfl
  simp only [rt] at n1 n2 n3 i1 x1 x2 s1 s2 e1 o1 i2 ⊢
  generalize tp a0 a1 = P at *
  generalize bt a0 a1 = Q at *
  generalize tp b0 b1 = P' at *
  generalize bt b0 b1 = Q' at *
  rcases hx with rfl | ⟨a, b, c, e, f, g, rfl⟩
  · simp [mAlt, Out.alt, runDef, startE, startGo, sSeq, sIf, tB1, op2, op1, mP, mPl, mC, mV, getD, PV.get, Out.bind, Out.bindS, ofO, ofB, atI, fAdd, fMul, oOr, fI, getOw, fSet, ixN, putSl, ofE, sSet, putIm, sRet, outIo, sNil, tT, tNt, mCallD, mFn, qCons, qNil, truD, qArgs, qAt, putBack, backE, qAll, getAll, mAnd, mOr, mNot, aCons, aNil, sRaise, sSetF, fGcd, fSetF, tOr2, tAn, putI, mMake, fFld, fl_top, fl_bottom, fNegI, mMethD, isIns, lwB, sPar, putL, p1, p2, p3, p4, fo, ix0, ix1, n1, n2, n3, i1, x1, x2, s1, s2, e1, o1, i2, mLst, mTup, sz, z1, z2, z6]
  · simp [mAlt, Out.alt, runDef, startE, startGo, sSeq, sIf, tB1, op2, op1, mP, mPl, mC, mV, getD, PV.get, Out.bind, Out.bindS, ofO, ofB, atI, fAdd, fMul, oOr, fI, getOw, fSet, ixN, putSl, ofE, sSet, putIm, sRet, outIo, sNil, tT, tNt, mCallD, mFn, qCons, qNil, truD, qArgs, qAt, putBack, backE, qAll, getAll, mAnd, mOr, mNot, aCons, aNil, sRaise, sSetF, fGcd, fSetF, tOr2, tAn, putI, mMake, fFld, fl_top, fl_bottom, fNegI, mMethD, isIns, lwB, sPar, putL, p1, p2, p3, p4, fo, ix0, ix1, n1, n2, n3, i1, x1, x2, s1, s2, e1, o1, i2, mLst, mTup, sz, z1, z2, z6]
theorem lw_loop (s : D) : ∀ (ds : List D) (n : Nat) (d : D) (k : Sl) (x : List Sl), (∀ v, k ≠ .ow v) → (∀ v, k ≠ .io v) → Six x → Tub n d → n + 50 * ds.length ≤ 400000 → ∃ d' k' y, forGo (gNm 2) lwB ds (.im s :: .ow d :: k :: x) = .nx (.im s :: .ow d' :: k' :: y)
  | [], n, d, k, x, _, _, _, _, _ => ⟨d, k, x, rfl⟩
  | v :: ds, n, d, k, x, h1, h2, hx, t, hn => by
    rw [List.length_cons] at hn
    obtain ⟨d', a0, a1, b0, b1, o, T, t'⟩ := turn_ok t (by omega)
    obtain ⟨y, hy, hb⟩ := lw_turn T s v x hx
    obtain ⟨d2, k2, y2, e⟩ := lw_loop s ds (n + 50) d' (.im v) y (by simp [mAlt, Out.alt, runDef, startE, startGo, sSeq, sIf, tB1, op2, op1, mP, mPl, mC, mV, getD, PV.get, Out.bind, Out.bindS, ofO, ofB, atI, fAdd, fMul, oOr, fI, getOw, fSet, ixN, putSl, ofE, sSet, putIm, sRet, outIo, sNil, tT, tNt, mCallD, mFn, qCons, qNil, truD, qArgs, qAt, putBack, backE, qAll, getAll, mAnd, mOr, mNot, aCons, aNil, sRaise, sSetF, fGcd, fSetF, tOr2, tAn, putI, mMake, fFld, fl_top, fl_bottom, fNegI, mMethD, isIns]) (by simp [mAlt, Out.alt, runDef, startE, startGo, sSeq, sIf, tB1, op2, op1, mP, mPl, mC, mV, getD, PV.get, Out.bind, Out.bindS, ofO, ofB, atI, fAdd, fMul, oOr, fI, getOw, fSet, ixN, putSl, ofE, sSet, putIm, sRet, outIo, sNil, tT, tNt, mCallD, mFn, qCons, qNil, truD, qArgs, qAt, putBack, backE, qAll, getAll, mAnd, mOr, mNot, aCons, aNil, sRaise, sSetF, fGcd, fSetF, tOr2, tAn, putI, mMake, fFld, fl_top, fl_bottom, fNegI, mMethD, isIns]) hy t' (by omega)
    have px : putIm 2 v (.im s :: .ow d :: k :: x) = some (.im s :: .ow d :: .im v :: x) := by
      rcases k with _ | _ | _ | _
      · rfl
      · rfl
      · exact absurd rfl (h1 _)
      · exact absurd rfl (h2 _)
    refine ⟨d2, k2, y2, ?_⟩
    simp only [forGo, gNm, px, hb]
    exact e
theorem plain (ns : List Int) : r_f_law [.rdl (ns.map D.int)] = .ok (.bl true) none := by
  obtain ⟨a, ht⟩ := tub_ok ns
  obtain ⟨d', k', y, e⟩ := lw_loop (.rdl (ns.map D.int)) (rangeD 0 4) 0 (.lst [.int a, .int 0]) .no [.no, .no, .no, .no, .no, .no] (by simp [mAlt, Out.alt, runDef, startE, startGo, sSeq, sIf, tB1, op2, op1, mP, mPl, mC, mV, getD, PV.get, Out.bind, Out.bindS, ofO, ofB, atI, fAdd, fMul, oOr, fI, getOw, fSet, ixN, putSl, ofE, sSet, putIm, sRet, outIo, sNil, tT, tNt, mCallD, mFn, qCons, qNil, truD, qArgs, qAt, putBack, backE, qAll, getAll, mAnd, mOr, mNot, aCons, aNil, sRaise, sSetF, fGcd, fSetF, tOr2, tAn, putI, mMake, fFld, fl_top, fl_bottom, fNegI, mMethD, isIns]) (by simp [mAlt, Out.alt, runDef, startE, startGo, sSeq, sIf, tB1, op2, op1, mP, mPl, mC, mV, getD, PV.get, Out.bind, Out.bindS, ofO, ofB, atI, fAdd, fMul, oOr, fI, getOw, fSet, ixN, putSl, ofE, sSet, putIm, sRet, outIo, sNil, tT, tNt, mCallD, mFn, qCons, qNil, truD, qArgs, qAt, putBack, backE, qAll, getAll, mAnd, mOr, mNot, aCons, aNil, sRaise, sSetF, fGcd, fSetF, tOr2, tAn, putI, mMake, fFld, fl_top, fl_bottom, fNegI, mMethD, isIns]) (.inl rfl) ⟨a, 0, rfl, by decide, by decide⟩ (by decide)
  have rr := rg1 (m := aCons (mC (.int 4)) aNil) (env := [.im (.rdl (ns.map D.int)), .ow (.lst [.int a, .int 0]), .no, .no, .no, .no, .no, .no, .no]) (env1 := [.im (.rdl (ns.map D.int)), .ow (.lst [.int a, .int 0]), .no, .no, .no, .no, .no, .no, .no]) (j := 4) (by simp [mAlt, Out.alt, runDef, startE, startGo, sSeq, sIf, tB1, op2, op1, mP, mPl, mC, mV, getD, PV.get, Out.bind, Out.bindS, ofO, ofB, atI, fAdd, fMul, oOr, fI, getOw, fSet, ixN, putSl, ofE, sSet, putIm, sRet, outIo, sNil, tT, tNt, mCallD, mFn, qCons, qNil, truD, qArgs, qAt, putBack, backE, qAll, getAll, mAnd, mOr, mNot, aCons, aNil, sRaise, sSetF, fGcd, fSetF, tOr2, tAn, putI, mMake, fFld, fl_top, fl_bottom, fNegI, mMethD, isIns]) (by decide)
  have e4 : (4 : Int).toNat = 4 := rfl
  rw [e4] at rr
  unfold r_f_law
  rw [law_eq]
  simp [mAlt, Out.alt, runDef, startE, startGo, sSeq, sIf, tB1, op2, op1, mP, mPl, mC, mV, getD, PV.get, Out.bind, Out.bindS, ofO, ofB, atI, fAdd, fMul, oOr, fI, getOw, fSet, ixN, putSl, ofE, sSet, putIm, sRet, outIo, sNil, tT, tNt, mCallD, mFn, qCons, qNil, truD, qArgs, qAt, putBack, backE, qAll, getAll, mAnd, mOr, mNot, aCons, aNil, sRaise, sSetF, fGcd, fSetF, tOr2, tAn, putI, mMake, fFld, fl_top, fl_bottom, fNegI, mMethD, isIns, N_f_law, mCallQ, ht, sSetN, putOw, sFor, rr]
  rw [e]
end K01
set_option maxRecDepth 100000
set_option maxHeartbeats 0
namespace K01
open PySem PySem.Spec PyProof.Rows L2 Ml
theorem lawAt (law : ∀ ns : List Int, ns.length ≤ 63 → (∀ z ∈ ns, Builtin.Int.intBits z ≤ 1048576) → r_f_law [.rdl (ns.map D.int)] = .ok (.bl true) none) {P : PySem.W.OpenLaw} {w : World} {K : PySem.W.Frag} {mg : Str → Option Value} {fa0 : Addr} {h : Heap}
    (KX : K.In h) (G : h.Ns mainGlobals mg) (hmg : mg (PySem.Str.ofString "law") = some (.ref fa0)) (c : SaysT fa fn tbl h K) : LamX.LawAtS P w K (L2.CX P.prog w) 13 63 (PySem.Str.ofString "_law_script") mg fa0 h := by
  have hfa : mg (PySem.Str.ofString "law") = some (.ref (He.ga K (PySem.Str.ofString "law"))) := He.glo_ok KX G (c.s.fact 28 (f := (He.Fa.glo (PySem.Str.ofString "law")).ok) rfl)
  rw [hmg] at hfa
  cases hfa
  obtain ⟨fd, F⟩ : ∃ fd, FD_f_law K fd := c.s.def_ 49 rfl
  refine ⟨fd, tbl K, fun vs H Q E => vs.length = 1 ∧ spF (tab K) none false r_f_law vs H Q E, c.empty, c.out, fun p hp => PySem.W.codeHd_of_K KX (c.hd p hp), fun s u => FunD.bindsA (ps := [PySem.Str.ofString "_law_script"]) F (fun _ _ _ _ _ _ us hl => match us, hl with | [_], _ => rfl) s [u] rfl, fun H a ns hl hb ht hS => ⟨rfl, law_sp (law ns hl hb) (fun p hp => ?_) hS⟩, fun base KB GB TB => ?_⟩
  · obtain ⟨q, hq, e1⟩ : ∃ q ∈ tbl K, q.2 = p.1 := tabs_of K p hp
    exact LamX.TabS.nil (by rw [← e1]; exact ht q hq)
  · obtain ⟨fd2, F2, G2⟩ := ok_f_law (P := P.prog) (w := w) (K := K) (mg := mg) (base := base) ⟨⟨h, KX, G⟩, c.s, TB⟩
    rw [funD_uniq F F2] at G2
    exact G2
theorem holds_of (law : ∀ ns : List Int, ns.length ≤ 63 → (∀ z ∈ ns, Builtin.Int.intBits z ≤ 1048576) → r_f_law [.rdl (ns.map D.int)] = .ok (.bl true) none) : PySem.Challenge.rw_lastgiver_k01_names_integers_and_ratios.Holds := by
  w_on; o_law
  refine HandSHeadRun.head_imp (r := R) (q := qv) (H := hk) (ob := ob) (M := 20000) (loose := loose) (d := HandSHeadRun.topDef R.prog 40) (kwd := []) ob_eq
    run (by kernel_rfl) (by kernel_rfl) (by kernel_rfl) (by rfl) (by first | assumption | decide +kernel) (by decide +kernel) ⟨rfl, rfl, rfl, rfl, rfl, by decide +kernel⟩ ?hw ?hc
  case hw => w_witness2
  case hc =>
    refine LamX.walk_ofTsE (l := PySem.Challenge.rw_lastgiver_k01_names_integers_and_ratios) (n := 63) (k := 13) (x := PySem.Str.ofString "_law_script") (CX := fun w => L2.CX PySem.Challenge.rw_lastgiver_k01_names_integers_and_ratios.prog w) rfl (by decide) (by kernel_rfl) ⟨rfl, by decide, by decide⟩ ?F ?hCX
    case hCX =>
      intro w H s e s' h
      obtain ⟨_, _, _, _, _, _, _, _, _, _, _, _, z⟩ := h
      exact z
    intro w mg fa0 h Y G hmg0
    obtain ⟨K, KX, c⟩ := Y
    have hmg : mg (PySem.Str.ofString "law") = some (.ref fa0) := by
      have e : (HandSHeadRun.topDef R.prog 40).name = PySem.Str.ofString "law" := by kernel_rfl
      rw [← e]
      exact hmg0
    refine ⟨K, KX, ?_⟩
    exact lawAt law KX G hmg c
end K01
set_option maxRecDepth 100000 in
set_option maxHeartbeats 0 in
theorem PySem.Challenge.cw_lastgiver_k01_names_integers_and_ratios_holds : PySem.Challenge.rw_lastgiver_k01_names_integers_and_ratios.Holds := by
  exact K01.holds_of fun ns _ _ => K01.plain ns
