import PyProof.Rows.All
import Wide.All
import OpenK.AllK
import Wide.FinOn
import HandS.ForMost
import HandS.Exc
import HandS.TryOnly
import HandS.ExcOwn
import HandS.WordsExc
import HandS.Star
import HandS.ClsMeth
import HandS.Defaults
import HandS.HeadHook1
import HandS.HeadHook2
import HandS.ExcCtx
import HandS.HotCalls
import HandS.IsInst
import HandS.Wide
import KE.KExcSuper
import HandS.ExcField
import HandS.HeadNt
import KE.KStateDown
import Lean
import HandS.Head0
import HandS.Head1
import HandS.Head2
import HandS.HeadEnd
import HandS.EndBits
import KE.KOpsOwn
import KE.KCallOwn
import HandS.Text
import HandS.FStr
import HandS.RaiseMore
import PyProof.Conv_bool
import PySem.Challenge.RW_laidink_k04_light_questions
set_option Elab.async false
set_option linter.all false
set_option maxRecDepth 100000
set_option maxHeartbeats 4000000
/-! # Pw: pure values for the objects of the package; the heap goes into rules once and for all -/
namespace Pw
open PySem PySem.Spec PyProof.Rows L2

/-! ## classes of the package, their fields in the order in which they are stored -/
inductive Cl where
  | Light | Film | Ink | Filter | Opaque | Bleach | Pass | Row | Spot | Chart | Shape | Sheet | Press
  | PrintError | InvalidBand | InvalidInk | InvalidTakes | InvalidPass | NoSuchPass | NotAnOrder | TooLong | TooManyMasks
  | Conditional | CannotCome | InvalidShape | WrongSize | UnknownMask | UnknownPlace | InvalidText | NothingToUndo
  | NothingToRedo | InvalidLimit | InvalidRun
  deriving DecidableEq
def Cl.name : Cl → Str
  | .Light => "Light" | .Film => "Film" | .Ink => "Ink" | .Filter => "Filter" | .Opaque => "Opaque" | .Bleach => "Bleach"
  | .Pass => "Pass" | .Row => "Row" | .Spot => "Spot" | .Chart => "Chart" | .Shape => "Shape" | .Sheet => "Sheet" | .Press => "Press"
  | .PrintError => "PrintError" | .InvalidBand => "InvalidBand" | .InvalidInk => "InvalidInk" | .InvalidTakes => "InvalidTakes"
  | .InvalidPass => "InvalidPass" | .NoSuchPass => "NoSuchPass" | .NotAnOrder => "NotAnOrder" | .TooLong => "TooLong"
  | .TooManyMasks => "TooManyMasks" | .Conditional => "Conditional" | .CannotCome => "CannotCome" | .InvalidShape => "InvalidShape"
  | .WrongSize => "WrongSize" | .UnknownMask => "UnknownMask" | .UnknownPlace => "UnknownPlace" | .InvalidText => "InvalidText"
  | .NothingToUndo => "NothingToUndo" | .NothingToRedo => "NothingToRedo" | .InvalidLimit => "InvalidLimit" | .InvalidRun => "InvalidRun"
def Cl.flds : Cl → List Str
  | .Light => ["number", "bands"] | .Film => ["bare", "inked"]
  | .Ink => ["off", "on", "takes"] | .Filter => ["off", "on", "takes"] | .Opaque => ["off", "on", "takes"] | .Bleach => ["off", "on", "takes"]
  | .Pass => ["mask", "ink", "around"] | .Row => ["passes", "masks"] | .Spot => ["opened", "ground", "inked"]
  | .Chart => ["mask", "leaf", "when_shut", "when_open"] | .Shape => ["lines", "width", "height"] | .Sheet => ["width", "height", "places"]
  | .Press => ["shapes", "sheet_now", "row_now", "before", "behind", "most"]
  | .PrintError => [] | .InvalidBand => ["band"] | .InvalidInk => ["band"] | .InvalidTakes => ["takes"] | .InvalidPass => ["mask"]
  | .NoSuchPass => ["number"] | .NotAnOrder => [] | .TooLong => ["many"] | .TooManyMasks => ["many"] | .Conditional => ["number"]
  | .CannotCome => ["place"] | .InvalidShape => ["line"] | .WrongSize => ["mask"] | .UnknownMask => ["mask"] | .UnknownPlace => ["x", "y"]
  | .InvalidText => ["line"] | .NothingToUndo => [] | .NothingToRedo => [] | .InvalidLimit => ["worth"] | .InvalidRun => ["number"]

/-! ## pure values -/
inductive PV where
  | non | bl (b : Bool) | int (i : Int) | str (s : Str)
  | tup (xs : List PV) | lst (xs : List PV)
  | obj (c : Cl) (xs : List PV)
  | cls (c : Cl)
  | ty (n : String)
  | box
  | exc (a d : Addr) (c : Cl) (xs : List PV)

abbrev Frg := PySem.W.Frag
/-- where the class c stands -/
abbrev ca (K : Frg) (c : Cl) : Addr := He.ga K c.name

section
variable (K : Frg) (bx : Option Addr) (G : Hp)
mutual
def Rep : PV → V → Prop
  | .non, v => v = .non
  | .bl b, v => v = .bl b
  | .int i, v => v = .int i
  | .str s, v => v = .str s
  | .tup xs, v => ∃ a vs, v = .ref a ∧ SqT K G a vs ∧ Reps xs vs
  | .lst xs, v => ∃ a vs, v = .ref a ∧ SqL K G a vs ∧ Reps xs vs
  | .obj c xs, v => ∃ a dx vs, v = .ref a ∧ G a = some (.ins (ca K c) dx (c.flds.zip vs)) ∧ vs.length = c.flds.length ∧ Reps xs vs
  | .cls c, v => v = .ref (ca K c)
  | .ty n, v => v = .ty n
  | .box, v => ∃ b, bx = some b ∧ v = .ref b
  | .exc a d c xs, v => v = .ref a ∧ (c.flds = [] ∨ ∃ vs, G d = some (.xd (c.flds.zip vs)) ∧ vs.length = c.flds.length ∧ Reps xs vs)
def Reps : List PV → List V → Prop
  | [], vs => vs = []
  | x :: xs, vs => ∃ v ws, vs = v :: ws ∧ Rep x v ∧ Reps xs ws
end
end

/-- all of G stands in H -/
def Sub (G H : Hp) : Prop := ∀ a o, G a = some o → H a = some o
theorem Sub.refl (G : Hp) : Sub G G := fun _ _ h => h
theorem Sub.trans {G H J : Hp} (a : Sub G H) (b : Sub H J) : Sub G J := fun x o h => b x o (a x o h)
theorem Sub.rd {G H : Hp} {a : Addr} {u : HO} (s : Sub G H) (h : Rd G a u) : Rd H a u := by
  rcases h with h | ⟨o, h⟩
  · exact .inl (s _ _ h)
  · exact .inr ⟨o, s _ _ h⟩
theorem Sub.l {K : Frg} {G H : Hp} {a : Addr} {xs : List V} (s : Sub G H) (h : SqL K G a xs) : SqL K H a xs := by
  rcases h with h | h
  · exact .inl (s.rd h)
  · exact .inr h
theorem Sub.t {K : Frg} {G H : Hp} {a : Addr} {xs : List V} (s : Sub G H) (h : SqT K G a xs) : SqT K H a xs := by
  rcases h with h | h
  · exact .inl (s.rd h)
  · exact .inr h
theorem Sub.free {G H : Hp} (s : Sub G H) {a : Addr} (h : H a = none) : G a = none := by
  cases q : G a with
  | none => rfl
  | some o => rw [s a o q] at h; cases h
theorem Sub.upd {H : Hp} {p : Addr} {o : HO} (h : H p = none) : Sub H (upd H p o) := fun a u e => by
  rw [upd_ne (ne_of_none e h)]; exact e
theorem Sub.upd2 {G H : Hp} (s : Sub G H) (p : Addr) (o : HO) : Sub (L2.upd G p o) (L2.upd H p o) := fun a u e => by
  by_cases h : a = p
  · subst h; rw [upd_same] at e ⊢; exact e
  · rw [upd_ne h] at e ⊢; exact s a u e

section
variable {K : Frg} {bx : Option Addr} {G H : Hp}
mutual
theorem Rep.mono (s : Sub G H) : ∀ {x : PV} {v : V}, Rep K bx G x v → Rep K bx H x v
  | .non, v, h => by simp only [Rep] at h ⊢; exact h
  | .bl b, v, h => by simp only [Rep] at h ⊢; exact h
  | .int i, v, h => by simp only [Rep] at h ⊢; exact h
  | .str z, v, h => by simp only [Rep] at h ⊢; exact h
  | .tup xs, v, h => by
    simp only [Rep] at h ⊢
    obtain ⟨a, vs, e, q, r⟩ := h
    exact ⟨a, vs, e, s.t q, Reps.mono s r⟩
  | .lst xs, v, h => by
    simp only [Rep] at h ⊢
    obtain ⟨a, vs, e, q, r⟩ := h
    exact ⟨a, vs, e, s.l q, Reps.mono s r⟩
  | .obj c xs, v, h => by
    simp only [Rep] at h ⊢
    obtain ⟨a, dx, vs, e, q, l, r⟩ := h
    exact ⟨a, dx, vs, e, s _ _ q, l, Reps.mono s r⟩
  | .cls c, v, h => by simp only [Rep] at h ⊢; exact h
  | .ty n, v, h => by simp only [Rep] at h ⊢; exact h
  | .box, v, h => by simp only [Rep] at h ⊢; exact h
  | .exc a d c xs, v, h => by
    simp only [Rep] at h ⊢
    obtain ⟨e, z⟩ := h
    refine ⟨e, z.elim .inl fun ⟨vs, q, l, r⟩ => .inr ⟨vs, s _ _ q, l, Reps.mono s r⟩⟩
theorem Reps.mono (s : Sub G H) : ∀ {xs : List PV} {vs : List V}, Reps K bx G xs vs → Reps K bx H xs vs
  | [], vs, h => by simp only [Reps] at h ⊢; exact h
  | x :: xs, vs, h => by
    simp only [Reps] at h ⊢
    obtain ⟨v, ws, e, r, rs⟩ := h
    exact ⟨v, ws, e, Rep.mono s r, Reps.mono s rs⟩
end
theorem Reps.nil : Reps K bx G [] [] := by simp only [Reps]
theorem Reps.cons {x : PV} {v : V} {xs : List PV} {vs : List V} (r : Rep K bx G x v) (rs : Reps K bx G xs vs) : Reps K bx G (x :: xs) (v :: vs) := by
  simp only [Reps]; exact ⟨v, vs, rfl, r, rs⟩
theorem Reps.cons_inv {x : PV} {xs : List PV} {vs : List V} (h : Reps K bx G (x :: xs) vs) : ∃ v ws, vs = v :: ws ∧ Rep K bx G x v ∧ Reps K bx G xs ws := by
  simp only [Reps] at h; exact h
theorem Reps.nil_inv {vs : List V} (h : Reps K bx G [] vs) : vs = [] := by simp only [Reps] at h; exact h
theorem Reps.length : ∀ {xs : List PV} {vs : List V}, Reps K bx G xs vs → vs.length = xs.length
  | [], vs, h => by rw [h.nil_inv]; rfl
  | x :: xs, vs, h => by
    obtain ⟨v, ws, rfl, _, r⟩ := h.cons_inv
    simp only [List.length_cons, r.length]
theorem Reps.get : ∀ {xs : List PV} {vs : List V} {i : Nat} {x : PV}, Reps K bx G xs vs → xs[i]? = some x → ∃ v, vs[i]? = some v ∧ Rep K bx G x v
  | [], vs, i, x, h, e => by simp at e
  | y :: xs, vs, i, x, h, e => by
    obtain ⟨v, ws, rfl, r, rs⟩ := h.cons_inv
    cases i with
    | zero => simp at e; subst e; exact ⟨v, rfl, r⟩
    | succ i =>
      obtain ⟨u, e1, e2⟩ := Reps.get (i := i) rs (by simpa using e)
      exact ⟨u, by simpa using e1, e2⟩
theorem Reps.getV {xs : List PV} {vs : List V} {i : Nat} {v : V} (r : Reps K bx G xs vs) (e : vs[i]? = some v) : ∃ x, xs[i]? = some x ∧ Rep K bx G x v := by
  have hl := r.length
  have hi : i < xs.length := by rw [← hl]; exact (List.getElem?_eq_some_iff.mp e).1
  have ex : xs[i]? = some xs[i] := List.getElem?_eq_getElem hi
  obtain ⟨u, e1, e2⟩ := r.get ex
  rw [e] at e1
  cases e1
  exact ⟨_, ex, e2⟩
theorem Reps.append : ∀ {xs ys : List PV} {vs ws : List V}, Reps K bx G xs vs → Reps K bx G ys ws → Reps K bx G (xs ++ ys) (vs ++ ws)
  | [], ys, vs, ws, h, r => by rw [h.nil_inv]; exact r
  | x :: xs, ys, vs, ws, h, r => by
    obtain ⟨v, us, rfl, q, qs⟩ := h.cons_inv
    exact .cons q (qs.append r)
theorem Reps.split : ∀ {xs ys : List PV} {vs : List V}, Reps K bx G (xs ++ ys) vs → ∃ us ws, vs = us ++ ws ∧ Reps K bx G xs us ∧ Reps K bx G ys ws
  | [], ys, vs, h => ⟨[], vs, rfl, .nil, h⟩
  | x :: xs, ys, vs, h => by
    obtain ⟨v, us, rfl, q, qs⟩ := h.cons_inv
    obtain ⟨u1, u2, rfl, r1, r2⟩ := Reps.split qs
    exact ⟨v :: u1, u2, rfl, .cons q r1, r2⟩
theorem Reps.set : ∀ {xs : List PV} {vs : List V} {x : PV} {v : V} (i : Nat), Reps K bx G xs vs → Rep K bx G x v → Reps K bx G (xs.set i x) (vs.set i v)
  | [], vs, x, v, i, h, r => by rw [h.nil_inv]; exact .nil
  | y :: xs, vs, x, v, i, h, r => by
    obtain ⟨w, us, rfl, q, qs⟩ := h.cons_inv
    cases i with
    | zero => exact .cons r qs
    | succ i => exact .cons q (Reps.set i qs r)
theorem Reps.ints : ∀ {ns : List Int} {vs : List V}, Reps K bx G (ns.map .int) vs → vs = ns.map V.int
  | [], vs, h => h.nil_inv
  | n :: ns, vs, h => by
    obtain ⟨v, us, rfl, q, qs⟩ := Reps.cons_inv (xs := ns.map PV.int) h
    simp only [Rep] at q
    rw [q, Reps.ints qs]
    rfl
theorem Reps.ofInts : ∀ (ns : List Int), Reps K bx G (ns.map .int) (ns.map V.int)
  | [] => .nil
  | n :: ns => .cons (by simp only [Rep]) (Reps.ofInts ns)
theorem rep_tup {a : Addr} {xs : List PV} {vs : List V} (h : SqT K G a vs) (r : Reps K bx G xs vs) : Rep K bx G (.tup xs) (.ref a) := by
  simp only [Rep]; exact ⟨a, vs, rfl, h, r⟩
theorem rep_lst {a : Addr} {xs : List PV} {vs : List V} (h : SqL K G a vs) (r : Reps K bx G xs vs) : Rep K bx G (.lst xs) (.ref a) := by
  simp only [Rep]; exact ⟨a, vs, rfl, h, r⟩
theorem rep_int (i : Int) : Rep K bx G (.int i) (.int i) := by simp only [Rep]
theorem rep_bl (i : Bool) : Rep K bx G (.bl i) (.bl i) := by simp only [Rep]
theorem rep_str (i : Str) : Rep K bx G (.str i) (.str i) := by simp only [Rep]
theorem rep_non : Rep K bx G .non .non := by simp only [Rep]
theorem rep_ty (n : String) : Rep K bx G (.ty n) (.ty n) := by simp only [Rep]
theorem Rep.ty_inv {n : String} {v : V} (h : Rep K bx G (.ty n) v) : v = .ty n := by simp only [Rep] at h; exact h
theorem rep_cls (c : Cl) : Rep K bx G (.cls c) (.ref (ca K c)) := by simp only [Rep]
theorem Rep.int_inv {i : Int} {v : V} (h : Rep K bx G (.int i) v) : v = .int i := by simp only [Rep] at h; exact h
theorem Rep.bl_inv {i : Bool} {v : V} (h : Rep K bx G (.bl i) v) : v = .bl i := by simp only [Rep] at h; exact h
theorem Rep.str_inv {i : Str} {v : V} (h : Rep K bx G (.str i) v) : v = .str i := by simp only [Rep] at h; exact h
theorem Rep.non_inv {v : V} (h : Rep K bx G .non v) : v = .non := by simp only [Rep] at h; exact h
theorem Rep.cls_inv {c : Cl} {v : V} (h : Rep K bx G (.cls c) v) : v = .ref (ca K c) := by simp only [Rep] at h; exact h
theorem Rep.tup_inv {xs : List PV} {v : V} (h : Rep K bx G (.tup xs) v) : ∃ a vs, v = .ref a ∧ SqT K G a vs ∧ Reps K bx G xs vs := by simp only [Rep] at h; exact h
theorem Rep.lst_inv {xs : List PV} {v : V} (h : Rep K bx G (.lst xs) v) : ∃ a vs, v = .ref a ∧ SqL K G a vs ∧ Reps K bx G xs vs := by simp only [Rep] at h; exact h
theorem Rep.obj_inv {c : Cl} {xs : List PV} {v : V} (h : Rep K bx G (.obj c xs) v) : ∃ a dx vs, v = .ref a ∧ G a = some (.ins (ca K c) dx (c.flds.zip vs)) ∧ vs.length = c.flds.length ∧ Reps K bx G xs vs := by simp only [Rep] at h; exact h
theorem Rep.box_inv {v : V} (h : Rep K bx G .box v) : ∃ b, bx = some b ∧ v = .ref b := by simp only [Rep] at h; exact h
theorem Rep.exc_inv {a d : Addr} {c : Cl} {xs : List PV} {v : V} (h : Rep K bx G (.exc a d c xs) v) : v = .ref a ∧ (c.flds = [] ∨ ∃ vs, G d = some (.xd (c.flds.zip vs)) ∧ vs.length = c.flds.length ∧ Reps K bx G xs vs) := by simp only [Rep] at h; exact h
end

/-! ## the state of a run: G is what never changes again, F what was there at the entry -/
/-- the box that a law draws from: b the box, c its cells -/
def BoxAt (H : Hp) (b c : Addr) : Prop := b ≠ c ∧ ∃ (ns : List Int) (p st : Int), H b = some (.lst [.ref c, .int p, .int st]) ∧ H c = some (.lst (ns.map V.int)) ∧ 0 ≤ p ∧ 0 ≤ st ∧ st < 2147483647 ∧ ns.length ≤ 63

structure Fx where
  G0 : Hp
  H0 : Hp
  M : Addr → Prop
  bx : Option (Addr × Addr)
abbrev Fx.b (F : Fx) : Option Addr := F.bx.map (·.1)
def Fx.isB (F : Fx) (a : Addr) : Prop := ∃ b c, F.bx = some (b, c) ∧ (a = b ∨ a = c)

structure Ok (F : Fx) (G H : Hp) : Prop where
  keep : ∀ a o, F.H0 a = some o → ¬ F.M a → H a = some o
  dom : ∀ a, H a = none → F.H0 a = none
  gx : Sub F.G0 G
  sub : Sub G H
  new : ∀ a o, G a = some o → F.G0 a = some o ∨ F.H0 a = none
  box : ∀ b c, F.bx = some (b, c) → BoxAt H b c ∧ G b = none ∧ G c = none ∧ F.M b ∧ F.M c

/-- from one state to a later one, by expressions: what is not of the box stays -/
structure Go (F : Fx) (G H G' H' : Hp) : Prop where
  ok : Ok F G' H'
  gx : Sub G G'
  keep : ∀ a o, H a = some o → ¬ F.isB a → H' a = some o
  new : ∀ a o, G' a = some o → G a = some o ∨ H a = none
theorem Go.refl {F : Fx} {G H : Hp} (o : Ok F G H) : Go F G H G H := ⟨o, .refl _, fun _ _ e _ => e, fun _ _ e => .inl e⟩
theorem BoxAt.some1 {H : Hp} {b c : Addr} (h : BoxAt H b c) : ∃ o, H b = some o := by obtain ⟨_, _, _, _, e, _⟩ := h; exact ⟨_, e⟩
theorem BoxAt.some2 {H : Hp} {b c : Addr} (h : BoxAt H b c) : ∃ o, H c = some o := by obtain ⟨_, _, _, _, _, e, _⟩ := h; exact ⟨_, e⟩
theorem Go.back {F : Fx} {G H G' H' : Hp} (g : Go F G H G' H') {a : Addr} (h : H' a = none) : H a = none := by
  cases q : H a with
  | none => rfl
  | some o =>
    have : F.isB a := Classical.byContradiction fun n => by rw [g.keep a o q n] at h; cases h
    obtain ⟨b, c, e, r⟩ := this
    obtain ⟨bt, _⟩ := g.ok.box b c e
    rcases r with rfl | rfl
    · obtain ⟨u, e⟩ := bt.some1; rw [e] at h; cases h
    · obtain ⟨u, e⟩ := bt.some2; rw [e] at h; cases h
theorem Go.trans {F : Fx} {G H G1 H1 G2 H2 : Hp} (x : Go F G H G1 H1) (y : Go F G1 H1 G2 H2) : Go F G H G2 H2 :=
  ⟨y.ok, x.gx.trans y.gx, fun a o e n => y.keep a o (x.keep a o e n) n, fun a o e => by
    rcases y.new a o e with q | q
    · exact x.new a o q
    · exact .inr (x.back q)⟩
/-- a new object that never changes -/
theorem Ok.isB_some {F : Fx} {G H : Hp} (o : Ok F G H) {a : Addr} (h : F.isB a) : ∃ u, H a = some u := by
  obtain ⟨b, c, e, r⟩ := h
  obtain ⟨bt, _⟩ := o.box b c e
  rcases r with rfl | rfl
  · exact bt.some1
  · exact bt.some2
theorem BoxAt.same {H H' : Hp} {b c : Addr} (h : BoxAt H b c) (k : ∀ a o, H a = some o → (a = b ∨ a = c) → H' a = some o) : BoxAt H' b c := by
  obtain ⟨n, ns, p, st, e1, e2, r⟩ := h
  exact ⟨n, ns, p, st, k _ _ e1 (.inl rfl), k _ _ e2 (.inr rfl), r⟩
theorem Ok.new1 {F : Fx} {G H : Hp} (o : Ok F G H) {p : Addr} {u : HO} (h : H p = none) : Go F G H (upd G p u) (upd H p u) := by
  have hg : G p = none := o.sub.free h
  have h0 : F.H0 p = none := o.dom p h
  refine ⟨⟨fun a x e n => ?_, fun a e => ?_, fun a x e => ?_, o.sub.upd2 p u, fun a x e => ?_, fun b c e => ?_⟩, .upd hg, fun a x e _ => ?_, fun a x e => ?_⟩
  · rw [upd_ne (ne_of_none e h0)]; exact o.keep a x e n
  · by_cases z : a = p
    · subst z; rw [upd_same] at e; cases e
    · rw [upd_ne z] at e; exact o.dom a e
  · have := o.gx a x e
    rw [upd_ne (ne_of_none this hg)]; exact this
  · by_cases z : a = p
    · subst z; exact .inr h0
    · rw [upd_ne z] at e; exact o.new a x e
  · obtain ⟨bt, gb, gc, mb, mc⟩ := o.box b c e
    obtain ⟨u1, e1⟩ := bt.some1
    obtain ⟨u2, e2⟩ := bt.some2
    have n1 : b ≠ p := ne_of_none e1 h
    have n2 : c ≠ p := ne_of_none e2 h
    refine ⟨bt.same fun a x q r => ?_, ?_, ?_, mb, mc⟩
    · rw [upd_ne (ne_of_none q h)]; exact q
    · rw [upd_ne n1]; exact gb
    · rw [upd_ne n2]; exact gc
  · rw [upd_ne (ne_of_none e h)]; exact e
  · by_cases z : a = p
    · subst z; exact .inr h
    · rw [upd_ne z] at e; exact .inl e

/-! ## slots: a value; a list or an object that this frame alone holds -/
inductive Slot where
  | val (x : PV)
  | ownL (xs : List PV)
  | ownO (me : Bool) (c : Cl) (fs : List (Str × PV))
abbrev En := List (Option Slot)
def Slot.own : Slot → V → Option Addr
  | .val _, _ => none
  | _, .ref a => some a
  | _, _ => none
def FRep (K : Frg) (bx : Option Addr) (G : Hp) (fs : List (Str × PV)) (ws : List (Str × V)) : Prop := Paired (fun (p : Str × PV) (q : Str × V) => p.1 = q.1 ∧ Rep K bx G p.2 q.2) fs ws
def SlotOk (K : Frg) (F : Fx) (G H : Hp) : Slot → V → Prop
  | .val x, v => Rep K F.b G x v
  | .ownL xs, v => ∃ l vs, v = .ref l ∧ G l = none ∧ ¬ F.isB l ∧ H l = some (.lst vs) ∧ Reps K F.b G xs vs ∧ F.H0 l = none
  | .ownO me c fs, v => ∃ a dx ws, v = .ref a ∧ G a = none ∧ ¬ F.isB a ∧ H a = some (.ins (ca K c) dx ws) ∧ FRep K F.b G fs ws ∧ (if me = true then F.M a else F.H0 a = none)
structure Rel (K : Frg) (F : Fx) (ρ : En) (σ : L2.St) (G H : Hp) : Prop where
  ok : Ok F G H
  len : σ.length = ρ.length
  at_ : ∀ (i : Nat) (s : Slot), ρ[i]? = some (some s) → ∃ v, σ[i]? = some (some v) ∧ SlotOk K F G H s v
  inj : ∀ (i j : Nat) (s t : Slot) (v u : V) (a : Addr), ρ[i]? = some (some s) → ρ[j]? = some (some t) → σ[i]? = some (some v) → σ[j]? = some (some u) → s.own v = some a → t.own u = some a → i = j
theorem FRep.mono {K : Frg} {bx : Option Addr} {G H : Hp} (s : Sub G H) {fs : List (Str × PV)} {ws : List (Str × V)} (h : FRep K bx G fs ws) : FRep K bx H fs ws := Paired.mapP h fun _ _ z => ⟨z.1, z.2.mono s⟩
theorem SlotOk.go {K : Frg} {F : Fx} {G H G' H' : Hp} (g : Go F G H G' H') : ∀ {s : Slot} {v : V}, SlotOk K F G H s v → SlotOk K F G' H' s v
  | .val x, v, h => Rep.mono g.gx h
  | .ownL xs, v, h => by
    obtain ⟨l, vs, e, gl, nb, hl, r, m⟩ := h
    refine ⟨l, vs, e, ?_, nb, g.keep _ _ hl nb, r.mono g.gx, m⟩
    cases q : G' l with
    | none => rfl
    | some o => rcases g.new l o q with z | z
                · rw [gl] at z; cases z
                · rw [hl] at z; cases z
  | .ownO me c fs, v, h => by
    obtain ⟨l, dx, vs, e, gl, nb, hl, r, m⟩ := h
    refine ⟨l, dx, vs, e, ?_, nb, g.keep _ _ hl nb, r.mono g.gx, m⟩
    cases q : G' l with
    | none => rfl
    | some o => rcases g.new l o q with z | z
                · rw [gl] at z; cases z
                · rw [hl] at z; cases z
theorem Rel.go {K : Frg} {F : Fx} {ρ : En} {σ : L2.St} {G H G' H' : Hp} (r : Rel K F ρ σ G H) (g : Go F G H G' H') : Rel K F ρ σ G' H' :=
  ⟨g.ok, r.len, fun i s e => by obtain ⟨v, e1, e2⟩ := r.at_ i s e; exact ⟨v, e1, e2.go g⟩, r.inj⟩
/-- a slot gets a value -/
theorem Rel.set {K : Frg} {F : Fx} {ρ : En} {σ : L2.St} {G H : Hp} {x : PV} {v : V} (i : Nat) (r : Rel K F ρ σ G H) (h : Rep K F.b G x v) : Rel K F (ρ.set i (some (.val x))) (σ.set i (some v)) G H := by
  refine ⟨r.ok, by rw [List.length_set, List.length_set]; exact r.len, fun j s e => ?_, fun j k s t v' u a e1 e2 e3 e4 o1 o2 => ?_⟩
  · by_cases hj : i = j
    · subst hj
      have hi : i < ρ.length := by
        by_cases z : i < ρ.length
        · exact z
        · rw [List.getElem?_eq_none (by simpa using z)] at e; cases e
      rw [List.getElem?_set_self hi] at e
      cases e
      exact ⟨v, List.getElem?_set_self (by rw [r.len]; exact hi), h⟩
    · rw [List.getElem?_set_ne hj] at e ⊢
      exact r.at_ j s e
  · by_cases hj : i = j
    · subst hj
      by_cases hi : i < ρ.length
      · rw [List.getElem?_set_self hi] at e1
        cases e1
        cases o1
      · rw [List.getElem?_eq_none (by simpa using hi)] at e1; cases e1
    · by_cases hk : i = k
      · subst hk
        by_cases hi : i < ρ.length
        · rw [List.getElem?_set_self hi] at e2
          cases e2
          cases o2
        · rw [List.getElem?_eq_none (by simpa using hi)] at e2; cases e2
      · rw [List.getElem?_set_ne hj] at e1 e3
        rw [List.getElem?_set_ne hk] at e2 e4
        exact r.inj j k s t v' u a e1 e2 e3 e4 o1 o2
/-- forgetting -/
theorem Rel.weak {K : Frg} {F : Fx} {ρ ρ' : En} {σ σ' : L2.St} {G H : Hp} (r : Rel K F ρ σ G H) (l : σ'.length = ρ'.length) (h : ∀ (i : Nat) (s : Slot), ρ'[i]? = some (some s) → ρ[i]? = some (some s) ∧ σ'[i]? = σ[i]?) : Rel K F ρ' σ' G H :=
  ⟨r.ok, l, fun i s e => by obtain ⟨e1, e2⟩ := h i s e; rw [e2]; exact r.at_ i s e1, fun i j s t v u a e1 e2 e3 e4 => by
    obtain ⟨p1, p2⟩ := h i s e1
    obtain ⟨q1, q2⟩ := h j t e2
    rw [p2] at e3
    rw [q2] at e4
    exact r.inj i j s t v u a p1 q1 e3 e4⟩
end Pw
namespace Pw
open PySem PySem.Spec PyProof.Rows L2

/-! ## what an expression means: a wish of its value, a wish of what it raises -/
abbrev XV := Cl × List PV
abbrev DE := En → (PV → Prop) → (XV → Prop) → Prop
abbrev DA := En → (List PV → Prop) → (XV → Prop) → Prop
abbrev DT := En → (Bool → Prop) → (XV → Prop) → Prop
def XRep (K : Frg) (bx : Option Addr) (G : Hp) (xv : XV) (d : Option Addr) : Prop :=
  (xv.1.flds = [] ∧ xv.2 = [] ∧ d = none) ∨ ∃ dd vs, d = some dd ∧ G dd = some (.xd (xv.1.flds.zip vs)) ∧ vs.length = xv.1.flds.length ∧ Reps K bx G xv.2 vs
def GoodV (K : Frg) (F : Fx) (G H : Hp) (q : PV → Prop) (Q : VK) : Prop := ∀ p v G' H', q p → Go F G H G' H' → Rep K F.b G' p v → Q v H'
def GoodX (K : Frg) (W : WX) (F : Fx) (G H : Hp) (σ : L2.St) (x : XV → Prop) : Prop := ∀ xv d G' H', x xv → Go F G H G' H' → XRep K F.b G' xv d → W (.ref (ca K xv.1)) d σ H'
def GoodB (F : Fx) (G H : Hp) (q : Bool → Prop) (Q : Bool → Hp → Prop) : Prop := ∀ b G' H', q b → Go F G H G' H' → Q b H'
def GoodA (K : Frg) (F : Fx) (G H : Hp) (q : List PV → Prop) (Q : List V → Hp → Prop) : Prop := ∀ ps vs G' H', q ps → Go F G H G' H' → Reps K F.b G' ps vs → Q vs H'
section
variable {K : Frg} {W : WX} {F : Fx} {G H G1 H1 : Hp} {σ : L2.St}
theorem GoodV.go {q : PV → Prop} {Q : VK} (h : GoodV K F G H q Q) (g : Go F G H G1 H1) : GoodV K F G1 H1 q Q := fun p v G' H' hp g' r => h p v G' H' hp (g.trans g') r
theorem GoodX.go {x : XV → Prop} (h : GoodX K W F G H σ x) (g : Go F G H G1 H1) : GoodX K W F G1 H1 σ x := fun p v G' H' hp g' r => h p v G' H' hp (g.trans g') r
theorem GoodB.go {q : Bool → Prop} {Q : Bool → Hp → Prop} (h : GoodB F G H q Q) (g : Go F G H G1 H1) : GoodB F G1 H1 q Q := fun b G' H' hb g' => h b G' H' hb (g.trans g')
theorem GoodA.go {q : List PV → Prop} {Q : List V → Hp → Prop} (h : GoodA K F G H q Q) (g : Go F G H G1 H1) : GoodA K F G1 H1 q Q := fun p v G' H' hp g' r => h p v G' H' hp (g.trans g') r
end
def tE (K : Frg) (W : WX) (d : DE) : TE := fun σ H Q => ∃ (F : Fx) (ρ : En) (G : Hp) (q : PV → Prop) (x : XV → Prop), Rel K F ρ σ G H ∧ d ρ q x ∧ GoodV K F G H q Q ∧ GoodX K W F G H σ x
def tA (K : Frg) (W : WX) (d : DA) : TA := fun σ H Q => ∃ (F : Fx) (ρ : En) (G : Hp) (q : List PV → Prop) (x : XV → Prop), Rel K F ρ σ G H ∧ d ρ q x ∧ GoodA K F G H q Q ∧ GoodX K W F G H σ x
def tT (K : Frg) (W : WX) (d : DT) : TT := fun σ H Q => ∃ (F : Fx) (ρ : En) (G : Hp) (q : Bool → Prop) (x : XV → Prop), Rel K F ρ σ G H ∧ d ρ q x ∧ GoodB F G H q Q ∧ GoodX K W F G H σ x
abbrev EJ (X : Cx) (W : WX) (e : Expr) (d : DE) : Prop := PE X e (tE X.K W d)
abbrev AJ (X : Cx) (W : WX) (es : List Expr) (d : DA) : Prop := PA X es (tA X.K W d)
abbrev TJ (X : Cx) (W : WX) (e : Expr) (d : DT) : Prop := PT X e (tT X.K W d)
abbrev WJ (X : Cx) (W : WX) (e : Expr) (d : DT) : Prop := PW X e (tT X.K W d)

theorem pe_imp {X : Cx} {e : Expr} {t t' : TE} (h : PE X e t) (i : ∀ σ H Q, t' σ H Q → t σ H Q) : PE X e t' := ⟨fun pins s σ H Q J z => h.run pins s σ H Q J (i σ H Q z)⟩
theorem pt_imp {X : Cx} {e : Expr} {t t' : TT} (h : PT X e t) (i : ∀ σ H Q, t' σ H Q → t σ H Q) : PT X e t' := ⟨fun pins s σ H Q J z => h.run pins s σ H Q J (i σ H Q z)⟩
theorem pw_imp {X : Cx} {e : Expr} {t t' : TT} (h : PW X e t) (i : ∀ σ H Q, t' σ H Q → t σ H Q) : PW X e t' := ⟨fun wh pins s σ H Q J z => h.run wh pins s σ H Q J (i σ H Q z)⟩
theorem pa_imp {X : Cx} {es : List Expr} {t t' : TA} (h : PA X es t) (i : ∀ σ H Q, t' σ H Q → t σ H Q) : PA X es t' := ⟨fun pos pins s σ H Q J z => h.run pos pins s σ H Q J (i σ H Q z)⟩

/-! ## names, constants -/
def dVar (i : Nat) : DE := fun ρ q _ => ∃ x, ρ[i]? = some (some (.val x)) ∧ q x
def dC (p : PV) : DE := fun _ q _ => q p
section
variable {X : Cx} {W : WX} {pos : Pos}
theorem e_var (i : Nat) {x : Str} (hN : X.N[i]? = some x := by rfl) (hv : Vis X.env.scope x := by first | exact Or.inl rfl | exact Or.inr (Or.inl rfl) | exact Or.inr (Or.inr rfl)) (h1 : (x == ("__debug__" : Str)) = false := by decide) (h2 : (x == ("__classdict__" : Str)) = false := by decide) :
    EJ X W (.Name x pos) (dVar i) := pe_imp (pe_var hN hv h1 h2) fun σ H Q ⟨F, ρ, G, q, z, R, ⟨p, e, hp⟩, gv, gx⟩ => by
  obtain ⟨v, e1, r⟩ := R.at_ i _ e
  exact ⟨v, e1, gv p v G H hp (.refl R.ok) r⟩
theorem e_c {e : Expr} {v : V} {p : PV} (h : PE X e (tC v)) (r : ∀ bx G, Rep X.K bx G p v) : EJ X W e (dC p) := pe_imp h fun σ H Q ⟨F, ρ, G, q, z, R, hp, gv, gx⟩ => gv p v G H hp (.refl R.ok) (r _ _)
theorem e_int {i : Int} {j : Nat} : EJ X W (.Constant (.int i) j pos) (dC (.int i)) := e_c pe_int fun _ _ => rep_int i
theorem e_bl {i : Bool} {j : Nat} : EJ X W (.Constant (.bool i) j pos) (dC (.bl i)) := e_c pe_bl fun _ _ => rep_bl i
theorem e_non {j : Nat} : EJ X W (.Constant .none j pos) (dC .non) := e_c pe_non fun _ _ => rep_non
theorem e_str {i : Str} {j : Nat} : EJ X W (.Constant (.str i) j pos) (dC (.str i)) := e_c pe_str fun _ _ => rep_str i
/-- a class of the module, as a value -/
theorem e_cls (c : Cl) (hm : X.mg c.name = some (.ref (ca X.K c))) (hg : Gl X c.name := by rfl) (h1 : (c.name == ("__debug__" : Str)) = false := by decide) : EJ X W (.Name c.name pos) (dC (.cls c)) := e_c (pe_glob hg hm (show RelV (.ref (ca X.K c)) _ from rfl) h1) fun _ _ => rep_cls c
/-- a module's constant -/
theorem e_glob {x : Str} {v : V} {u : Value} {p : PV} (hm : X.mg x = some u) (hr : RelV v u) (r : ∀ bx G, Rep X.K bx G p v) (hg : Gl X x := by rfl) (h1 : (x == ("__debug__" : Str)) = false := by decide) : EJ X W (.Name x pos) (dC p) := e_c (pe_glob hg hm hr h1) r
end

/-! ## operators -/
def dOp (f : PV → PV → (PV → Prop) → Prop) (da db : DE) : DE := fun ρ q x => da ρ (fun a => db ρ (fun b => f a b q) x) x
def dUn (f : PV → (PV → Prop) → Prop) (da : DE) : DE := fun ρ q x => da ρ (fun a => f a q) x
/-- f tells what the reading r asks -/
def POp (K : Frg) (r : R2) (f : PV → PV → (PV → Prop) → Prop) : Prop := ∀ (F : Fx) (G H : Hp) (a b : PV) (va vb : V) (q : PV → Prop) (Q : VK), Ok F G H → Rep K F.b G a va → Rep K F.b G b vb → f a b q → GoodV K F G H q Q → r va vb H Q
def PUn (K : Frg) (r : V → Hp → VK → Prop) (f : PV → (PV → Prop) → Prop) : Prop := ∀ (F : Fx) (G H : Hp) (a : PV) (va : V) (q : PV → Prop) (Q : VK), Ok F G H → Rep K F.b G a va → f a q → GoodV K F G H q Q → r va H Q
theorem POp.or {K : Frg} {r r' : R2} {f f' : PV → PV → (PV → Prop) → Prop} (h : POp K r f) (h' : POp K r' f') : POp K (fun x y H Q => r x y H Q ∨ r' x y H Q) (fun a b q => f a b q ∨ f' a b q) := fun F G H a b va vb q Q o ra rb hf gv =>
  hf.elim (fun z => .inl (h F G H a b va vb q Q o ra rb z gv)) fun z => .inr (h' F G H a b va vb q Q o ra rb z gv)
theorem top_of {K : Frg} {W : WX} {r : R2} {f : PV → PV → (PV → Prop) → Prop} {da db : DE} (hp : POp K r f) {σ : L2.St} {H : Hp} {Q : VK} (h : tE K W (dOp f da db) σ H Q) : tOp r (tE K W da) (tE K W db) σ H Q := by
  obtain ⟨F, ρ, G, q, x, R, h, gv, gx⟩ := h
  exact ⟨F, ρ, G, _, x, R, h, fun p v G1 H1 h1 g1 r1 => ⟨F, ρ, G1, _, x, R.go g1, h1, fun p2 v2 G2 H2 h2 g2 r2 => hp F G2 H2 p p2 v v2 q Q g2.ok (r1.mono g2.gx) r2 h2 (gv.go (g1.trans g2)), gx.go g1⟩, gx⟩
section
variable {X : Cx} {W : WX} {pos : Pos} {a b : Expr} {da db : DE} {r : R2} {f : PV → PV → (PV → Prop) → Prop}
theorem e_op {op : Operator} (ho : OpR X (binaryOp op) r) (hp : POp X.K r f) (ha : EJ X W a da) (hb : EJ X W b db) : EJ X W (.BinOp a op b pos) (dOp f da db) := pe_imp (pe_op ho ha hb) fun _ _ _ h => top_of hp h
theorem e_cmp {op : CmpOp} (ho : OpR X (compareOp op) r) (hp : POp X.K r f) (ha : EJ X W a da) (hb : EJ X W b db) (hm : behindInMarks op b = false := by rfl) : EJ X W (.Compare a [op] [b] pos) (dOp f da db) := pe_imp (pe_cmpR ho ha hb hm) fun _ _ _ h => top_of hp h
theorem e_un {op : UnaryOp} {r : V → Hp → VK → Prop} {f : PV → (PV → Prop) → Prop} (ho : UnR X (unaryOp op) r) (hp : PUn X.K r f) (ha : EJ X W a da) : EJ X W (.UnaryOp op a pos) (dUn f da) := pe_imp (pe_un ho ha) fun σ H Q ⟨F, ρ, G, q, x, R, h, gv, gx⟩ =>
  ⟨F, ρ, G, _, x, R, h, fun p v G1 H1 h1 g1 r1 => hp F G1 H1 p v q Q g1.ok r1 h1 (gv.go g1), gx⟩
/-- a value that is True or False, as a test -/
def dB (d : DE) : DT := fun ρ q x => d ρ (fun p => ∃ b, p = .bl b ∧ q b) x
theorem tb_of {K : Frg} {t : TE} {d : DE} {σ : L2.St} {H : Hp} {Q : Bool → Hp → Prop} (ht : ∀ σ H Q, tE K W d σ H Q → t σ H Q) (h : tT K W (dB d) σ H Q) : t σ H fun x H' => ∃ k, x = .bl k ∧ Q k H' := by
  obtain ⟨F, ρ, G, q, x, R, h, gv, gx⟩ := h
  refine ht _ _ _ ⟨F, ρ, G, _, x, R, h, fun p v G1 H1 h1 g1 r1 => ?_, gx⟩
  obtain ⟨b, rfl, hb⟩ := h1
  exact ⟨b, r1.bl_inv, gv b G1 H1 hb g1⟩
theorem t_cmp {op : CmpOp} (ho : OpR X (compareOp op) r) (hp : POp X.K r f) (ha : EJ X W a da) (hb : EJ X W b db) (hm : behindInMarks op b = false := by rfl) : TJ X W (.Compare a [op] [b] pos) (dB (dOp f da db)) := pt_imp (pt_cmpR ho ha hb hm) fun _ _ _ h => tb_of (fun _ _ _ z => top_of hp z) h
theorem t_val (ha : EJ X W a da) (he : ∀ whole, isTrue a X.env whole = (do let v ← whole; standAt a.pos; holding [v] (truthy v)) := by intro _; rfl) : TJ X W a (dB da) := pt_imp (pt_val ha he) fun _ _ _ h => tb_of (fun _ _ _ z => z) h
def dAnd (t u : DT) : DT := fun ρ q x => t ρ (fun b => if b = true then u ρ q x else q false) x
def dOr (t u : DT) : DT := fun ρ q x => t ρ (fun b => if b = true then q true else u ρ q x) x
def dNot (t : DT) : DT := fun ρ q x => t ρ (fun b => q (!b)) x
variable {ta tb : DT} {rest : List Expr}
theorem w_and1 (ha : TJ X W a ta) : WJ X W (.BoolOp .And [a] pos) ta := pw_and1 ha
theorem w_or1 (ha : TJ X W a ta) : WJ X W (.BoolOp .Or [a] pos) ta := pw_or1 ha
theorem w_and (ha : TJ X W a ta) (hb : WJ X W (.BoolOp .And (b :: rest) pos) tb) : WJ X W (.BoolOp .And (a :: b :: rest) pos) (dAnd ta tb) := pw_imp (pw_and ha hb) fun σ H Q ⟨F, ρ, G, q, x, R, h, gv, gx⟩ =>
  ⟨F, ρ, G, _, x, R, h, fun c G1 H1 h1 g1 => by
    cases c with
    | true => exact ⟨F, ρ, G1, q, x, R.go g1, h1, gv.go g1, gx.go g1⟩
    | false => exact gv _ _ _ h1 g1, gx⟩
theorem w_or (ha : TJ X W a ta) (hb : WJ X W (.BoolOp .Or (b :: rest) pos) tb) : WJ X W (.BoolOp .Or (a :: b :: rest) pos) (dOr ta tb) := pw_imp (pw_or ha hb) fun σ H Q ⟨F, ρ, G, q, x, R, h, gv, gx⟩ =>
  ⟨F, ρ, G, _, x, R, h, fun c G1 H1 h1 g1 => by
    cases c with
    | true => exact gv _ _ _ h1 g1
    | false => exact ⟨F, ρ, G1, q, x, R.go g1, h1, gv.go g1, gx.go g1⟩, gx⟩
theorem t_w (h : WJ X W a ta) : TJ X W a ta := h.pt
theorem t_not (ha : TJ X W a ta) : TJ X W (.UnaryOp .Not a pos) (dNot ta) := pt_imp (pt_not ha) fun σ H Q ⟨F, ρ, G, q, x, R, h, gv, gx⟩ => ⟨F, ρ, G, _, x, R, h, fun c G1 H1 h1 g1 => gv _ _ _ h1 g1, gx⟩
def dAndV (da db : DE) : DE := fun ρ q x => da ρ (fun p => ∃ b, p = .bl b ∧ if b = true then db ρ q x else q (.bl false)) x
def dOrV (da db : DE) : DE := fun ρ q x => da ρ (fun p => ∃ b, p = .bl b ∧ if b = true then q (.bl true) else db ρ q x) x
def dNotV (da : DE) : DE := fun ρ q x => da ρ (fun p => ∃ b, p = .bl b ∧ q (.bl (!b))) x
theorem e_one {op : BoolOp} (h : EJ X W a da) : EJ X W (.BoolOp op [a] pos) da := pe_one h
theorem e_and (ha : EJ X W a da) (hb : EJ X W (.BoolOp .And (b :: rest) pos) db) : EJ X W (.BoolOp .And (a :: b :: rest) pos) (dAndV da db) := pe_imp (pe_and ha hb) fun σ H Q ⟨F, ρ, G, q, x, R, h, gv, gx⟩ =>
  ⟨F, ρ, G, _, x, R, h, fun p v G1 H1 ⟨c, e, h1⟩ g1 r1 => by
    subst e
    refine ⟨c, r1.bl_inv, ?_⟩
    cases c with
    | true => exact ⟨F, ρ, G1, q, x, R.go g1, h1, gv.go g1, gx.go g1⟩
    | false => exact gv _ _ _ _ h1 g1 (rep_bl _), gx⟩
theorem e_or (ha : EJ X W a da) (hb : EJ X W (.BoolOp .Or (b :: rest) pos) db) : EJ X W (.BoolOp .Or (a :: b :: rest) pos) (dOrV da db) := pe_imp (pe_or ha hb) fun σ H Q ⟨F, ρ, G, q, x, R, h, gv, gx⟩ =>
  ⟨F, ρ, G, _, x, R, h, fun p v G1 H1 ⟨c, e, h1⟩ g1 r1 => by
    subst e
    refine ⟨c, r1.bl_inv, ?_⟩
    cases c with
    | true => exact gv _ _ _ _ h1 g1 (rep_bl _)
    | false => exact ⟨F, ρ, G1, q, x, R.go g1, h1, gv.go g1, gx.go g1⟩, gx⟩
theorem e_not (ha : EJ X W a da) : EJ X W (.UnaryOp .Not a pos) (dNotV da) := pe_imp (pe_not ha) fun σ H Q ⟨F, ρ, G, q, x, R, h, gv, gx⟩ =>
  ⟨F, ρ, G, _, x, R, h, fun p v G1 H1 ⟨c, e, h1⟩ g1 r1 => by
    subst e
    exact ⟨c, r1.bl_inv, gv _ _ _ _ h1 g1 (rep_bl _)⟩, gx⟩
def dIf (t : DT) (da db : DE) : DE := fun ρ q x => t ρ (fun b => if b = true then da ρ q x else db ρ q x) x
theorem e_if {c : Expr} (hc : TJ X W c ta) (ha : EJ X W a da) (hb : EJ X W b db) : EJ X W (.IfExp c a b pos) (dIf ta da db) := pe_imp (pe_ifExp hc ha hb) fun σ H Q ⟨F, ρ, G, q, x, R, h, gv, gx⟩ =>
  ⟨F, ρ, G, _, x, R, h, fun c G1 H1 h1 g1 => by
    cases c with
    | true => exact ⟨F, ρ, G1, q, x, R.go g1, h1, gv.go g1, gx.go g1⟩
    | false => exact ⟨F, ρ, G1, q, x, R.go g1, h1, gv.go g1, gx.go g1⟩, gx⟩
/-- a < b < c -/
def dChain (f g : PV → PV → (PV → Prop) → Prop) (da db dc : DE) : DE := fun ρ q x => da ρ (fun a => db ρ (fun b => f a b fun z => ∃ k, z = .bl k ∧ if k = true then dc ρ (fun c => g b c q) x else q (.bl false)) x) x
end

/-! ## the operators' meanings -/
def fI (g : Int → Int → PV) : PV → PV → (PV → Prop) → Prop
  | .int i, .int j, q => q (g i j)
  | _, _, _ => False
def fIC (C : Int → Int → Prop) (g : Int → Int → PV) : PV → PV → (PV → Prop) → Prop
  | .int i, .int j, q => C i j ∧ q (g i j)
  | _, _, _ => False
theorem fI_inv {g : Int → Int → PV} {a b : PV} {q : PV → Prop} (h : fI g a b q) : ∃ i j, a = .int i ∧ b = .int j ∧ q (g i j) := by
  cases a <;> cases b <;> first | exact h.elim | exact ⟨_, _, rfl, rfl, h⟩
theorem fIC_inv {C : Int → Int → Prop} {g : Int → Int → PV} {a b : PV} {q : PV → Prop} (h : fIC C g a b q) : ∃ i j, a = .int i ∧ b = .int j ∧ C i j ∧ q (g i j) := by
  cases a <;> cases b <;> first | exact h.elim | exact ⟨_, _, rfl, rfl, h⟩
theorem pop_I {K : Frg} (g : Int → Int → Int) : POp K (rI0 fun i j => .int (g i j)) (fI fun i j => .int (g i j)) := fun F G H a b va vb q Q o ra rb h gv => by
  obtain ⟨i, j, rfl, rfl, hq⟩ := fI_inv h
  exact ⟨i, j, ra.int_inv, rb.int_inv, gv _ _ _ _ hq (.refl o) (rep_int _)⟩
theorem pop_IC {K : Frg} {C : Int → Int → Prop} (g : Int → Int → Int) : POp K (rI C fun i j => .int (g i j)) (fIC C fun i j => .int (g i j)) := fun F G H a b va vb q Q o ra rb h gv => by
  obtain ⟨i, j, rfl, rfl, hc, hq⟩ := fIC_inv h
  exact ⟨i, j, ra.int_inv, rb.int_inv, hc, gv _ _ _ _ hq (.refl o) (rep_int _)⟩
theorem pop_IB {K : Frg} (g : Int → Int → Bool) : POp K (rI0 fun i j => .bl (g i j)) (fI fun i j => .bl (g i j)) := fun F G H a b va vb q Q o ra rb h gv => by
  obtain ⟨i, j, rfl, rfl, hq⟩ := fI_inv h
  exact ⟨i, j, ra.int_inv, rb.int_inv, gv _ _ _ _ hq (.refl o) (rep_bl _)⟩
section
variable {X : Cx} {W : WX} {pos : Pos} {a b : Expr} {da db : DE}
abbrev fAddI := fI fun i j => .int (i + j)
abbrev fSubI := fI fun i j => .int (i - j)
abbrev fAndI := fI fun i j => .int (Builtin.bitAnd i j)
abbrev fOrI := fI fun i j => .int (Builtin.bitOr i j)
abbrev fXorI := fI fun i j => .int (Builtin.bitXor i j)
abbrev fMulI := fIC CMul fun i j => .int (i * j)
abbrev fModI := fIC (fun _ j => 0 < j) fun i j => .int (i % j)
abbrev fDivI := fIC CDiv fun i j => .int (i / j)
abbrev fPowI := fIC CPow fun i j => .int (i ^ j.toNat)
abbrev fShlI := fIC CPow fun i j => .int (i * 2 ^ j.toNat)
abbrev fShrI := fIC (fun _ j => 0 ≤ j) fun i j => .int (i / 2 ^ j.toNat)
theorem e_addI (ha : EJ X W a da) (hb : EJ X W b db) : EJ X W (.BinOp a .Add b pos) (dOp fAddI da db) := e_op op_add (pop_I _) ha hb
theorem e_subI (ha : EJ X W a da) (hb : EJ X W b db) : EJ X W (.BinOp a .Sub b pos) (dOp fSubI da db) := e_op op_sub (pop_I _) ha hb
theorem e_mulI (ha : EJ X W a da) (hb : EJ X W b db) : EJ X W (.BinOp a .Mult b pos) (dOp fMulI da db) := e_op op_mul (pop_IC _) ha hb
theorem e_modI (ha : EJ X W a da) (hb : EJ X W b db) : EJ X W (.BinOp a .Mod b pos) (dOp fModI da db) := e_op op_mod (pop_IC _) ha hb
theorem e_divI (ha : EJ X W a da) (hb : EJ X W b db) : EJ X W (.BinOp a .FloorDiv b pos) (dOp fDivI da db) := e_op op_fdiv (pop_IC _) ha hb
theorem e_powI (ha : EJ X W a da) (hb : EJ X W b db) : EJ X W (.BinOp a .Pow b pos) (dOp fPowI da db) := e_op op_pow (pop_IC _) ha hb
theorem e_shlI (ha : EJ X W a da) (hb : EJ X W b db) : EJ X W (.BinOp a .LShift b pos) (dOp fShlI da db) := e_op op_shl (pop_IC _) ha hb
theorem e_shrI (ha : EJ X W a da) (hb : EJ X W b db) : EJ X W (.BinOp a .RShift b pos) (dOp fShrI da db) := e_op op_shr (pop_IC _) ha hb
theorem e_andI (ha : EJ X W a da) (hb : EJ X W b db) : EJ X W (.BinOp a .BitAnd b pos) (dOp fAndI da db) := e_op op_and (pop_I _) ha hb
theorem e_orI (ha : EJ X W a da) (hb : EJ X W b db) : EJ X W (.BinOp a .BitOr b pos) (dOp fOrI da db) := e_op op_or (pop_I _) ha hb
theorem e_xorI (ha : EJ X W a da) (hb : EJ X W b db) : EJ X W (.BinOp a .BitXor b pos) (dOp fXorI da db) := e_op op_xor (pop_I _) ha hb
def fNeg : PV → (PV → Prop) → Prop
  | .int i, q => q (.int (-i))
  | _, _ => False
theorem e_neg (ha : EJ X W a da) : EJ X W (.UnaryOp .USub a pos) (dUn fNeg da) := e_un un_neg (fun F G H a va q Q o ra h gv => by
  cases a <;> first | exact h.elim | exact ⟨_, ra.int_inv, gv _ _ _ _ h (.refl o) (rep_int _)⟩) ha
/-! comparisons -/
abbrev fLt := fI fun i j => .bl (decide (i < j))
abbrev fLe := fI fun i j => .bl (decide (i ≤ j))
abbrev fGt := fI fun i j => .bl (decide (j < i))
abbrev fGe := fI fun i j => .bl (decide (j ≤ i))
/-- == of plain values: None, bools, ints, texts -/
def eqS : PV → PV → Option Bool
  | .int i, .int j => some (decide (i = j))
  | .str i, .str j => some (decide (i = j))
  | .bl i, .bl j => some (decide (i = j))
  | _, _ => none
def fEqS : PV → PV → (PV → Prop) → Prop := fun a b q => ∃ k, eqS a b = some k ∧ q (.bl k)
def fNeS : PV → PV → (PV → Prop) → Prop := fun a b q => ∃ k, eqS a b = some k ∧ q (.bl (!k))
theorem eqS_ok {K : Frg} {bx : Option Addr} {G : Hp} {a b : PV} {va vb : V} {k : Bool} (h : eqS a b = some k) (ra : Rep K bx G a va) (rb : Rep K bx G b vb) : scal va vb = true ∧ decide (va = vb) = k := by
  cases a <;> cases b <;> simp only [eqS] at h <;> try contradiction
  · rw [ra.bl_inv, rb.bl_inv]; cases h; exact ⟨rfl, by simp⟩
  · rw [ra.int_inv, rb.int_inv]; cases h; exact ⟨rfl, by simp⟩
  · rw [ra.str_inv, rb.str_inv]; cases h; exact ⟨rfl, by simp⟩
theorem pop_eq {K : Frg} : POp K rEq fEqS := fun F G H a b va vb q Q o ra rb ⟨k, e, hq⟩ gv => by
  obtain ⟨e1, e2⟩ := eqS_ok e ra rb
  exact ⟨e1, by rw [e2]; exact gv _ _ _ _ hq (.refl o) (rep_bl _)⟩
theorem pop_ne {K : Frg} : POp K rNe fNeS := fun F G H a b va vb q Q o ra rb ⟨k, e, hq⟩ gv => by
  obtain ⟨e1, e2⟩ := eqS_ok e ra rb
  exact ⟨e1, by rw [e2]; exact gv _ _ _ _ hq (.refl o) (rep_bl _)⟩
def isNone : PV → Bool
  | .non => true
  | _ => false
theorem isNone_ok {K : Frg} {bx : Option Addr} {G : Hp} {a : PV} {va : V} (ra : Rep K bx G a va) : decide (va = .non) = isNone a := by
  cases a with
  | non => rw [ra.non_inv]; rfl
  | bl b => rw [ra.bl_inv]; rfl
  | int b => rw [ra.int_inv]; rfl
  | str b => rw [ra.str_inv]; rfl
  | tup xs => obtain ⟨p, vs, rfl, _⟩ := ra.tup_inv; rfl
  | lst xs => obtain ⟨p, vs, rfl, _⟩ := ra.lst_inv; rfl
  | obj c xs => obtain ⟨p, dx, vs, rfl, _⟩ := ra.obj_inv; rfl
  | cls c => rw [ra.cls_inv]; rfl
  | ty c => rw [ra.ty_inv]; rfl
  | box => obtain ⟨p, _, rfl⟩ := ra.box_inv; rfl
  | exc p d c xs => obtain ⟨rfl, _⟩ := ra.exc_inv; rfl
def fIsN : PV → PV → (PV → Prop) → Prop := fun a b q => b = .non ∧ q (.bl (isNone a))
def fNotN : PV → PV → (PV → Prop) → Prop := fun a b q => b = .non ∧ q (.bl (!isNone a))
theorem pop_isN {K : Frg} : POp K (fun x y H Q => y = .non ∧ Q (.bl (decide (x = .non))) H) fIsN := fun F G H a b va vb q Q o ra rb ⟨e, hq⟩ gv => by
  subst e
  exact ⟨rb.non_inv, by rw [isNone_ok ra]; exact gv _ _ _ _ hq (.refl o) (rep_bl _)⟩
theorem pop_notN {K : Frg} : POp K (fun x y H Q => y = .non ∧ Q (.bl (!decide (x = .non))) H) fNotN := fun F G H a b va vb q Q o ra rb ⟨e, hq⟩ gv => by
  subst e
  exact ⟨rb.non_inv, by rw [isNone_ok ra]; exact gv _ _ _ _ hq (.refl o) (rep_bl _)⟩
theorem e_lt (ha : EJ X W a da) (hb : EJ X W b db) : EJ X W (.Compare a [.Lt] [b] pos) (dOp fLt da db) := e_cmp op_lt (pop_IB _) ha hb (nomark _)
theorem e_le (ha : EJ X W a da) (hb : EJ X W b db) : EJ X W (.Compare a [.LtE] [b] pos) (dOp fLe da db) := e_cmp op_le (pop_IB _) ha hb (nomark _)
theorem e_gt (ha : EJ X W a da) (hb : EJ X W b db) : EJ X W (.Compare a [.Gt] [b] pos) (dOp fGt da db) := e_cmp op_gt (pop_IB _) ha hb (nomark _)
theorem e_ge (ha : EJ X W a da) (hb : EJ X W b db) : EJ X W (.Compare a [.GtE] [b] pos) (dOp fGe da db) := e_cmp op_ge (pop_IB _) ha hb (nomark _)
theorem e_eq (ha : EJ X W a da) (hb : EJ X W b db) : EJ X W (.Compare a [.Eq] [b] pos) (dOp fEqS da db) := e_cmp op_eq pop_eq ha hb (nomark _)
theorem e_ne (ha : EJ X W a da) (hb : EJ X W b db) : EJ X W (.Compare a [.NotEq] [b] pos) (dOp fNeS da db) := e_cmp op_ne pop_ne ha hb (nomark _)
theorem e_isN (ha : EJ X W a da) (hb : EJ X W b db) : EJ X W (.Compare a [.Is] [b] pos) (dOp fIsN da db) := e_cmp op_isN pop_isN ha hb (nomark _)
theorem e_notN (ha : EJ X W a da) (hb : EJ X W b db) : EJ X W (.Compare a [.IsNot] [b] pos) (dOp fNotN da db) := e_cmp op_notN pop_notN ha hb (nomark _)
theorem t_lt (ha : EJ X W a da) (hb : EJ X W b db) : TJ X W (.Compare a [.Lt] [b] pos) (dB (dOp fLt da db)) := t_cmp op_lt (pop_IB _) ha hb (nomark _)
theorem t_le (ha : EJ X W a da) (hb : EJ X W b db) : TJ X W (.Compare a [.LtE] [b] pos) (dB (dOp fLe da db)) := t_cmp op_le (pop_IB _) ha hb (nomark _)
theorem t_gt (ha : EJ X W a da) (hb : EJ X W b db) : TJ X W (.Compare a [.Gt] [b] pos) (dB (dOp fGt da db)) := t_cmp op_gt (pop_IB _) ha hb (nomark _)
theorem t_ge (ha : EJ X W a da) (hb : EJ X W b db) : TJ X W (.Compare a [.GtE] [b] pos) (dB (dOp fGe da db)) := t_cmp op_ge (pop_IB _) ha hb (nomark _)
theorem t_eq (ha : EJ X W a da) (hb : EJ X W b db) : TJ X W (.Compare a [.Eq] [b] pos) (dB (dOp fEqS da db)) := t_cmp op_eq pop_eq ha hb (nomark _)
theorem t_ne (ha : EJ X W a da) (hb : EJ X W b db) : TJ X W (.Compare a [.NotEq] [b] pos) (dB (dOp fNeS da db)) := t_cmp op_ne pop_ne ha hb (nomark _)
theorem t_isN (ha : EJ X W a da) (hb : EJ X W b db) : TJ X W (.Compare a [.Is] [b] pos) (dB (dOp fIsN da db)) := t_cmp op_isN pop_isN ha hb (nomark _)
theorem t_notN (ha : EJ X W a da) (hb : EJ X W b db) : TJ X W (.Compare a [.IsNot] [b] pos) (dB (dOp fNotN da db)) := t_cmp op_notN pop_notN ha hb (nomark _)
end
end Pw
namespace Pw
open PySem PySem.Spec PyProof.Rows L2

/-! ## argument lists, displays -/
def dNil : DA := fun _ q _ => q []
def dCons (d : DE) (ds : DA) : DA := fun ρ q x => d ρ (fun p => ds ρ (fun ps => q (p :: ps)) x) x
def dStar (d : DE) (ds : DA) : DA := fun ρ q x => d ρ (fun p => ∃ xs, (p = .tup xs ∨ p = .lst xs) ∧ ds ρ (fun ps => q (xs ++ ps)) x) x
def dTup (ds : DA) : DE := fun ρ q x => ds ρ (fun ps => ps.length ≤ sizeLine ∧ q (.tup ps)) x
/-- an expression that gives a new list, held by nobody -/
abbrev DL := En → (List PV → Prop) → (XV → Prop) → Prop
def GoodL (K : Frg) (F : Fx) (G H : Hp) (q : List PV → Prop) (Q : VK) : Prop := ∀ ps l vs G' H', q ps → Go F G H G' H' → H l = none → G' l = none → H' l = some (.lst vs) → Reps K F.b G' ps vs → Q (.ref l) H'
def tL (K : Frg) (W : WX) (d : DL) : TE := fun σ H Q => ∃ (F : Fx) (ρ : En) (G : Hp) (q : List PV → Prop) (x : XV → Prop), Rel K F ρ σ G H ∧ d ρ q x ∧ GoodL K F G H q Q ∧ GoodX K W F G H σ x
abbrev LJ (X : Cx) (W : WX) (e : Expr) (d : DL) : Prop := PE X e (tL X.K W d)
def dLst (d : DL) : DE := fun ρ q x => d ρ (fun ps => q (.lst ps)) x
def lDisp (ds : DA) : DL := fun ρ q x => ds ρ (fun ps => ps.length ≤ sizeLine ∧ q ps) x
/-- what G does not know yet and H holds may be taken in -/
theorem Ok.take {F : Fx} {G H : Hp} (k : Ok F G H) {l : Addr} {o : HO} (h0 : F.H0 l = none) (hl : H l = some o) (gl : G l = none) (nb : ¬ F.isB l) : Ok F (upd G l o) H := by
  refine ⟨k.keep, k.dom, fun a u e => ?_, fun a u e => ?_, fun a u e => ?_, fun b c e => ?_⟩
  · have z := k.gx a u e
    rw [upd_ne (ne_of_none z gl)]; exact z
  · by_cases z : a = l
    · subst z; rw [upd_same] at e; rw [hl]; exact e
    · rw [upd_ne z] at e; exact k.sub a u e
  · by_cases z : a = l
    · subst z; exact .inr h0
    · rw [upd_ne z] at e; exact k.new a u e
  · obtain ⟨bt, gb, gc, mb, mc⟩ := k.box b c e
    have n1 : b ≠ l := fun z => nb ⟨b, c, e, .inl z.symm⟩
    have n2 : c ≠ l := fun z => nb ⟨b, c, e, .inr z.symm⟩
    exact ⟨bt, by rw [upd_ne n1]; exact gb, by rw [upd_ne n2]; exact gc, mb, mc⟩
theorem Go.take {F : Fx} {G H G' H' : Hp} (k : Ok F G H) (g : Go F G H G' H') {l : Addr} {o : HO} (hl : H l = none) (h' : H' l = some o) (gl : G' l = none) : Go F G H (upd G' l o) H' := by
  have nb : ¬ F.isB l := fun z => by obtain ⟨u, e⟩ := k.isB_some z; rw [hl] at e; cases e
  refine ⟨g.ok.take (k.dom l hl) h' gl nb, g.gx.trans (.upd gl), g.keep, fun a u e => ?_⟩
  by_cases z : a = l
  · subst z; exact .inr hl
  · rw [upd_ne z] at e; exact g.new a u e
/-- a new object that may still change: G does not take it in -/
theorem Ok.new2 {F : Fx} {G H : Hp} (o : Ok F G H) {p : Addr} {u : HO} (h : H p = none) : Go F G H G (upd H p u) := by
  have hg : G p = none := o.sub.free h
  have h0 : F.H0 p = none := o.dom p h
  refine ⟨⟨fun a x e n => ?_, fun a e => ?_, o.gx, fun a x e => ?_, o.new, fun b c e => ?_⟩, .refl _, fun a x e _ => ?_, fun a x e => .inl e⟩
  · rw [upd_ne (ne_of_none e h0)]; exact o.keep a x e n
  · by_cases z : a = p
    · subst z; rw [upd_same] at e; cases e
    · rw [upd_ne z] at e; exact o.dom a e
  · rw [upd_ne (ne_of_none e hg)]; exact o.sub a x e
  · obtain ⟨bt, gb, gc, mb, mc⟩ := o.box b c e
    exact ⟨bt.same fun a x q r => by rw [upd_ne (ne_of_none q h)]; exact q, gb, gc, mb, mc⟩
  · rw [upd_ne (ne_of_none e h)]; exact e
section
variable {X : Cx} {W : WX} {pos : Pos} {e : Expr} {es : List Expr} {d : DE} {ds : DA} {dl : DL}
theorem a_nil : AJ X W [] dNil := pa_imp pa_nil fun σ H Q ⟨F, ρ, G, q, x, R, h, gv, gx⟩ => gv [] [] G H h (.refl R.ok) .nil
theorem a_cons (he : EJ X W e d) (hs : AJ X W es ds) (h1 : starEach (e :: es) X.env = (false, eval e X.env) :: starEach es X.env := by rfl) : AJ X W (e :: es) (dCons d ds) := pa_imp (pa_cons he hs h1) fun σ H Q ⟨F, ρ, G, q, x, R, h, gv, gx⟩ =>
  ⟨F, ρ, G, _, x, R, h, fun p v G1 H1 h1 g1 r1 => ⟨F, ρ, G1, _, x, R.go g1, h1, fun ps vs G2 H2 h2 g2 r2 => gv (p :: ps) (v :: vs) G2 H2 h2 (g1.trans g2) (.cons (r1.mono g2.gx) r2), gx.go g1⟩, gx⟩
theorem a_star {p0 : Pos} (he : EJ X W e d) (hs : AJ X W es ds) (h1 : starEach (.Starred e p0 :: es) X.env = (true, eval e X.env) :: starEach es X.env := by rfl) : AJ X W (.Starred e p0 :: es) (dStar d ds) := pa_imp (StX.pa_star he hs h1) fun σ H Q ⟨F, ρ, G, q, x, R, h, gv, gx⟩ =>
  ⟨F, ρ, G, _, x, R, h, fun p v G1 H1 ⟨xs, hp, h1⟩ g1 r1 => by
    rcases hp with rfl | rfl
    · obtain ⟨a, vs, rfl, sq, rs⟩ := r1.tup_inv
      exact ⟨a, vs, rfl, .inl (g1.ok.sub.t sq), F, ρ, G1, _, x, R.go g1, h1, fun ps ws G2 H2 h2 g2 r2 => gv (xs ++ ps) (vs ++ ws) G2 H2 h2 (g1.trans g2) ((rs.mono g2.gx).append r2), gx.go g1⟩
    · obtain ⟨a, vs, rfl, sq, rs⟩ := r1.lst_inv
      exact ⟨a, vs, rfl, .inr (g1.ok.sub.l sq), F, ρ, G1, _, x, R.go g1, h1, fun ps ws G2 H2 h2 g2 r2 => gv (xs ++ ps) (vs ++ ws) G2 H2 h2 (g1.trans g2) ((rs.mono g2.gx).append r2), gx.go g1⟩, gx⟩
theorem e_tup {n : Nat} (hs : AJ X W es ds) : EJ X W (.Tuple es n pos) (dTup ds) := pe_imp (pe_tup hs) fun σ H Q ⟨F, ρ, G, q, x, R, h, gv, gx⟩ =>
  ⟨F, ρ, G, _, x, R, h, fun ps vs G1 H1 ⟨l1, h1⟩ g1 r1 => ⟨by rw [r1.length]; exact l1, fun p hp => by
    have g2 := g1.ok.new1 (u := .tup vs) hp
    exact gv _ _ _ _ h1 (g1.trans g2) (rep_tup (.inl (.inl upd_same)) (r1.mono g2.gx))⟩, gx⟩
theorem l_disp (hs : AJ X W es ds) : LJ X W (.List es pos) (lDisp ds) := pe_imp (pe_lst hs) fun σ H Q ⟨F, ρ, G, q, x, R, h, gv, gx⟩ =>
  ⟨F, ρ, G, _, x, R, h, fun ps vs G1 H1 ⟨l1, h1⟩ g1 r1 => ⟨by rw [r1.length]; exact l1, fun p hp => by
    have g2 := g1.ok.new2 (u := .lst vs) hp
    exact gv ps p vs G1 _ h1 (g1.trans g2) (g1.back hp) (g1.ok.sub.free hp) upd_same r1⟩, gx⟩
/-- a new list that is never changed -/
theorem e_new (h : LJ X W e dl) : EJ X W e (dLst dl) := pe_imp h fun σ H Q ⟨F, ρ, G, q, x, R, h, gv, gx⟩ =>
  ⟨F, ρ, G, _, x, R, h, fun ps l vs G1 H1 h1 g1 hl gl h2 r1 => gv _ _ _ _ h1 (g1.take R.ok hl h2 gl) (rep_lst (.inl (.inl upd_same)) (r1.mono (.upd gl))), gx⟩
end

/-! ## what a def promises -/
abbrev Ct := List PV → (PV → Prop) → (XV → Prop) → Prop
/-- the entry of a call -/
def Fx.call (F : Fx) (G H : Hp) : Fx := ⟨G, H, F.isB, F.bx⟩
theorem Ok.enter {F : Fx} {G H : Hp} (o : Ok F G H) : Ok (F.call G H) G H :=
  ⟨fun _ _ e _ => e, fun _ e => e, .refl _, o.sub, fun _ _ e => .inl e, fun b c e => by
    obtain ⟨bt, gb, gc, _, _⟩ := o.box b c e
    exact ⟨bt, gb, gc, ⟨b, c, e, .inl rfl⟩, ⟨b, c, e, .inr rfl⟩⟩⟩
theorem Ok.leave {F : Fx} {G H G' H' : Hp} (o : Ok F G H) (o' : Ok (F.call G H) G' H') : Go F G H G' H' := by
  refine ⟨⟨fun a u e n => ?_, fun a e => o.dom a (o'.dom a e), o.gx.trans o'.gx, o'.sub, fun a u e => ?_, fun b c e => ?_⟩, o'.gx, fun a u e n => o'.keep a u e n, fun a u e => o'.new a u e⟩
  · refine o'.keep a u (o.keep a u e n) fun z => n ?_
    obtain ⟨b, c, e2, r⟩ := z
    obtain ⟨_, _, _, mb, mc⟩ := o.box b c e2
    rcases r with rfl | rfl
    · exact mb
    · exact mc
  · rcases o'.new a u e with z | z
    · exact o.new a u z
    · exact .inr (o.dom a z)
  · obtain ⟨bt, gb, gc, _, _⟩ := o'.box b c e
    obtain ⟨_, _, _, mb, mc⟩ := o.box b c e
    exact ⟨bt, gb, gc, mb, mc⟩
/-- arguments ps; q: wanted of the value, x: wanted of what is raised -/
def spP (K : Frg) (c : Ct) : Sp := fun vs H Q E => ∃ (F : Fx) (G : Hp) (ps : List PV) (q : PV → Prop) (x : XV → Prop), F.G0 = G ∧ F.H0 = H ∧ F.M = F.isB ∧ Ok F G H ∧ Reps K F.b G ps vs ∧ c ps q x ∧
  (∀ p v G' H', q p → Ok F G' H' → Rep K F.b G' p v → Q v H') ∧ (∀ xv d G' H', x xv → Ok F G' H' → XRep K F.b G' xv d → E (.ref (ca K xv.1)) d H')
/-- the def at f, called with keywords ks (their values behind the others): hot: also while an exception is handled -/
def FnS (hot : Bool) (P : Program) (w : World) (K : Frg) (mg : Str → Option Value) (base : Heap) (k : Nat) (f : Addr) (ks : List Str) (sp : Sp) : Prop :=
  ∀ (A : Around) (outer : List Env) (s : Shared) (H : Hp) (us ws : List Value) (vs : List V) (Q : VK) (E : XK), (A.handled = none ∨ (hot = true ∧ ∃ p, L2H.Hot1 A p ∧ L2H.PinOk outer H s p)) → L2H.RoomH k A → Env0 P w K mg base A outer s H →
    ws.length = ks.length → Vals vs (us ++ ws) → sp vs H Q E → codeAny (model P w) A (.call (.ref f) ⟨us, ks.zip ws⟩) (CR (L2N.CX P w) outer P w H s Q E) s
theorem FnS.up {hot : Bool} {P : Program} {w : World} {K : Frg} {mg : Str → Option Value} {base : Heap} {k j : Nat} {f : Addr} {ks : List Str} {sp : Sp} (F : FnS hot P w K mg base k f ks sp) (h : k ≤ j) : FnS hot P w K mg base j f ks sp :=
  fun A outer s H us ws vs Q E hm hr => F A outer s H us ws vs Q E hm (hr.mono h)
theorem FnS.cool {P : Program} {w : World} {K : Frg} {mg : Str → Option Value} {base : Heap} {k : Nat} {f : Addr} {ks : List Str} {sp : Sp} (F : FnS true P w K mg base k f ks sp) : FnS false P w K mg base k f ks sp :=
  fun A outer s H us ws vs Q E hm hr => F A outer s H us ws vs Q E (hm.elim .inl fun z => by cases z.1) hr
/-- how one stands: nothing is being handled, or it is known -/
def Md (X : Cx) (hot : Bool) : Prop := X.calm = true ∨ (hot = true ∧ L2H.HotC X)
section
variable {X : Cx} {W : WX} {hot : Bool} {k : Nat} {f : Addr} {ks : List Str} {sp : Sp} {c : Ct}
theorem run_s {pins : List (Addr × Obj)} {σ : L2.St} {H : Hp} {s : Shared} {Q : VK} {us ws : List Value} {vs : List V} (Fn : FnS hot X.prog X.w X.K X.mg X.base k f ks sp) (md : Md X hot) (hr : L2H.RoomH k X.A) (tk : L2N.Takes X W) (J : Inv X pins σ H s)
    (hl : ws.length = ks.length) (r : Vals vs (us ++ ws)) (h : sp vs H Q (fun cls d H' => W cls d σ H')) : wpAny (model X.prog X.w) X.A (call (.ref f) us (ks.zip ws)) (EP X pins σ Q) X.xe s := by
  have hm : X.A.handled = none ∨ (hot = true ∧ ∃ p, L2H.Hot1 X.A p ∧ L2H.PinOk X.stack H s p) := by
    rcases md with z | ⟨z, p, hp, mem⟩
    · exact .inl (J.ok.hd z)
    · have P1 := J.pin p (List.mem_append_left _ mem)
      exact .inr ⟨z, p, hp, ⟨P1.1, P1.2.1, fun hq => (List.mem_cons.mp (J.stkSub p.1 hq)).elim P1.2.2.1 P1.2.2.2.1, P1.2.2.2.2⟩⟩
  refine wpAny_call (codeAny_mono (Fn X.A X.stack s H us ws vs Q _ hm hr J.env0 hl r h) fun rr s' hq => ?_)
  cases rr with
  | error er => exact tk er s' (L2N.XE.of_call J (fun _ _ _ z => z) hq)
  | ok fl =>
    cases fl with
    | ret u => exact J.after hq
    | next => exact False.elim hq
    | brk => exact False.elim hq
    | cont => exact False.elim hq
/-- the promise, from the caller's state -/
theorem spP_of {K : Frg} {F : Fx} {ρ : En} {σ : L2.St} {G H : Hp} {ps : List PV} {vs : List V} {q : PV → Prop} {x : XV → Prop} {Q : VK} (R : Rel K F ρ σ G H) (r : Reps K F.b G ps vs) (h : c ps q x) (gv : GoodV K F G H q Q) (gx : GoodX K W F G H σ x) :
    spP K c vs H Q (fun cls d H' => W cls d σ H') :=
  ⟨F.call G H, G, ps, q, x, rfl, rfl, rfl, R.ok.enter, r, h, fun p v G' H' hp o rr => gv p v G' H' hp (R.ok.leave o) rr, fun xv d G' H' hp o rr => gx xv d G' H' hp (R.ok.leave o) rr⟩
end
def dCall (c : Ct) (ds : DA) : DE := fun ρ q x => ds ρ (fun ps => c ps q x) x
def dCallK (n : Nat) (c : Ct) (ds dk : DA) : DE := fun ρ q x => ds ρ (fun ps => dk ρ (fun zs => zs.length = n ∧ c (ps ++ zs) q x) x) x
section
variable {X : Cx} {W : WX} {hot : Bool} {k : Nat} {f : Addr} {ks : List Str} {c : Ct} {x : Str} {p0 pos : Pos} {e : Expr} {es : List Expr} {kws : List Keyword} {ds dk : DA}
abbrev KJ (X : Cx) (W : WX) (kws : List Keyword) (d : DA) : Prop := PK X kws (tA X.K W d)
theorem pk_imp {t t' : TA} (h : PK X kws t) (i : ∀ σ H Q, t' σ H Q → t σ H Q) : PK X kws t' := ⟨fun pos pins s σ H Q J z => h.run pos pins s σ H Q J (i σ H Q z)⟩
theorem k_nil : KJ X W [] dNil := pk_imp pk_nil fun σ H Q ⟨F, ρ, G, q, x, R, h, gv, gx⟩ => gv [] [] G H h (.refl R.ok) .nil
theorem k_cons {nm : Option Str} {kp : Pos} {d : DE} (he : EJ X W e d) (hs : KJ X W kws dk) : KJ X W (⟨nm, e, kp⟩ :: kws) (dCons d dk) := pk_imp (pk_cons he hs) fun σ H Q ⟨F, ρ, G, q, x, R, h, gv, gx⟩ =>
  ⟨F, ρ, G, _, x, R, h, fun p v G1 H1 h1 g1 r1 => ⟨F, ρ, G1, _, x, R.go g1, h1, fun ps vs G2 H2 h2 g2 r2 => gv (p :: ps) (v :: vs) G2 H2 h2 (g1.trans g2) (.cons (r1.mono g2.gx) r2), gx.go g1⟩, gx⟩
theorem e_call (Fn : FnS hot X.prog X.w X.K X.mg X.base k f [] (spP X.K c)) (md : Md X hot) (hr : L2H.RoomH k X.A) (tk : L2N.Takes X W) (hm : X.mg x = some (.ref f)) (hk : PySem.W.keepIn X.K (.ref f) = true) (ha : AJ X W (e :: es) ds) (hg : Gl X x := by rfl)
    (h1 : (x == ("__debug__" : Str)) = false := by decide) (h2 : starEach (e :: es) X.env = (false, eval e X.env) :: starEach es X.env := by rfl) (h3 : (backTo pos (starEach es X.env)).any (·.1) = false := by rfl) : EJ X W (.Call (.Name x p0) (e :: es) [] pos) (dCall c ds) := by
  refine ⟨fun pins s σ H Q J ⟨F, ρ, G, q, z, R, h, gv, gx⟩ => ?_⟩
  refine wpAny_Call_Name_kw (ld_glob J hg hm ?_ h1)
  refine PySem.W.callWith_K (h₀ := X.base) J.ok.mod.kin hk (thn (ha.run pos pins s σ H (fun vs H1 => spP X.K c vs H1 Q fun cls d H' => W cls d σ H') J ⟨F, ρ, G, _, z, R, h, fun ps vs G1 H1 h1 g1 r1 => spP_of (R.go g1) r1 h1 (gv.go g1) (gx.go g1), gx⟩) fun us s1 ⟨vs, H1, J1, r, q1⟩ => ⟨J1.kIn, ?_⟩) h2 h3
  exact run_s (ws := []) Fn md hr tk J1 rfl (by rw [List.append_nil]; exact r) q1
theorem e_call0 (Fn : FnS hot X.prog X.w X.K X.mg X.base k f [] (spP X.K c)) (md : Md X hot) (hr : L2H.RoomH k X.A) (tk : L2N.Takes X W) (hm : X.mg x = some (.ref f)) (hk : PySem.W.keepIn X.K (.ref f) = true) (hg : Gl X x := by rfl)
    (h1 : (x == ("__debug__" : Str)) = false := by decide) : EJ X W (.Call (.Name x p0) [] [] pos) (dCall c dNil) := by
  refine ⟨fun pins s σ H Q J ⟨F, ρ, G, q, z, R, h, gv, gx⟩ => ?_⟩
  refine wpAny_Call_Name_kw (ld_glob J hg hm ?_ h1)
  exact PySem.W.callWith_K0 J.kIn hk (run_s (us := []) (ws := []) Fn md hr tk J rfl .nil (spP_of R .nil h gv gx))
theorem e_callK (Fn : FnS hot X.prog X.w X.K X.mg X.base k f ks (spP X.K c)) (md : Md X hot) (hr : L2H.RoomH k X.A) (tk : L2N.Takes X W) (hm : X.mg x = some (.ref f)) (hk : PySem.W.keepIn X.K (.ref f) = true) (ha : AJ X W (e :: es) ds) (hkw : KJ X W kws dk) (hg : Gl X x := by rfl)
    (k1 : (backToKw pos (keywordEach kws X.env)).all (·.1.isSome) = true := by rfl) (k2 : (backToKw pos (keywordEach kws X.env)).filterMap (·.1) = ks := by rfl)
    (h1 : (x == ("__debug__" : Str)) = false := by decide) (h2 : starEach (e :: es) X.env = (false, eval e X.env) :: starEach es X.env := by rfl)
    (h3 : ((backTo pos (starEach (e :: es) X.env)).any (·.1) || (backToKw pos (keywordEach kws X.env)).any (·.1.isNone)) = false := by rfl) : EJ X W (.Call (.Name x p0) (e :: es) kws pos) (dCallK ks.length c ds dk) := by
  refine ⟨fun pins s σ H Q J ⟨F, ρ, G, q, z, R, h, gv, gx⟩ => ?_⟩
  refine wpAny_Call_Name_kw (ld_glob J hg hm ?_ h1)
  refine PySem.W.callWith_KW (h₀ := X.base) J.ok.mod.kin hk k1 (thn (ha.run pos pins s σ H (fun vs H1 => tA X.K W dk σ H1 fun zs H2 => zs.length = ks.length ∧ spP X.K c (vs ++ zs) H2 Q fun cls d H' => W cls d σ H') J
    ⟨F, ρ, G, _, z, R, h, fun ps vs G1 H1 h1 g1 r1 => ⟨F, ρ, G1, _, z, R.go g1, h1, fun zs ws G2 H2 ⟨hz, h2⟩ g2 r2 => ⟨by rw [r2.length]; exact hz, spP_of (R.go (g1.trans g2)) ((r1.mono g2.gx).append r2) h2 (gv.go (g1.trans g2)) (gx.go (g1.trans g2))⟩, gx.go g1⟩, gx⟩) fun us s1 ⟨vs, H1, J1, r, q1⟩ => ?_) h3 h2
  refine thn (hkw.run pos pins s1 σ H1 _ J1 q1) fun ws s2 ⟨zs, H2, J2, rz, hz, q2⟩ => ⟨J2.kIn, ?_⟩
  rw [k2]
  exact run_s Fn md hr tk J2 (by rw [← rz.length]; exact hz) (r.append rz) q2
end
end Pw
namespace Pw
open PySem PySem.Spec PyProof.Rows L2

/-! ## statements -/
structure DEn where
  nx : En → Prop
  rt : PV → Prop
  bk : En → Prop := fun _ => False
  ct : En → Prop := fun _ => False
  xc : XV → En → Prop := fun _ _ => False
abbrev DS := DEn → En → Prop
structure EndsOk (K : Frg) (W : WX) (F : Fx) (P : DEn) (D : Ends) : Prop where
  nx : ∀ ρ σ G H, P.nx ρ → Rel K F ρ σ G H → D.nx σ H
  rt : ∀ p v G H, P.rt p → Ok F G H → Rep K F.b G p v → D.rt v H
  bk : ∀ ρ σ G H, P.bk ρ → Rel K F ρ σ G H → D.bk σ H
  ct : ∀ ρ σ G H, P.ct ρ → Rel K F ρ σ G H → D.ct σ H
  xc : ∀ xv d ρ σ G H, P.xc xv ρ → Rel K F ρ σ G H → XRep K F.b G xv d → W (.ref (ca K xv.1)) d σ H
def tS (K : Frg) (W : WX) (d : DS) : TS := fun D σ H => ∃ (F : Fx) (ρ : En) (G : Hp) (P : DEn), Rel K F ρ σ G H ∧ d P ρ ∧ EndsOk K W F P D
abbrev SJ (X : Cx) (W : WX) (st : Stmt) (d : DS) : Prop := PS X st (tS X.K W d)
abbrev BJ (X : Cx) (W : WX) (sts : List Stmt) (d : DS) : Prop := PSs X sts (tS X.K W d)
theorem ps_imp {X : Cx} {st : Stmt} {t t' : TS} (h : PS X st t) (i : ∀ D σ H, t' D σ H → t D σ H) : PS X st t' := ⟨fun pins s σ H D J z => h.run pins s σ H D J (i D σ H z)⟩
theorem pss_imp {X : Cx} {st : List Stmt} {t t' : TS} (h : PSs X st t) (i : ∀ D σ H, t' D σ H → t D σ H) : PSs X st t' := ⟨fun pins s σ H D J z => h.run pins s σ H D J (i D σ H z)⟩
theorem EndsOk.gx {K : Frg} {W : WX} {F : Fx} {P : DEn} {D : Ends} {ρ : En} {σ : L2.St} {G H : Hp} (eo : EndsOk K W F P D) (R : Rel K F ρ σ G H) : GoodX K W F G H σ (fun xv => P.xc xv ρ) := fun xv d G' H' hx g r => eo.xc xv d ρ σ G' H' hx (R.go g) r

def dSeq (d e : DS) : DS := fun P ρ => d { P with nx := fun ρ' => e P ρ' } ρ
def dNext : DS := fun P ρ => P.nx ρ
def dSet (i : Nat) (d : DE) : DS := fun P ρ => d ρ (fun p => P.nx (ρ.set i (some (.val p)))) (fun xv => P.xc xv ρ)
def dSetL (i : Nat) (d : DL) : DS := fun P ρ => d ρ (fun ps => P.nx (ρ.set i (some (.ownL ps)))) (fun xv => P.xc xv ρ)
def dRet (d : DE) : DS := fun P ρ => d ρ P.rt (fun xv => P.xc xv ρ)
def dDrop (d : DE) : DS := fun P ρ => d ρ (fun _ => P.nx ρ) (fun xv => P.xc xv ρ)
def dIfS (t : DT) (d e : DS) : DS := fun P ρ => t ρ (fun b => if b = true then d P ρ else e P ρ) (fun xv => P.xc xv ρ)
/-- an own list is no longer changed -/
def dFrz (i : Nat) (d : DS) : DS := fun P ρ => ∃ xs, ρ[i]? = some (some (.ownL xs)) ∧ d P (ρ.set i (some (.val (.lst xs))))
theorem SlotOk.taken {K : Frg} {F : Fx} {G H : Hp} {l : Addr} {o : HO} (gl : G l = none) : ∀ {s : Slot} {v : V}, SlotOk K F G H s v → s.own v ≠ some l → SlotOk K F (upd G l o) H s v
  | .val x, v, h, _ => Rep.mono (.upd gl) h
  | .ownL xs, v, h, n => by
    obtain ⟨a, vs, rfl, ga, r⟩ := h
    have na : a ≠ l := fun z => n (by rw [z]; rfl)
    exact ⟨a, vs, rfl, by rw [upd_ne na]; exact ga, r.1, r.2.1, r.2.2.1.mono (.upd gl), r.2.2.2⟩
  | .ownO me c fs, v, h, n => by
    obtain ⟨a, dx, vs, rfl, ga, r⟩ := h
    have na : a ≠ l := fun z => n (by rw [z]; rfl)
    exact ⟨a, dx, vs, rfl, by rw [upd_ne na]; exact ga, r.1, r.2.1, r.2.2.1.mono (.upd gl), r.2.2.2⟩
theorem lt_of_some {α : Type} {l : List α} {i : Nat} {x : α} (h : l[i]? = some x) : i < l.length := (List.getElem?_eq_some_iff.mp h).1
theorem set_get {α : Type} {l : List α} {i j : Nat} {x y : α} (h : (l.set i x)[j]? = some y) : (i = j ∧ y = x) ∨ (i ≠ j ∧ l[j]? = some y) := by
  by_cases z : i = j
  · subst z
    have hl : i < l.length := by have := lt_of_some h; rwa [List.length_set] at this
    rw [List.getElem?_set_self hl] at h
    cases h
    exact .inl ⟨rfl, rfl⟩
  · rw [List.getElem?_set_ne z] at h
    exact .inr ⟨z, h⟩
/-- the slot i is told anew; the others stand -/
theorem Rel.retell {K : Frg} {F : Fx} {ρ : En} {σ : L2.St} {G H G' H' : Hp} {i : Nat} {s' : Slot} {v' : V} (R : Rel K F ρ σ G H) (ok : Ok F G' H') (e1 : σ[i]? = some (some v')) (new : SlotOk K F G' H' s' v')
    (old : ∀ (j : Nat) (s : Slot) (v : V), i ≠ j → ρ[j]? = some (some s) → σ[j]? = some (some v) → SlotOk K F G H s v → SlotOk K F G' H' s v) (own : ∀ a, s'.own v' = some a → ∀ (j : Nat) (s : Slot) (v : V), i ≠ j → ρ[j]? = some (some s) → σ[j]? = some (some v) → s.own v ≠ some a) : Rel K F (ρ.set i (some s')) σ G' H' := by
  refine ⟨ok, by rw [List.length_set]; exact R.len, fun j t e => ?_, fun j k t u v w a e2 e3 e4 e5 o1 o2 => ?_⟩
  · rcases set_get e with ⟨rfl, z⟩ | ⟨n, z⟩
    · cases z; exact ⟨v', e1, new⟩
    · obtain ⟨v, e2, r⟩ := R.at_ j t z
      exact ⟨v, e2, old j t v n z e2 r⟩
  · rcases set_get e2 with ⟨rfl, z⟩ | ⟨n, z⟩
    · cases z
      rcases set_get e3 with ⟨rfl, y⟩ | ⟨m, y⟩
      · rfl
      · rw [e1] at e4; cases e4
        exact absurd o2 (own a o1 k u w m y e5)
    · rcases set_get e3 with ⟨rfl, y⟩ | ⟨m, y⟩
      · cases y
        rw [e1] at e5; cases e5
        exact absurd o1 (own a o2 j t v n z e4)
      · exact R.inj j k t u v w a z y e4 e5 o1 o2
theorem Rel.freeze {K : Frg} {F : Fx} {ρ : En} {σ : L2.St} {G H : Hp} {i : Nat} {xs : List PV} (R : Rel K F ρ σ G H) (e : ρ[i]? = some (some (.ownL xs))) : ∃ G', Rel K F (ρ.set i (some (.val (.lst xs)))) σ G' H := by
  obtain ⟨v, e1, l, vs, rfl, gl, nb, hl, rs, h0⟩ := R.at_ i _ e
  refine ⟨upd G l (.lst vs), R.retell (R.ok.take h0 hl gl nb) e1 (rep_lst (.inl (.inl upd_same)) (rs.mono (.upd gl))) (fun j s v n z z2 r => r.taken gl fun q => n (R.inj i j _ s _ v l e z e1 z2 rfl q)) fun a q => ?_⟩
  cases q
theorem s_frz {X : Cx} {W : WX} {st : Stmt} {d : DS} (i : Nat) (h : SJ X W st d) : SJ X W st (dFrz i d) := ps_imp h fun D σ H ⟨F, ρ, G, P, R, ⟨xs, e, hd⟩, eo⟩ => by
  obtain ⟨G', R'⟩ := R.freeze e
  exact ⟨F, _, G', P, R', hd, eo⟩
section
variable {X : Cx} {W : WX} {pos : Pos} {st : Stmt} {sts : List Stmt} {d e : DS}
theorem b_nil : BJ X W [] dNext := pss_imp pss_nil fun D σ H ⟨F, ρ, G, P, R, h, eo⟩ => eo.nx ρ σ G H h R
theorem b_cons (h1 : SJ X W st d) (h2 : BJ X W sts e) : BJ X W (st :: sts) (dSeq d e) := pss_imp (pss_cons h1 h2) fun D σ H ⟨F, ρ, G, P, R, h, eo⟩ =>
  ⟨F, ρ, G, _, R, h, ⟨fun ρ' σ' G' H' h' R' => ⟨F, ρ', G', P, R', h', eo⟩, eo.rt, eo.bk, eo.ct, eo.xc⟩⟩
theorem b_one (h1 : SJ X W st d) : BJ X W [st] d := pss_one h1
theorem s_pass : SJ X W (.Pass pos) dNext := ps_imp ps_pass fun D σ H ⟨F, ρ, G, P, R, h, eo⟩ => eo.nx ρ σ G H h R
theorem s_continue : SJ X W (.Continue pos) (fun P ρ => P.ct ρ) := ps_imp ps_continue fun D σ H ⟨F, ρ, G, P, R, h, eo⟩ => eo.ct ρ σ G H h R
theorem s_doc {z : Str} {j : Nat} {pos' : Pos} : SJ X W (.Expr (.Constant (.str z) j pos) pos') dNext := ps_imp ps_doc fun D σ H ⟨F, ρ, G, P, R, h, eo⟩ => eo.nx ρ σ G H h R
variable {ex : Expr} {de : DE} {dl : DL}
theorem s_ret (h : EJ X W ex de) : SJ X W (.Return (some ex) pos) (dRet de) := ps_imp (ps_ret h) fun D σ H ⟨F, ρ, G, P, R, h, eo⟩ => ⟨F, ρ, G, _, _, R, h, fun p v G' H' hp g r => eo.rt p v G' H' hp g.ok r, eo.gx R⟩
theorem s_retN : SJ X W (.Return none pos) (fun P _ => P.rt .non) := ps_imp ps_retN fun D σ H ⟨F, ρ, G, P, R, h, eo⟩ => eo.rt _ _ G H h R.ok rep_non
theorem s_expr (h : EJ X W ex de) (hs : swapsWith ex none pos.line X.env = pure false := by rfl) : SJ X W (.Expr ex pos) (dDrop de) := ps_imp (ps_expr h hs) fun D σ H ⟨F, ρ, G, P, R, h, eo⟩ => ⟨F, ρ, G, _, _, R, h, fun p v G' H' hp g r => eo.nx ρ σ G' H' hp (R.go g), eo.gx R⟩
theorem s_set (i : Nat) {x : Str} {p0 : Pos} (h : EJ X W ex de) (nd : X.N.Nodup) (hi : X.N[i]? = some x := by rfl) (hx : Loc X.env.scope x := by first | exact Or.inl rfl | exact Or.inr rfl) (hs : swapsWith ex (some (.Name x p0)) pos.line X.env = pure false := by rfl)
    (hf : X.fn x = true ∨ X.env.scope.names.lookup x = some .local := by first | exact .inl rfl | exact .inr rfl | assumption) : SJ X W (.Assign [.Name x p0] ex pos) (dSet i de) := ps_imp (ps_set (i := i) nd hi hx h hs hf) fun D σ H ⟨F, ρ, G, P, R, h, eo⟩ =>
  ⟨F, ρ, G, _, _, R, h, fun p v G' H' hp g r => eo.nx _ _ G' H' hp ((R.go g).set i r), eo.gx R⟩
theorem Rel.setL {K : Frg} {F : Fx} {ρ : En} {σ : L2.St} {G H : Hp} {ps : List PV} {vs : List V} {l : Addr} (i : Nat) (R : Rel K F ρ σ G H) (hl : H l = some (.lst vs)) (gl : G l = none) (h0 : F.H0 l = none) (nb : ¬ F.isB l) (rs : Reps K F.b G ps vs)
    (no : ∀ (j : Nat) (s : Slot) (v : V), ρ[j]? = some (some s) → σ[j]? = some (some v) → s.own v ≠ some l) : Rel K F (ρ.set i (some (.ownL ps))) (σ.set i (some (.ref l))) G H := by
  refine ⟨R.ok, by rw [List.length_set, List.length_set]; exact R.len, fun j t e => ?_, fun j k t u v w a e2 e3 e4 e5 o1 o2 => ?_⟩
  · rcases set_get e with ⟨rfl, z⟩ | ⟨n, z⟩
    · cases z
      have hi : i < σ.length := by have := lt_of_some e; rw [List.length_set] at this; rw [R.len]; exact this
      exact ⟨_, List.getElem?_set_self hi, l, vs, rfl, gl, nb, hl, rs, h0⟩
    · rw [List.getElem?_set_ne n]
      exact R.at_ j t z
  · rcases set_get e2 with ⟨rfl, z⟩ | ⟨n, z⟩
    · cases z
      rcases set_get e4 with ⟨_, y⟩ | ⟨m, _⟩
      · cases y
        cases o1
        rcases set_get e3 with ⟨rfl, y⟩ | ⟨m, y⟩
        · rfl
        · rw [List.getElem?_set_ne m] at e5
          exact absurd o2 (no k u w y e5)
      · exact absurd rfl m
    · rw [List.getElem?_set_ne n] at e4
      rcases set_get e3 with ⟨rfl, y⟩ | ⟨m, y⟩
      · cases y
        rcases set_get e5 with ⟨_, y⟩ | ⟨m, _⟩
        · cases y
          cases o2
          exact absurd o1 (no j t v z e4)
        · exact absurd rfl m
      · rw [List.getElem?_set_ne m] at e5
        exact R.inj j k t u v w a z y e4 e5 o1 o2
/-- what is owned stands in the heap -/
theorem Rel.own_some {K : Frg} {F : Fx} {ρ : En} {σ : L2.St} {G H : Hp} (R : Rel K F ρ σ G H) {j : Nat} {s : Slot} {v : V} {a : Addr} (e : ρ[j]? = some (some s)) (e1 : σ[j]? = some (some v)) (o : s.own v = some a) : ∃ u, H a = some u := by
  obtain ⟨v', e2, r⟩ := R.at_ j s e
  rw [e1] at e2; cases e2
  cases s with
  | val x => cases o
  | ownL xs => obtain ⟨l, vs, rfl, _, _, hl, _⟩ := r; cases o; exact ⟨_, hl⟩
  | ownO me c fs => obtain ⟨l, dx, vs, rfl, _, _, hl, _⟩ := r; cases o; exact ⟨_, hl⟩
theorem s_setL (i : Nat) {x : Str} {p0 : Pos} (h : LJ X W ex dl) (nd : X.N.Nodup) (hi : X.N[i]? = some x := by rfl) (hx : Loc X.env.scope x := by first | exact Or.inl rfl | exact Or.inr rfl) (hs : swapsWith ex (some (.Name x p0)) pos.line X.env = pure false := by rfl)
    (hf : X.fn x = true ∨ X.env.scope.names.lookup x = some .local := by first | exact .inl rfl | exact .inr rfl | assumption) : SJ X W (.Assign [.Name x p0] ex pos) (dSetL i dl) := ps_imp (ps_set (i := i) nd hi hx h hs hf) fun D σ H ⟨F, ρ, G, P, R, h, eo⟩ =>
  ⟨F, ρ, G, _, _, R, h, fun ps l vs G' H' hp g hl gl h2 rs => eo.nx _ _ G' H' hp ((R.go g).setL i h2 gl (R.ok.dom l hl) (fun z => by obtain ⟨u, e⟩ := R.ok.isB_some z; rw [hl] at e; cases e) rs fun j s v e e1 o => by
    obtain ⟨u, e3⟩ := R.own_some e e1 o
    rw [hl] at e3; cases e3), eo.gx R⟩
variable {c : Expr} {a b : List Stmt} {tc : DT}
theorem s_if (hc : TJ X W c tc) (ha : BJ X W a d) (hb : BJ X W b e) : SJ X W (.If c a b pos) (dIfS tc d e) := ps_imp (ps_if hc ha hb) fun D σ H ⟨F, ρ, G, P, R, h, eo⟩ =>
  ⟨F, ρ, G, _, _, R, h, fun k G' H' hp g => by
    cases k with
    | true => exact ⟨F, ρ, G', P, R.go g, hp, eo⟩
    | false => exact ⟨F, ρ, G', P, R.go g, hp, eo⟩, eo.gx R⟩
end
end Pw
namespace Pw
open PySem PySem.Spec PyProof.Rows L2

/-! ## a def keeps its promise -/
def startE (n : Nat) (ps : List PV) : En := ps.map (fun p => some (.val p)) ++ List.replicate (n - ps.length) none
def endsOf (q : PV → Prop) (x : XV → Prop) : DEn := { nx := fun _ => q .non, rt := q, xc := fun xv _ => x xv }
theorem rel_start {K : Frg} {F : Fx} {G H : Hp} {N : List Str} {ps : List PV} {vs : List V} (o : Ok F G H) (r : Reps K F.b G ps vs) : Rel K F (startE N.length ps) (L2.start N vs) G H := by
  have hl := r.length
  refine ⟨o, ?_, fun i s e => ?_, fun i j s t v u a e1 e2 e3 e4 o1 o2 => ?_⟩
  · unfold startE L2.start
    simp only [List.length_append, List.length_map, List.length_replicate, hl]
  · unfold startE at e
    by_cases hi : i < ps.length
    · rw [List.getElem?_append_left (by simpa using hi), List.getElem?_map] at e
      have ex : ps[i]? = some ps[i] := List.getElem?_eq_getElem hi
      rw [ex] at e
      cases e
      obtain ⟨v, e1, e2⟩ := r.get ex
      refine ⟨v, ?_, e2⟩
      unfold L2.start
      rw [List.getElem?_append_left (by simpa [hl] using hi), List.getElem?_map, e1]
      rfl
    · rw [List.getElem?_append_right (by simpa using hi), List.getElem?_replicate] at e
      split at e <;> cases e
  · unfold startE at e1
    by_cases hi : i < ps.length
    · rw [List.getElem?_append_left (by simpa using hi), List.getElem?_map, List.getElem?_eq_getElem hi] at e1
      cases e1
      cases o1
    · rw [List.getElem?_append_right (by simpa using hi), List.getElem?_replicate] at e1
      split at e1 <;> cases e1
theorem body_of {K : Frg} {c : Ct} {d : DS} {N : List Str} {vs : List V} {H : Hp} {Q : VK} {E : XK} (hd : ∀ ps q x, c ps q x → d (endsOf q x) (startE N.length ps)) (h : spP K c vs H Q E) :
    tS K (fun cls dd _ H' => E cls dd H') d { nx := fun _ H' => Q .non H', rt := Q } (L2.start N vs) H := by
  obtain ⟨F, G, ps, q, x, _, _, _, o, r, hc, hq, hx⟩ := h
  exact ⟨F, _, G, endsOf q x, rel_start o r, hd ps q x hc, ⟨fun ρ σ G' H' z R => hq _ _ G' H' z R.ok rep_non, fun p v G' H' z o' rr => hq p v G' H' z o' rr, fun _ _ _ _ z => z.elim, fun _ _ _ _ z => z.elim, fun xv dd ρ σ G' H' z R rr => hx xv dd G' H' z R.ok rr⟩⟩

/-- the context of a def's body, calm or not -/
abbrev cxG (cm : Bool) (pn : List (Addr × Obj)) (P : Program) (w : World) (K : Frg) (mg : Str → Option Value) (base : Heap) (N : List Str) (qual : Str) (scope : Scope) (f : Addr) (cd : Value) (A : Around) (outer : List Env) (s : Shared) (H : Hp) (E : XK) : Cx :=
  { cxOf (L2N.CX P w) P w K mg base N qual scope f cd A outer s H E with calm := cm, pn := pn }
/-- the promise of a def over its bound parameters -/
structure FnO (hot : Bool) (P : Program) (w : World) (K : Frg) (mg : Str → Option Value) (base : Heap) (k : Nat) (f : Addr) (fd : FuncData) (ps : List Str) (sp : Sp) : Prop where
  calm : FnOk P w K mg base (L2N.CX P w) k f fd ps sp
  hot : hot = true → L2H.FnH P w K mg base (L2N.CX P w) k f fd ps sp
/-- what a body's derivation may use: W, how it stands, room for k calls, what is raised is taken -/
structure Here (hot : Bool) (X : Cx) (W : WX) (k : Nat) : Prop where
  md : Md X hot
  rm : L2H.RoomH k X.A
  tk : L2N.Takes X W
  own : PassesOwn (model X.prog X.w) X.A X.env X.xe
section
variable {P : Program} {w : World} {K : Frg} {mg : Str → Option Value} {base : Heap} {x qual : Str} {params : Arguments} {body : List Stmt} {scope : Scope} {dvs : List V} {kws : List (Str × V)} {f : Addr} {fd : FuncData} {N ps : List Str} {k : Nat} {sp : Sp}
theorem here_of {hot : Bool} {cm : Bool} {pn : List (Addr × Obj)} {cd : Value} {A : Around} {outer : List Env} {s : Shared} {H : Hp} {E : XK} (hr : L2H.RoomH k (A.deeper (envOfC qual scope s.heap.objs.size f cd))) (md : Md (cxG cm pn P w K mg base N qual scope f cd A outer s H E) hot) :
    Here hot (cxG cm pn P w K mg base N qual scope f cd A outer s H E) (fun cls dd _ H' => E cls dd H') k :=
  ⟨md, hr, L2N.takes_of rfl rfl rfl rfl, L2.passes_of rfl⟩
/-- a def whose body is derived wherever it may stand -/
theorem fn_o (hot : Bool) (Fn : FunD K x qual params body scope dvs kws f fd) (S : FnScope N ps scope) (len : ∀ vs H Q E, sp vs H Q E → vs.length = ps.length)
    (h : ∀ (cm : Bool) (pn : List (Addr × Obj)) (cd : Value) (A : Around) (outer : List Env) (s : Shared) (H : Hp) (vs : List V) (Q : VK) (E : XK), (hot = false → cm = true) → Here hot (cxG cm pn P w K mg base N qual scope f cd A outer s H E) (fun cls dd _ H' => E cls dd H') k → sp vs H Q E →
      ∃ t, PSs (cxG cm pn P w K mg base N qual scope f cd A outer s H E) body t ∧ t { nx := fun _ H' => Q .non H', rt := Q } (L2.start N vs) H) : FnO hot P w K mg base (k + 1) f fd ps sp := by
  obtain ⟨oc, od, dV, kV, doc, pm, an, cdv, ct, osl, rfl, lk, hcd, _, _⟩ := Fn.ex
  refine ⟨fn_of lk hcd S len fun A outer s H vs Q E hr hs => h true [] cdv A outer s H vs Q E (fun _ => rfl) (here_of (L2H.roomH_of hr) (.inl rfl)) hs, fun hh => ?_⟩
  refine L2H.fn_ofH lk hcd S len fun A outer s H vs Q E p hot1 hr hs => ?_
  exact h false [p] cdv A outer s H vs Q E (fun z => by rw [hh] at z; cases z) (here_of hr (.inr ⟨hh, p, hot1, by exact List.mem_cons_self⟩)) hs
/-- the pure form -/
theorem fn_p (hot : Bool) (Fn : FunD K x qual params body scope dvs kws f fd) (S : FnScope N ps scope) (c : Ct) (d : DS) (len : ∀ as q z, c as q z → as.length = ps.length)
    (der : ∀ (cm : Bool) (pn : List (Addr × Obj)) (cd : Value) (A : Around) (outer : List Env) (s : Shared) (H : Hp) (E : XK), (hot = false → cm = true) → Here hot (cxG cm pn P w K mg base N qual scope f cd A outer s H E) (fun cls dd _ H' => E cls dd H') k →
      BJ (cxG cm pn P w K mg base N qual scope f cd A outer s H E) (fun cls dd _ H' => E cls dd H') body d)
    (pure_ : ∀ as q z, c as q z → d (endsOf q z) (startE N.length as)) : FnO hot P w K mg base (k + 1) f fd ps (spP K c) :=
  fn_o hot Fn S (fun vs H Q E ⟨F, G, as, q, z, _, _, _, _, r, hc, _⟩ => by rw [r.length]; exact len as q z hc) fun cm pn cd A outer s H vs Q E hcm he hs => ⟨_, der cm pn cd A outer s H E hcm he, body_of pure_ hs⟩
/-- called with all its parameters by place -/
theorem FnO.s {hot : Bool} (Fn : FnO hot P w K mg base k f fd ps sp) (b : Binds K fd ps []) : FnS hot P w K mg base k f [] sp := fun A outer s H us ws vs Q E hm hr e0 hl r h => by
  have hw : ws = [] := List.eq_nil_of_length_eq_zero hl
  subst hw
  rw [List.append_nil] at r
  have KX : K.In s.heap := e0.mod.kin.keeps fun b o e => (e0.bs b o e).1
  have bb := b s us KX (by rw [List.append_nil, ← r.length]; exact Fn.calm.len _ _ _ _ h)
  rw [List.append_nil] at bb
  rcases hm with z | ⟨z, p, h1, h2⟩
  · exact Fn.calm.run A outer s H ⟨us, []⟩ us vs Q E ⟨z, hr.dp, hr.un⟩ e0 bb r h
  · exact (Fn.hot z).run A outer s H ⟨us, []⟩ us vs Q E p hr h1 h2 e0 bb r h
/-- defaults fill up: the promise of what is written -/
theorem FnO.sD {hot : Bool} {c : Ct} {ds : List Value} {dv : List V} {dp : List PV} (Fn : FnO hot P w K mg base k f fd ps (spP K c)) (b : Binds K fd ps ds) (vd : Vals dv ds) (rd : ∀ bx G, Reps K bx G dp dv) : FnS hot P w K mg base k f [] (spP K fun as q z => c (as ++ dp) q z) := fun A outer s H us ws vs Q E hm hr e0 hl r h => by
  have hw : ws = [] := List.eq_nil_of_length_eq_zero hl
  subst hw
  rw [List.append_nil] at r
  have KX : K.In s.heap := e0.mod.kin.keeps fun b o e => (e0.bs b o e).1
  have h' : spP K c (vs ++ dv) H Q E := by
    obtain ⟨F, G, as, q, z, h1, h2, h3, o, rr, hc, hq⟩ := h
    exact ⟨F, G, as ++ dp, q, z, h1, h2, h3, o, rr.append (rd _ _), hc, hq⟩
  have r2 : Vals (vs ++ dv) (us ++ ds) := r.append vd
  have bb := b s us KX (by rw [← r2.length]; exact Fn.calm.len _ _ _ _ h')
  rcases hm with z | ⟨z, p, h1, h2⟩
  · exact Fn.calm.run A outer s H ⟨us, []⟩ _ _ Q E ⟨z, hr.dp, hr.un⟩ e0 bb r2 h'
  · exact (Fn.hot z).run A outer s H ⟨us, []⟩ _ _ Q E p hr h1 h2 e0 bb r2 h'
end
end Pw
namespace Pw
open PySem PySem.Spec PyProof.Rows L2

/-! ## a state told anew: what stands now stands for ever -/
def Fx.at (F : Fx) (G : Hp) : Fx := { F with G0 := G }
theorem Ok.reroot {F : Fx} {G H : Hp} (o : Ok F G H) : Ok (F.at G) G H := ⟨o.keep, o.dom, .refl _, o.sub, fun _ _ e => .inl e, o.box⟩
theorem Ok.unroot {F : Fx} {G H G' H' : Hp} (o : Ok F G H) (o' : Ok (F.at G) G' H') : Ok F G' H' :=
  ⟨o'.keep, o'.dom, o.gx.trans o'.gx, o'.sub, fun a u e => (o'.new a u e).elim (fun z => o.new a u z) .inr, o'.box⟩
theorem SlotOk.at {K : Frg} {F : Fx} {G0 G H : Hp} : ∀ {s : Slot} {v : V}, SlotOk K F G H s v → SlotOk K (F.at G0) G H s v
  | .val _, _, h => h
  | .ownL _, _, h => h
  | .ownO _ _ _, _, h => h
theorem SlotOk.unat {K : Frg} {F : Fx} {G0 G H : Hp} : ∀ {s : Slot} {v : V}, SlotOk K (F.at G0) G H s v → SlotOk K F G H s v
  | .val _, _, h => h
  | .ownL _, _, h => h
  | .ownO _ _ _, _, h => h
theorem Rel.reroot {K : Frg} {F : Fx} {ρ : En} {σ : L2.St} {G H : Hp} (R : Rel K F ρ σ G H) : Rel K (F.at G) ρ σ G H :=
  ⟨R.ok.reroot, R.len, fun i s e => by obtain ⟨v, e1, r⟩ := R.at_ i s e; exact ⟨v, e1, r.at⟩, R.inj⟩
theorem Rel.unroot {K : Frg} {F : Fx} {ρ : En} {σ : L2.St} {G H G' H' : Hp} (o : Ok F G H) (R : Rel K (F.at G) ρ σ G' H') : Rel K F ρ σ G' H' :=
  ⟨o.unroot R.ok, R.len, fun i s e => by obtain ⟨v, e1, r⟩ := R.at_ i s e; exact ⟨v, e1, r.unat⟩, R.inj⟩
theorem Go.unroot {F : Fx} {G H G1 H1 G2 H2 : Hp} (o : Ok F G H) (g : Go (F.at G) G1 H1 G2 H2) : Go F G1 H1 G2 H2 := ⟨o.unroot g.ok, g.gx, g.keep, g.new⟩
theorem EndsOk.unroot {K : Frg} {W : WX} {F : Fx} {P : DEn} {D : Ends} {G H : Hp} (o : Ok F G H) (eo : EndsOk K W F P D) : EndsOk K W (F.at G) P D :=
  ⟨fun ρ σ G' H' h R => eo.nx ρ σ G' H' h (R.unroot o), fun p v G' H' h o' r => eo.rt p v G' H' h (o.unroot o') r, fun ρ σ G' H' h R => eo.bk ρ σ G' H' h (R.unroot o), fun ρ σ G' H' h R => eo.ct ρ σ G' H' h (R.unroot o),
    fun xv d ρ σ G' H' h R r => eo.xc xv d ρ σ G' H' h (R.unroot o) r⟩

/-! ## what is walked -/
abbrev DI := En → (List PV → Prop) → (XV → Prop) → Prop
structure ItOk (K : Frg) (F : Fx) (G0 : Hp) (J : It) (xs : List PV) : Prop where
  go : ∀ (i : Nat) G H, Sub G0 G → Ok F G H → i < xs.length → J.go i H
  yld : ∀ (i : Nat) G H v H' x, Sub G0 G → Ok F G H → xs[i]? = some x → J.yld i H v H' → ∃ G', Go F G H G' H' ∧ Rep K F.b G' x v
  stop : ∀ (i : Nat) G H, Sub G0 G → Ok F G H → xs.length ≤ i → J.stop i H
def tI (K : Frg) (W : WX) (d : DI) : TI := fun σ H R => ∃ (F : Fx) (ρ : En) (G : Hp) (q : List PV → Prop) (x : XV → Prop), Rel K F ρ σ G H ∧ d ρ q x ∧ (∀ xs J G' H', q xs → Go F G H G' H' → ItOk K F G' J xs → R J H') ∧ GoodX K W F G H σ x
abbrev IJ (X : Cx) (W : WX) (tg iter : Expr) (d : DI) : Prop := PI X tg iter (tI X.K W d)
theorem pi_imp {X : Cx} {tg it : Expr} {t t' : TI} (h : PI X tg it t) (i : ∀ σ H Q, t' σ H Q → t σ H Q) : PI X tg it t' := ⟨fun pins s σ H Q J z => h.run pins s σ H Q J (i σ H Q z)⟩
theorem itok_list {K : Frg} {F : Fx} {G : Hp} {a : Addr} {xs : List PV} {vs : List V} (sq : SqL K G a vs) (rs : Reps K F.b G xs vs) : ItOk K F G (Itl K a) xs := by
  have hl := rs.length
  refine ⟨fun i G' H s o hi => ?_, fun i G' H v H' x s o e y => ?_, fun i G' H s o hi => ⟨vs, o.sub.l (s.l sq), by omega⟩⟩
  · have hi' : i < vs.length := by omega
    exact ⟨vs, vs[i], o.sub.l (s.l sq), by simp [hi']⟩
  · obtain ⟨rfl, hy⟩ := y
    have e1 := hy vs (o.sub.l (s.l sq))
    obtain ⟨u, e2, r⟩ := rs.get e
    rw [e1] at e2
    cases e2
    exact ⟨G', .refl o, r.mono s⟩
theorem itok_tup {K : Frg} {F : Fx} {G : Hp} {a : Addr} {xs : List PV} {vs : List V} (sq : SqT K G a vs) (rs : Reps K F.b G xs vs) : ItOk K F G (Itt K a) xs := by
  have hl := rs.length
  refine ⟨fun i G' H s o hi => ?_, fun i G' H v H' x s o e y => ?_, fun i G' H s o hi => ⟨vs, o.sub.t (s.t sq), by omega⟩⟩
  · have hi' : i < vs.length := by omega
    exact ⟨vs, vs[i], o.sub.t (s.t sq), by simp [hi']⟩
  · obtain ⟨rfl, hy⟩ := y
    have e1 := hy vs (o.sub.t (s.t sq))
    obtain ⟨u, e2, r⟩ := rs.get e
    rw [e1] at e2
    cases e2
    exact ⟨G', .refl o, r.mono s⟩
/-- the ints lo, lo + 1, .. -/
def rangeP (lo : Int) (n : Nat) : List PV := (List.range n).map fun i => .int (lo + (i : Nat))
theorem rangeP_get {lo : Int} {n i : Nat} {x : PV} (h : (rangeP lo n)[i]? = some x) : i < n ∧ x = .int (lo + (i : Nat)) := by
  unfold rangeP at h
  rw [List.getElem?_map] at h
  by_cases hi : i < n
  · rw [List.getElem?_range hi] at h
    exact ⟨hi, (Option.some.inj h).symm⟩
  · rw [List.getElem?_eq_none (by simpa using hi)] at h; cases h
theorem rangeP_len (lo : Int) (n : Nat) : (rangeP lo n).length = n := by unfold rangeP; simp
theorem itok_range {K : Frg} {F : Fx} {G : Hp} (lo : Int) (n : Nat) : ItOk K F G (Itr lo n) (rangeP lo n) := by
  refine ⟨fun i G' H s o hi => by rw [rangeP_len] at hi; exact hi, fun i G' H v H' x s o e y => ?_, fun i G' H s o hi => by rw [rangeP_len] at hi; exact hi⟩
  obtain ⟨hi, rfl⟩ := rangeP_get e
  obtain ⟨rfl, rfl⟩ := y
  exact ⟨G', .refl o, rep_int _⟩
def iLst (d : DE) : DI := fun ρ q x => d ρ (fun p => ∃ xs, p = .lst xs ∧ q xs) x
def iTupl (d : DE) : DI := fun ρ q x => d ρ (fun p => ∃ xs, p = .tup xs ∧ q xs) x
def iR1 (d : DA) : DI := fun ρ q x => d ρ (fun ps => ∃ n : Int, ps = [.int n] ∧ -(2 ^ 62) ≤ n ∧ n < 2 ^ 62 ∧ q (rangeP 0 n.toNat)) x
def iR2 (d : DA) : DI := fun ρ q x => d ρ (fun ps => ∃ m n : Int, ps = [.int m, .int n] ∧ (-(2 ^ 62) ≤ m ∧ m < 2 ^ 62 ∧ -(2 ^ 62) ≤ n ∧ n < 2 ^ 62) ∧ q (rangeP m (n - m).toNat)) x
section
variable {X : Cx} {W : WX} {tg e : Expr} {es : List Expr} {pos p0 : Pos} {d : DE} {ds : DA}
theorem i_list (h : EJ X W e d) (hc : X.calm = true) : IJ X W tg e (iLst d) := pi_imp (pi_list h) fun σ H R ⟨F, ρ, G, q, x, Rl, h, gv, gx⟩ =>
  ⟨F, ρ, G, _, x, Rl, h, fun p v G1 H1 ⟨xs, e1, h1⟩ g1 r1 => by
    subst e1
    obtain ⟨a, vs, rfl, sq, rs⟩ := r1.lst_inv
    exact ⟨a, rfl, ⟨vs, g1.ok.sub.l sq⟩, gv xs _ G1 H1 h1 g1 (itok_list sq rs)⟩, gx⟩
theorem i_tup (h : EJ X W e d) (hc : X.calm = true) : IJ X W tg e (iTupl d) := pi_imp (pi_tup h) fun σ H R ⟨F, ρ, G, q, x, Rl, h, gv, gx⟩ =>
  ⟨F, ρ, G, _, x, Rl, h, fun p v G1 H1 ⟨xs, e1, h1⟩ g1 r1 => by
    subst e1
    obtain ⟨a, vs, rfl, sq, rs⟩ := r1.tup_inv
    exact ⟨a, rfl, ⟨vs, g1.ok.sub.t sq⟩, gv xs _ G1 H1 h1 g1 (itok_tup sq rs)⟩, gx⟩
theorem Reps.int1 {K : Frg} {bx : Option Addr} {G : Hp} {n : Int} {vs : List V} (h : Reps K bx G [.int n] vs) : vs = [.int n] := by
  obtain ⟨v, ws, rfl, r, rs⟩ := h.cons_inv
  rw [r.int_inv, rs.nil_inv]
theorem Reps.int2 {K : Frg} {bx : Option Addr} {G : Hp} {m n : Int} {vs : List V} (h : Reps K bx G [.int m, .int n] vs) : vs = [.int m, .int n] := by
  obtain ⟨v, ws, rfl, r, rs⟩ := h.cons_inv
  rw [r.int_inv, rs.int1]
theorem i_range1 (hm : X.mg "range" = none) (ha : AJ X W [e] ds) (hg : Gl X "range" := by rfl) (h1 : starEach [e] X.env = [(false, eval e X.env)] := by rfl) : IJ X W tg (.Call (.Name "range" p0) [e] [] pos) (iR1 ds) := pi_imp (pi_range1 hg hm ha h1) fun σ H R ⟨F, ρ, G, q, x, Rl, h, gv, gx⟩ =>
  ⟨F, ρ, G, _, x, Rl, h, fun ps vs G1 H1 ⟨n, e1, b1, b2, h1⟩ g1 r1 => by
    subst e1
    exact ⟨n, r1.int1, b1, b2, gv _ _ G1 H1 h1 g1 (itok_range 0 _)⟩, gx⟩
theorem i_range2 {e2 : Expr} (hm : X.mg "range" = none) (ha : AJ X W [e, e2] ds) (hg : Gl X "range" := by rfl) (h1 : starEach [e, e2] X.env = [(false, eval e X.env), (false, eval e2 X.env)] := by rfl) (h2 : starEach [e2] X.env = [(false, eval e2 X.env)] := by rfl) : IJ X W tg (.Call (.Name "range" p0) [e, e2] [] pos) (iR2 ds) := pi_imp (pi_range2 hg hm ha h1 h2) fun σ H R ⟨F, ρ, G, q, x, Rl, h, gv, gx⟩ =>
  ⟨F, ρ, G, _, x, Rl, h, fun ps vs G1 H1 ⟨m, n, e1, b1, h1⟩ g1 r1 => by
    subst e1
    exact ⟨m, n, r1.int2, b1, gv _ _ G1 H1 h1 g1 (itok_range m _)⟩, gx⟩
end

/-! ## targets -/
inductive Tg where
  | one (i : Nat)
  | many (is : List Nat)
def Tg.idx : Tg → List Nat
  | .one i => [i]
  | .many is => is
def setAll : List Nat → List PV → En → En
  | i :: is, p :: ps, ρ => setAll is ps (ρ.set i (some (.val p)))
  | _, _, ρ => ρ
def setT : Tg → PV → En → (En → Prop) → Prop
  | .one i, p, ρ, k => k (ρ.set i (some (.val p)))
  | .many is, p, ρ, k => ∃ xs, p = .tup xs ∧ xs.length = is.length ∧ k (setAll is xs ρ)
def gNs : List Nat → TGs
  | [] => gNil
  | i :: is => gCons (gName i) (gNs is)
def tgOf (K : Frg) : Tg → TG
  | .one i => gName i
  | .many is => gTup K is.length (gNs is)
/-- what the slots are behind the target -/
def setVs : List Nat → List V → L2.St → L2.St
  | i :: is, v :: vs, σ => setVs is vs (σ.set i (some v))
  | _, _, σ => σ
theorem gNs_ok {Q : L2.St → Hp → Prop} {H : Hp} : ∀ {is : List Nat} {vs : List V} {σ : L2.St}, vs.length = is.length → Q (setVs is vs σ) H → gNs is vs σ H Q
  | [], [], σ, _, h => ⟨rfl, h⟩
  | i :: is, v :: vs, σ, hl, h => ⟨v, vs, rfl, gNs_ok (is := is) (vs := vs) (by simpa using hl) h⟩
theorem Rel.setAll {K : Frg} {F : Fx} {G H : Hp} : ∀ {is : List Nat} {xs : List PV} {vs : List V} {ρ : En} {σ : L2.St}, Rel K F ρ σ G H → Reps K F.b G xs vs → Rel K F (Pw.setAll is xs ρ) (setVs is vs σ) G H
  | [], xs, vs, ρ, σ, R, r => by
    cases xs <;> cases vs <;> exact R
  | i :: is, [], vs, ρ, σ, R, r => by rw [r.nil_inv]; exact R
  | i :: is, x :: xs, vs, ρ, σ, R, r => by
    obtain ⟨v, ws, rfl, r1, r2⟩ := r.cons_inv
    exact Rel.setAll (is := is) (R.set i r1) r2
theorem wipe_get {σ : L2.St} {vs : List Nat} {i : Nat} (h : i ∈ vs) (hi : i < σ.length) : (wipe σ vs)[i]? = some none := by
  induction vs with
  | nil => cases h
  | cons v vs ih =>
    unfold wipe
    by_cases z : v = i
    · subst z
      rw [List.getElem?_set_self (by rw [wipe_length]; exact hi)]
    · rw [List.getElem?_set_ne z]
      exact ih ((List.mem_cons.mp h).resolve_left fun e => z e.symm)
theorem wipe_get2 {σ : L2.St} {vs : List Nat} {i : Nat} (h : i ∉ vs) : (wipe σ vs)[i]? = σ[i]? := by
  induction vs with
  | nil => rfl
  | cons v vs ih =>
    unfold wipe
    rw [List.getElem?_set_ne (fun z => h (by rw [z]; exact List.mem_cons_self))]
    exact ih fun z => h (List.mem_cons_of_mem _ z)
theorem wipe_ext {σ τ : L2.St} {vs : List Nat} (hl : σ.length = τ.length) (h : ∀ i, i ∉ vs → σ[i]? = τ[i]?) : wipe σ vs = wipe τ vs := by
  apply List.ext_getElem?
  intro i
  by_cases hi : i ∈ vs
  · by_cases hb : i < σ.length
    · rw [wipe_get hi hb, wipe_get hi (by omega)]
    · rw [List.getElem?_eq_none (by rw [wipe_length]; omega), List.getElem?_eq_none (by rw [wipe_length]; omega)]
  · rw [wipe_get2 hi, wipe_get2 hi]
    exact h i hi
theorem setVs_len : ∀ (is : List Nat) (vs : List V) (σ : L2.St), (setVs is vs σ).length = σ.length
  | [], vs, σ => by cases vs <;> rfl
  | i :: is, [], σ => rfl
  | i :: is, v :: vs, σ => by unfold setVs; rw [setVs_len is vs, List.length_set]
theorem setVs_out : ∀ (is : List Nat) (vs : List V) (σ : L2.St) {j : Nat}, j ∉ is → (setVs is vs σ)[j]? = σ[j]?
  | [], vs, σ, j, h => by cases vs <;> rfl
  | i :: is, [], σ, j, h => rfl
  | i :: is, v :: vs, σ, j, h => by
    unfold setVs
    rw [setVs_out is vs _ fun z => h (List.mem_cons_of_mem _ z), List.getElem?_set_ne fun z => h (by rw [z]; exact List.mem_cons_self)]
/-- the target takes a value -/
theorem tg_ok {K : Frg} {F : Fx} {ρ : En} {σ : L2.St} {G H : Hp} {t : Tg} {p : PV} {v : V} {k : En → Prop} {Q : L2.St → Hp → Prop} {own : List Nat} (hw : ∀ i ∈ t.idx, i ∈ own) (R : Rel K F ρ σ G H) (r : Rep K F.b G p v) (h : setT t p ρ k)
    (hq : ∀ ρ' σ', k ρ' → Rel K F ρ' σ' G H → wipe σ' own = wipe σ own → Q σ' H) : tgOf K t v σ H Q := by
  cases t with
  | one i => exact hq _ _ h (R.set i r) (wipe_ext (by rw [List.length_set]) fun j hj => List.getElem?_set_ne fun z => hj (by rw [← z]; exact hw i (by unfold Tg.idx; exact List.mem_cons_self)))
  | many is =>
    obtain ⟨xs, rfl, hl, hk⟩ := h
    obtain ⟨a, vs, rfl, sq, rs⟩ := r.tup_inv
    have hv := rs.length
    exact ⟨a, vs, rfl, R.ok.sub.t sq, by omega, gNs_ok (by omega) (hq _ _ hk (R.setAll rs) (wipe_ext (setVs_len _ _ _) fun j hj => setVs_out _ _ _ fun z => hj (hw j z)))⟩
section
variable {X : Cx} {pos : Pos}
theorem g_one (i : Nat) {x : Str} (nd : X.N.Nodup) (hi : X.N[i]? = some x := by rfl) (hx : Loc X.env.scope x := by first | exact Or.inl rfl | exact Or.inr rfl) (hf : X.fn x = true ∨ X.env.scope.names.lookup x = some .local := by first | exact .inl rfl | exact .inr rfl | assumption) : PG X (.Name x pos) (tgOf X.K (.one i)) := pg_name nd hi hx hf
end

/-! ## loops -/
def forD (t : Tg) (db : DS) : List PV → DS
  | [], P, ρ => P.nx ρ
  | x :: xs, P, ρ => setT t x ρ fun ρ' => db { P with nx := fun ρ'' => forD t db xs P ρ'', ct := fun ρ'' => forD t db xs P ρ'', bk := P.nx } ρ'
def dFor (t : Tg) (di : DI) (db : DS) : DS := fun P ρ => di ρ (fun xs => forD t db xs P ρ) (fun xv => P.xc xv ρ)
theorem drop_get {α : Type} {xs : List α} {i : Nat} (h : i < xs.length) : xs.drop i = xs[i] :: xs.drop (i + 1) := List.drop_eq_getElem_cons h
theorem s_for {X : Cx} {W : WX} {tg iter : Expr} {body : List Stmt} {pos : Pos} {di : DI} {db : DS} {t : Tg} (hp : PassesOwn (model X.prog X.w) X.A X.env X.xe) (hc : X.calm = true) (hi : IJ X W tg iter di) (hg : PG X tg (tgOf X.K t)) (hb : BJ X W body db)
    (hs : ∀ x, foldedSetIterable iter X.env x = pure x := by intro _; rfl) : SJ X W (.For tg iter body [] pos) (dFor t di db) := ps_imp (ps_for hp hc hi hg hb hs) fun D σ H ⟨F, ρ, G, P, R, h, eo⟩ => by
  refine ⟨F, ρ, G, _, _, R, h, fun xs J G1 H1 hf g1 io => ?_, eo.gx R⟩
  have o1 := g1.ok
  refine ⟨fun i m σ' H' => m = xs.length - i ∧ i ≤ xs.length ∧ ∃ ρ' G', Rel X.K (F.at G1) ρ' σ' G' H' ∧ forD t db (xs.drop i) P ρ', ⟨xs.length, by omega, Nat.zero_le _, ρ, G1, (R.go g1).reroot, hf⟩, ?_⟩
  rintro i m σ' H' ⟨rfl, hle, ρ', G', R', hf'⟩
  have o' := o1.unroot R'.ok
  by_cases hlt : i < xs.length
  · rw [drop_get hlt] at hf'
    refine .inr ⟨io.go i G' H' R'.ok.gx o' hlt, fun σ2 H2 => ∃ ρ2 G2, Rel X.K (F.at G1) ρ2 σ2 G2 H2 ∧ forD t db (xs.drop (i + 1)) P ρ2, fun σ2 H2 ⟨ρ2, G2, R2, h2⟩ => ⟨xs.length - (i + 1), by omega, rfl, hlt, ρ2, G2, R2, h2⟩, fun v H2 y => ?_⟩
    obtain ⟨G2, g2, r2⟩ := io.yld i G' H' v H2 xs[i] R'.ok.gx o' (List.getElem?_eq_getElem hlt) y
    have R2 : Rel X.K (F.at G1) ρ' σ' G2 H2 := R'.go ⟨⟨g2.ok.keep, g2.ok.dom, R'.ok.gx.trans g2.gx, g2.ok.sub, fun a u e => by
      rcases g2.new a u e with z | z
      · exact R'.ok.new a u z
      · exact .inr (R'.ok.dom a z), g2.ok.box⟩, g2.gx, g2.keep, g2.new⟩
    refine tg_ok (own := t.idx) (fun _ z => z) R2 r2 hf' fun ρ3 σ3 h3 R3 _ => ?_
    exact ⟨F.at G1, ρ3, G2, _, R3, h3, ⟨fun ρ4 σ4 G4 H4 h4 R4 => ⟨ρ4, G4, R4, h4⟩, fun p v G4 H4 h4 o4 r4 => eo.rt p v G4 H4 h4 (o1.unroot o4) r4, fun ρ4 σ4 G4 H4 h4 R4 => eo.nx ρ4 σ4 G4 H4 h4 (R4.unroot o1), fun ρ4 σ4 G4 H4 h4 R4 => ⟨ρ4, G4, R4, h4⟩,
      fun xv d ρ4 σ4 G4 H4 h4 R4 r4 => eo.xc xv d ρ4 σ4 G4 H4 h4 (R4.unroot o1) r4⟩⟩
  · have e : i = xs.length := by omega
    subst e
    rw [List.drop_length] at hf'
    exact .inl ⟨io.stop _ G' H' R'.ok.gx o' (Nat.le_refl _), eo.nx _ _ _ _ hf' (R'.unroot o1)⟩

/-! ## comprehensions -/
def wipeE (ρ : En) : List Nat → En
  | [] => ρ
  | v :: vs => (wipeE ρ vs).set v none
theorem wipeE_len (ρ : En) : ∀ vs : List Nat, (wipeE ρ vs).length = ρ.length
  | [] => rfl
  | v :: vs => by unfold wipeE; rw [List.length_set, wipeE_len ρ vs]
theorem wipeE_some {ρ : En} {i : Nat} {s : Slot} : ∀ {vs : List Nat}, (wipeE ρ vs)[i]? = some (some s) → ρ[i]? = some (some s) ∧ i ∉ vs
  | [], h => ⟨h, by simp⟩
  | v :: vs, h => by
    unfold wipeE at h
    rcases set_get h with ⟨_, z⟩ | ⟨n, z⟩
    · cases z
    · obtain ⟨h1, h2⟩ := wipeE_some z
      exact ⟨h1, by simp only [List.mem_cons, not_or]; exact ⟨fun e => n e.symm, h2⟩⟩
theorem Rel.wipe {K : Frg} {F : Fx} {ρ : En} {σ : L2.St} {G H : Hp} (R : Rel K F ρ σ G H) (vs : List Nat) : Rel K F (wipeE ρ vs) (L2.wipe σ vs) G H :=
  R.weak (by rw [wipe_length, wipeE_len]; exact R.len) fun i s e => by
    obtain ⟨h1, h2⟩ := wipeE_some e
    exact ⟨h1, wipe_get2 h2⟩
def noX : XV → Prop := fun _ => False
def lcD (t : Tg) (own : List Nat) (dt : DT) (de : DE) (ρ : En) (q : List PV → Prop) : List PV → List PV → Prop
  | [], acc => q acc
  | y :: ys, acc => setT t y (wipeE ρ own) fun ρ' => dt ρ' (fun b => if b = true then de ρ' (fun p => lcD t own dt de ρ q ys (acc ++ [p])) noX else lcD t own dt de ρ q ys acc) noX
def lComp (t : Tg) (own : List Nat) (di : DI) (dt : DT) (de : DE) : DL := fun ρ q x => di ρ (fun xs => xs.length ≤ sizeLine ∧ lcD t own dt de ρ q xs []) x
abbrev Wno : WX := fun _ _ _ _ => False
/-- the tests of a comprehension -/
abbrev TsJ (X : Cx) (W : WX) (ifs : List Expr) (d : DT) : Prop := PTs X ifs (tT X.K W d)
def dYes : DT := fun _ q _ => q true
theorem ts_nil {X : Cx} {W : WX} : TsJ X W [] dYes := ⟨fun pins s σ H Q J ⟨F, ρ, G, q, x, R, h, gv, gx⟩ => pts_nil.run pins s σ H Q J (gv true G H h (.refl R.ok))⟩
theorem ts_one {X : Cx} {W : WX} {c : Expr} {d : DT} (h : TJ X W c d) : TsJ X W [c] d := pts_one h
theorem go_back {F : Fx} {G G1 H H1 G2 H2 : Hp} (o1 : Ok F G1 H1) (g : Go F G H G2 H2) (s : Sub G1 G) (o : Ok (F.at G1) G H) : Go (F.at G1) G H G2 H2 :=
  ⟨⟨g.ok.keep, g.ok.dom, s.trans g.gx, g.ok.sub, fun a u e => by
      rcases g.new a u e with z | z
      · exact o.new a u z
      · exact .inr (o.dom a z), g.ok.box⟩, g.gx, g.keep, g.new⟩
/-- a list that nobody else holds is changed -/
theorem Ok.mut {F : Fx} {G H : Hp} (o : Ok F G H) {l : Addr} {u u' : HO} (hl : H l = some u) (gl : G l = none) (h0 : F.H0 l = none ∨ F.M l) (nb : ¬ F.isB l) : Ok F G (upd H l u') := by
  refine ⟨fun a x e n => ?_, fun a e => ?_, o.gx, fun a x e => ?_, o.new, fun b c e => ?_⟩
  · by_cases z : a = l
    · subst z
      rcases h0 with h0 | h0
      · rw [h0] at e; cases e
      · exact absurd h0 n
    · rw [upd_ne z]; exact o.keep a x e n
  · by_cases z : a = l
    · subst z; rw [upd_same] at e; cases e
    · rw [upd_ne z] at e; exact o.dom a e
  · rw [upd_ne (ne_of_none e gl)]; exact o.sub a x e
  · obtain ⟨bt, gb, gc, mb, mc⟩ := o.box b c e
    exact ⟨bt.same fun a x q r => by
      rw [upd_ne fun z => nb ⟨b, c, e, r.elim (fun y => .inl (z.symm.trans y)) fun y => .inr (z.symm.trans y)⟩]; exact q, gb, gc, mb, mc⟩
theorem Rel.mutD {K : Frg} {F : Fx} {ρ : En} {σ : L2.St} {G H : Hp} (R : Rel K F ρ σ G H) {l : Addr} {u u' : HO} (hl : H l = some u) (gl : G l = none) (h0 : F.H0 l = none ∨ F.M l) (nb : ¬ F.isB l)
    (no : ∀ (j : Nat) (s : Slot) (v : V), ρ[j]? = some (some s) → σ[j]? = some (some v) → s.own v ≠ some l) : Rel K F ρ σ G (upd H l u') :=
  ⟨R.ok.mut hl gl h0 nb, R.len, fun i s e => by
    obtain ⟨v, e1, r⟩ := R.at_ i s e
    refine ⟨v, e1, ?_⟩
    have nn := no i s v e e1
    cases s with
    | val x => exact r
    | ownL xs =>
      obtain ⟨a, vs, rfl, ga, na, ha, rr⟩ := r
      exact ⟨a, vs, rfl, ga, na, by rw [upd_ne fun z => nn (by rw [z]; rfl)]; exact ha, rr⟩
    | ownO me c fs =>
      obtain ⟨a, dx, vs, rfl, ga, na, ha, rr⟩ := r
      exact ⟨a, dx, vs, rfl, ga, na, by rw [upd_ne fun z => nn (by rw [z]; rfl)]; exact ha, rr⟩, R.inj⟩
theorem tlc_of {K : Frg} {W : WX} {t : Tg} {own : List Nat} {di : DI} {dt : DT} {de : DE} (hw : ∀ i ∈ t.idx, i ∈ own) {σ : L2.St} {H : Hp} {Q : VK} (h : tL K W (lComp t own di dt de) σ H Q) : tLc (tI K W di) (tgOf K t) (tT K Wno dt) (tE K Wno de) own σ H Q := by
  obtain ⟨F, ρ, G, q, x, R, h, gl, gx⟩ := h
  refine ⟨F, ρ, G, _, x, R, h, fun xs J G1 H1 ⟨hz, hf⟩ g1 io => ?_, gx⟩
  intro D hD
  have o1 := g1.ok
  have g1' := o1.new2 (u := .lst []) hD
  have hD0 : H D = none := g1.back hD
  have nbD : ¬ F.isB D := fun z => by obtain ⟨u, e⟩ := R.ok.isB_some z; rw [hD0] at e; cases e
  have h0D : F.H0 D = none := R.ok.dom D hD0
  have gD : G1 D = none := o1.sub.free hD
  have Rw : Rel K (F.at G1) (wipeE ρ own) (L2.wipe σ own) G1 (upd H1 D (.lst [])) := ((R.go (g1.trans g1')).wipe own).reroot
  have noD : ∀ (j : Nat) (s : Slot) (v : V), (wipeE ρ own)[j]? = some (some s) → (L2.wipe σ own)[j]? = some (some v) → s.own v ≠ some D := fun j s v e e1 z => by
    obtain ⟨u, e3⟩ := (R.wipe own).own_some e e1 z
    rw [hD0] at e3; cases e3
  refine ⟨fun i m H' => m = xs.length - i ∧ i ≤ xs.length ∧ ∃ G' acc av, Rel K (F.at G1) (wipeE ρ own) (L2.wipe σ own) G' H' ∧ (∀ a o, H a = some o → ¬ F.isB a → H' a = some o) ∧ (∀ a o, G' a = some o → G a = some o ∨ H a = none) ∧ G' D = none ∧ H' D = some (.lst av) ∧ Reps K F.b G' acc av ∧ acc.length ≤ i ∧ lcD t own dt de ρ q (xs.drop i) acc,
    ⟨xs.length, by omega, Nat.zero_le _, G1, [], [], Rw, (g1.trans g1').keep, (g1.trans g1').new, gD, upd_same, .nil, Nat.le_refl _, hf⟩, ?_⟩
  rintro i m H' ⟨rfl, hle, G', acc, av, R', kp, nw, gD', hD', rs, hal, hf'⟩
  have o' := o1.unroot R'.ok
  by_cases hlt : i < xs.length
  · rw [drop_get hlt] at hf'
    refine .inr ⟨io.go i G' H' R'.ok.gx o' hlt, fun H2 => ∃ G2 acc2 av2, Rel K (F.at G1) (wipeE ρ own) (L2.wipe σ own) G2 H2 ∧ (∀ a o, H a = some o → ¬ F.isB a → H2 a = some o) ∧ (∀ a o, G2 a = some o → G a = some o ∨ H a = none) ∧ G2 D = none ∧ H2 D = some (.lst av2) ∧ Reps K F.b G2 acc2 av2 ∧ acc2.length ≤ i + 1 ∧ lcD t own dt de ρ q (xs.drop (i + 1)) acc2,
      fun H2 z => ⟨xs.length - (i + 1), by omega, rfl, hlt, z⟩, fun v H2 y => ?_⟩
    obtain ⟨G2, g2, r2⟩ := io.yld i G' H' v H2 xs[i] R'.ok.gx o' (List.getElem?_eq_getElem hlt) y
    have g2' := go_back o1 g2 R'.ok.gx R'.ok
    have fresh : ∀ {Ga Ha Gb Hb : Hp}, Go (F.at G1) Ga Ha Gb Hb → (∀ a o, Ga a = some o → G a = some o ∨ H a = none) → (∀ a o, H a = some o → ¬ F.isB a → Ha a = some o) → (∀ a o, Gb a = some o → G a = some o ∨ H a = none) := fun {Ga Ha Gb Hb} g n kk a o e => by
      rcases g.new a o e with z | z
      · exact n a o z
      · refine .inr ?_
        cases qq : H a with
        | none => rfl
        | some u =>
          by_cases ib : F.isB a
          · have : Gb a = none := by
              obtain ⟨b, c, eb, rr⟩ := ib
              obtain ⟨_, gb, gc, _⟩ := g.ok.box b c eb
              rcases rr with rfl | rfl
              · exact gb
              · exact gc
            rw [this] at e; cases e
          · rw [kk a u qq ib] at z; cases z
    have stays : ∀ {Ga Ha Gb Hb : Hp} {av : List V}, Go (F.at G1) Ga Ha Gb Hb → Ga D = none → Ha D = some (.lst av) → Gb D = none ∧ Hb D = some (.lst av) := fun {Ga Ha Gb Hb av} g n e => by
      refine ⟨?_, g.keep D _ e nbD⟩
      cases qq : Gb D with
      | none => rfl
      | some u =>
        rcases g.new D u qq with z | z
        · rw [n] at z; cases z
        · rw [e] at z; cases z
    refine tg_ok hw (R'.go g2') r2 hf' fun ρ3 σ3 h3 R3 hws => ⟨hws.trans (wipe_ext (wipe_length _ _) fun j hj => wipe_get2 hj), ?_⟩
    obtain ⟨gD2, hD2⟩ := stays g2' gD' hD'
    have kp2 : ∀ a o, H a = some o → ¬ F.isB a → H2 a = some o := fun a o e n => g2.keep a o (kp a o e n) n
    refine ⟨F.at G1, ρ3, G2, _, noX, R3, h3, fun b G3 H3 h4 g3 => ?_, fun _ _ _ _ z => z.elim⟩
    have g23 := g2'.trans g3
    obtain ⟨gD3, hD3⟩ := stays g3 gD2 hD2
    have kp3 : ∀ a o, H a = some o → ¬ F.isB a → H3 a = some o := fun a o e n => g3.keep a o (kp2 a o e n) n
    have nw3 := fresh g3 (fresh g2' nw kp) kp2
    cases b with
    | false =>
      exact ⟨G3, acc, av, R'.go g23, kp3, nw3, gD3, hD3, rs.mono g23.gx, by omega, h4⟩
    | true =>
      refine ⟨F.at G1, ρ3, G3, _, noX, R3.go g3, h4, fun p u G4 H4 h5 g4 r4 => ?_, fun _ _ _ _ z => z.elim⟩
      obtain ⟨gD4, hD4⟩ := stays g4 gD3 hD3
      have hlen := rs.length
      have kp4 : ∀ a o, H a = some o → ¬ F.isB a → H4 a = some o := fun a o e n => g4.keep a o (kp3 a o e n) n
      refine ⟨av, hD4, by omega, G4, acc ++ [p], av ++ [u], (R'.go (g23.trans g4)).mutD hD4 gD4 (.inl h0D) nbD noD, fun a o e n => ?_, fresh g4 nw3 kp3, gD4, upd_same, (rs.mono (g23.trans g4).gx).append (.cons r4 .nil), by simp; omega, h5⟩
      rw [upd_ne (ne_of_none e hD0)]
      exact kp4 a o e n
  · have e : i = xs.length := by omega
    subst e
    rw [List.drop_length] at hf'
    refine .inl ⟨io.stop _ G' H' R'.ok.gx o' (Nat.le_refl _), gl acc D av G' H' hf' ⟨o', g1.gx.trans R'.ok.gx, kp, nw⟩ hD0 gD' hD' rs⟩
theorem l_comp {X : Cx} {W : WX} {elt tg iter : Expr} {ifs : List Expr} {scope : Scope} {own : List (Str × Nat)} {pos : Pos} {di : DI} {dt : DT} {de : DE} {t : Tg} (hc : X.calm = true) (nd : X.N.Nodup) (hi : IJ X W tg iter di) (ok : BlkOk X.N X.env.scope scope own)
    (hg : ∀ (s : Shared) (H : Hp) (C : Addr) (cl : List (Str × Addr)) (fp : List Addr), PG (X.blk s H scope (compEnvC scope cl C X.env) fp) tg (tgOf X.K t)) (ht : ∀ (s : Shared) (H : Hp) (C : Addr) (cl : List (Str × Addr)) (fp : List Addr), TsJ (X.blk s H scope (compEnvC scope cl C X.env) fp) Wno ifs dt)
    (he : ∀ (s : Shared) (H : Hp) (C : Addr) (cl : List (Str × Addr)) (fp : List Addr), EJ (X.blk s H scope (compEnvC scope cl C X.env) fp) Wno elt de) (hw : ∀ i ∈ t.idx, i ∈ own.map (·.2) := by decide) (hs : ∀ x, foldedSetIterable iter X.env x = pure x := by intro _; rfl) :
    LJ X W (.ListComp elt [⟨tg, iter, ifs, 0⟩] scope pos) (lComp t (own.map (·.2)) di dt de) := pe_imp (pe_lc hc nd hi ok hg ht he hs) fun σ H Q h => tlc_of hw h
end Pw
namespace Pw
open PySem PySem.Spec PyProof.Rows L2

/-! ## facts about the classes, as a check finds them -/
def subCl : Cl → Cl → Bool := fun c d => decide (c = d) || (match c, d with
  | .Filter, .Ink => true | .Opaque, .Ink => true | .Bleach, .Ink => true
  | _, _ => false)
def tys : List String := ["int", "str", "bool", "tuple", "list", "dict"]
/-- a class whose instances are read and stored plainly -/
def kcB (K : Frg) (c : Cl) : Bool := (He.Fa.cls c.name).ok K && (He.eqO (PySem.W.findIn K (.ref (ca K c)) "__class__") (some (some (.builtin "object.__class__"))) &&
  (He.eqO (PySem.W.specialIn K (.builtin "object.__class__") "__get__") (some (some (.builtin "getset_descriptor.__get__"))) && (decide (PySem.W.takesIn K (.builtin "object.__class__") = some true) &&
    (decide (PySem.W.mroIn K (ca K c) (.type "object") = some true) && c.flds.all fun f => He.eqO (PySem.W.findIn K (.ref (ca K c)) f) (some none)))))
structure KC (K : Frg) (c : Cl) : Prop where
  cls : Cls K (ca K c)
  k1 : PySem.W.findIn K (.ref (ca K c)) "__class__" = some (some (.builtin "object.__class__"))
  k2 : PySem.W.specialIn K (.builtin "object.__class__") "__get__" = some (some (.builtin "getset_descriptor.__get__"))
  k3 : PySem.W.takesIn K (.builtin "object.__class__") = some true
  k4 : PySem.W.mroIn K (ca K c) (.type "object") = some true
  no : ∀ f ∈ c.flds, NoAttr K (ca K c) f
theorem kcB_ok {K : Frg} {c : Cl} (h : kcB K c = true) : KC K c := by
  obtain ⟨h1, h⟩ := He.ba h
  obtain ⟨h2, h⟩ := He.ba h
  obtain ⟨h3, h⟩ := He.ba h
  obtain ⟨h4, h⟩ := He.ba h
  obtain ⟨h5, h6⟩ := He.ba h
  exact ⟨He.cls_ok h1, He.eqO_ok h2, He.eqO_ok h3, of_decide_eq_true h4, of_decide_eq_true h5, fun f hf => He.eqO_ok (List.all_eq_true.mp h6 f hf)⟩
/-- isinstance among the classes hs -/
def isB (K : Frg) (hs : List Cl) : Bool := hs.all fun c => (hs.all fun d => decide (PySem.W.kitOne K (.ref (ca K c)) (.ref (ca K d)) = some (subCl c d))) && ((tys.all fun n => decide (PySem.W.kitOne K (.ref (ca K c)) (.type n) = some false)) &&
  (tys.all fun n => decide (PySem.W.kitOne K (.type n) (.ref (ca K c)) = some false)) && decide (PySem.W.kitOne K (.type "NoneType") (.ref (ca K c)) = some false))
structure KI (K : Frg) (hs : List Cl) : Prop where
  kc : ∀ c ∈ hs, KC K c
  oo : ∀ c ∈ hs, ∀ d ∈ hs, PySem.W.kitOne K (.ref (ca K c)) (.ref (ca K d)) = some (subCl c d)
  ot : ∀ c ∈ hs, ∀ n ∈ tys, PySem.W.kitOne K (.ref (ca K c)) (.type n) = some false
  to : ∀ c ∈ hs, ∀ n ∈ tys, PySem.W.kitOne K (.type n) (.ref (ca K c)) = some false
  no : ∀ c ∈ hs, PySem.W.kitOne K (.type "NoneType") (.ref (ca K c)) = some false
def kiB (K : Frg) (hs : List Cl) : Bool := hs.all (kcB K) && isB K hs
theorem kiB_ok {K : Frg} {hs : List Cl} (h : kiB K hs = true) : KI K hs := by
  obtain ⟨h1, h2⟩ := He.ba h
  have g := List.all_eq_true.mp h2
  refine ⟨fun c hc => kcB_ok (List.all_eq_true.mp h1 c hc), fun c hc d hd => ?_, fun c hc n hn => ?_, fun c hc n hn => ?_, fun c hc => ?_⟩
  · exact of_decide_eq_true (List.all_eq_true.mp (He.ba (g c hc)).1 d hd)
  · exact of_decide_eq_true (List.all_eq_true.mp (He.ba (He.ba (He.ba (g c hc)).2).1).1 n hn)
  · exact of_decide_eq_true (List.all_eq_true.mp (He.ba (He.ba (He.ba (g c hc)).2).1).2 n hn)
  · exact of_decide_eq_true (He.ba (He.ba (g c hc)).2).2

/-! ## attributes -/
/-- the place of a field -/
def fldAt (f : Str) : List Str → List PV → Option PV
  | g :: gs, x :: xs => if f = g then some x else fldAt f gs xs
  | _, _ => none
theorem fldAt_ok {K : Frg} {bx : Option Addr} {G : Hp} {f : Str} {x : PV} : ∀ {gs : List Str} {xs : List PV} {vs : List V}, fldAt f gs xs = some x → Reps K bx G xs vs → f ∈ gs ∧ ∃ v, (gs.zip vs).lookup f = some v ∧ Rep K bx G x v
  | [], xs, vs, e, r => by cases xs <;> simp [fldAt] at e
  | g :: gs, [], vs, e, r => by simp [fldAt] at e
  | g :: gs, y :: xs, vs, e, r => by
    obtain ⟨v, ws, rfl, r1, r2⟩ := r.cons_inv
    unfold fldAt at e
    by_cases h : f = g
    · rw [if_pos h] at e
      cases e
      subst h
      exact ⟨List.mem_cons_self, v, by simp [List.lookup], r1⟩
    · rw [if_neg h] at e
      obtain ⟨m, u, e1, e2⟩ := fldAt_ok e r2
      have hb : (f == g) = false := by simpa using h
      exact ⟨List.mem_cons_of_mem _ m, u, by simp [List.lookup, hb, e1], e2⟩
theorem lookup_zip_none {f : Str} : ∀ {gs : List Str} {vs : List V}, f ∉ gs → (gs.zip vs).lookup f = none
  | [], vs, _ => rfl
  | g :: gs, [], _ => rfl
  | g :: gs, v :: vs, h => by
    have hb : (f == g) = false := by
      have : f ≠ g := fun z => h (by rw [z]; exact List.mem_cons_self)
      simpa using this
    simp only [List.zip_cons_cons, List.lookup, hb]
    exact lookup_zip_none fun z => h (List.mem_cons_of_mem _ z)
def fAttr (hs : List Cl) (f : Str) : PV → (PV → Prop) → Prop := fun p q => ∃ c xs x, p = .obj c xs ∧ c ∈ hs ∧ fldAt f c.flds xs = some x ∧ q x
section
variable {X : Cx} {W : WX} {pos p0 : Pos} {e : Expr} {es : List Expr} {d : DE} {ds : DA} {hs : List Cl}
theorem e_attr {f : Str} (ki : KI X.K hs) (h : EJ X W e d) (hb : attributeBase e f X.env (eval e X.env) = eval e X.env := by rfl) : EJ X W (.Attribute e f pos) (dUn (fAttr hs f) d) := pe_imp (pe_fld h hb) fun σ H Q ⟨F, ρ, G, q, x, R, h, gv, gx⟩ =>
  ⟨F, ρ, G, _, x, R, h, fun p v G1 H1 ⟨c, xs, y, e1, hc, e2, h1⟩ g1 r1 => by
    subst e1
    obtain ⟨a, dx, vs, rfl, ea, hl, rs⟩ := r1.obj_inv
    obtain ⟨m, u, e3, r3⟩ := fldAt_ok e2 rs
    exact ⟨a, ca X.K c, dx, _, u, rfl, g1.ok.sub _ _ ea, (ki.kc c hc).cls, (ki.kc c hc).no f m, e3, gv _ _ _ _ h1 g1 r3⟩, gx⟩
end

/-! ## built-in functions by name -/
/-- f tells what the reading r of a call asks -/
def PCl (K : Frg) (r : List V → Hp → VK → Prop) (f : List PV → (PV → Prop) → Prop) : Prop := ∀ (F : Fx) (G H : Hp) (ps : List PV) (vs : List V) (q : PV → Prop) (Q : VK), Ok F G H → Reps K F.b G ps vs → f ps q → GoodV K F G H q Q → r vs H Q
def dB1 (f : List PV → (PV → Prop) → Prop) (ds : DA) : DE := fun ρ q x => ds ρ (fun ps => f ps q) x
theorem tcb_of {K : Frg} {W : WX} {r : List V → Hp → VK → Prop} {f : List PV → (PV → Prop) → Prop} {ds : DA} (hp : PCl K r f) {σ : L2.St} {H : Hp} {Q : VK} (h : tE K W (dB1 f ds) σ H Q) : tCB r (tA K W ds) σ H Q := by
  obtain ⟨F, ρ, G, q, x, R, h, gv, gx⟩ := h
  exact ⟨F, ρ, G, _, x, R, h, fun ps vs G1 H1 h1 g1 r1 => hp F G1 H1 ps vs q Q g1.ok r1 h1 (gv.go g1), gx⟩
section
variable {X : Cx} {W : WX} {pos p0 : Pos} {e : Expr} {es : List Expr} {d : DE} {ds : DA} {r : List V → Hp → VK → Prop} {f : List PV → (PV → Prop) → Prop} {x : Str} {id : String}
theorem e_blt (hc : CallR X (.builtin id) r) (hp : PCl X.K r f) (hm : X.mg x = none) (hv : bootBuiltins x = some (.builtin id)) (ha : AJ X W (e :: es) ds) (hg : Gl X x := by rfl) (h1 : x ≠ "__name__" := by decide) (h2 : (x == ("__debug__" : Str)) = false := by decide)
    (h3 : starEach (e :: es) X.env = (false, eval e X.env) :: starEach es X.env := by rfl) (h4 : (backTo pos (starEach es X.env)).any (·.1) = false := by rfl) : EJ X W (.Call (.Name x p0) (e :: es) [] pos) (dB1 f ds) := pe_imp (pe_callB hc hg hm hv ha h1 h2 h3 h4) fun _ _ _ h => tcb_of hp h
theorem e_bty (hc : CallR X (.type id) r) (hp : PCl X.K r f) (hm : X.mg x = none) (hv : bootBuiltins x = some (.type id)) (ha : AJ X W (e :: es) ds) (hg : Gl X x := by rfl) (h1 : x ≠ "__name__" := by decide) (h2 : (x == ("__debug__" : Str)) = false := by decide)
    (h3 : starEach (e :: es) X.env = (false, eval e X.env) :: starEach es X.env := by rfl) (h4 : (backTo pos (starEach es X.env)).any (·.1) = false := by rfl) : EJ X W (.Call (.Name x p0) (e :: es) [] pos) (dB1 f ds) := pe_imp (pe_callTy hc hg hm hv ha h1 h2 h3 h4) fun _ _ _ h => tcb_of hp h
/-- a built-in class, as a value -/
theorem e_ty (n : String) {x : Str} (hm : X.mg x = none) (hv : bootBuiltins x = some (.type n)) (hg : Gl X x := by rfl) (h1 : x ≠ "__name__" := by decide) (h2 : (x == ("__debug__" : Str)) = false := by decide) : EJ X W (.Name x pos) (dC (.ty n)) := e_c (pe_bltn hg hm hv (show RelV (.ty n) _ from rfl) h1 h2) fun _ _ => rep_ty n
def lenP : PV → Option Int
  | .lst xs => some xs.length
  | .tup xs => some xs.length
  | .str z => if z.length ≤ sizeLine then some z.length else none
  | _ => none
def fLen : List PV → (PV → Prop) → Prop := fun ps q => ∃ p n, ps = [p] ∧ lenP p = some n ∧ q (.int n)
theorem pcl_len {K : Frg} : PCl K (fun xs H Q => ∃ x n, xs = [x] ∧ LenV K x H n ∧ Q (.int n) H) fLen := fun F G H ps vs q Q o rs ⟨p, n, e, hn, hq⟩ gv => by
  subst e
  obtain ⟨v, ws, rfl, r, rn⟩ := rs.cons_inv
  rw [rn.nil_inv]
  cases p with
  | str z =>
    simp only [lenP] at hn
    rw [r.str_inv]
    by_cases hz : z.length ≤ sizeLine
    · rw [if_pos hz] at hn; cases hn
      exact ⟨_, _, rfl, ⟨hz, rfl⟩, gv _ _ _ _ hq (.refl o) (rep_int _)⟩
    · rw [if_neg hz] at hn; cases hn
  | tup xs =>
    obtain ⟨a, us, rfl, sq, r2⟩ := r.tup_inv
    cases hn
    have := r2.length
    exact ⟨_, us.length, rfl, .inr ⟨us, o.sub.t sq, rfl⟩, by rw [this]; exact gv _ _ _ _ hq (.refl o) (rep_int _)⟩
  | lst xs =>
    obtain ⟨a, us, rfl, sq, r2⟩ := r.lst_inv
    cases hn
    have := r2.length
    exact ⟨_, us.length, rfl, .inl ⟨us, o.sub.l sq, rfl⟩, by rw [this]; exact gv _ _ _ _ hq (.refl o) (rep_int _)⟩
  | _ => simp [lenP] at hn
theorem e_len (hm : X.mg "len" = none) (ha : AJ X W [e] ds) (hg : Gl X "len" := by rfl) (h3 : starEach [e] X.env = (false, eval e X.env) :: starEach [] X.env := by rfl) (h4 : (backTo pos (starEach [] X.env)).any (·.1) = false := by rfl) : EJ X W (.Call (.Name "len" p0) [e] [] pos) (dB1 fLen ds) := e_blt call_len pcl_len hm boot_len ha hg (by decide) (by decide) h3 h4
def fInt : List PV → (PV → Prop) → Prop
  | [.int i], q => q (.int i)
  | [.bl k], q => q (.int (if k then 1 else 0))
  | _, _ => False
theorem pcl_int {K : Frg} : PCl K (fun xs H Q => (∃ i, xs = [.int i] ∧ Q (.int i) H) ∨ ∃ k, xs = [.bl k] ∧ Q (.int (if k then 1 else 0)) H) fInt := fun F G H ps vs q Q o rs h gv => by
  match ps, h with
  | [.int i], h => exact .inl ⟨i, rs.int1, gv _ _ _ _ h (.refl o) (rep_int _)⟩
  | [.bl k], h =>
    obtain ⟨v, ws, rfl, r, rn⟩ := rs.cons_inv
    exact .inr ⟨k, by rw [r.bl_inv, rn.nil_inv], gv _ _ _ _ h (.refl o) (rep_int _)⟩
theorem e_toInt (hm : X.mg "int" = none) (ha : AJ X W [e] ds) (hg : Gl X "int" := by rfl) (h3 : starEach [e] X.env = (false, eval e X.env) :: starEach [] X.env := by rfl) (h4 : (backTo pos (starEach [] X.env)).any (·.1) = false := by rfl) : EJ X W (.Call (.Name "int" p0) [e] [] pos) (dB1 fInt ds) := e_bty call_int1 pcl_int hm boot_int ha hg (by decide) (by decide) h3 h4
def fBool : List PV → (PV → Prop) → Prop
  | [.int i], q => q (.bl (i != 0))
  | [.bl k], q => q (.bl k)
  | _, _ => False
theorem pcl_bool {K : Frg} : PCl K (fun xs H Q => (∃ i, xs = [.int i] ∧ Q (.bl (i != 0)) H) ∨ ∃ k, xs = [.bl k] ∧ Q (.bl k) H) fBool := fun F G H ps vs q Q o rs h gv => by
  match ps, h with
  | [.int i], h => exact .inl ⟨i, rs.int1, gv _ _ _ _ h (.refl o) (rep_bl _)⟩
  | [.bl k], h =>
    obtain ⟨v, ws, rfl, r, rn⟩ := rs.cons_inv
    exact .inr ⟨k, by rw [r.bl_inv, rn.nil_inv], gv _ _ _ _ h (.refl o) (rep_bl _)⟩
/-- all(..), any(..), sum(..) of a list -/
theorem Reps.bls {K : Frg} {bx : Option Addr} {G : Hp} : ∀ {bs : List Bool} {vs : List V}, Reps K bx G (bs.map .bl) vs → vs = bs.map V.bl
  | [], vs, h => h.nil_inv
  | n :: ns, vs, h => by
    obtain ⟨v, us, rfl, q, qs⟩ := Reps.cons_inv (xs := ns.map PV.bl) h
    rw [q.bl_inv, Reps.bls qs]
    rfl
def fAll : List PV → (PV → Prop) → Prop := fun ps q => ∃ bs : List Bool, ps = [.lst (bs.map .bl)] ∧ q (.bl (bs.all fun b => b))
def fAny : List PV → (PV → Prop) → Prop := fun ps q => ∃ bs : List Bool, ps = [.lst (bs.map .bl)] ∧ q (.bl (bs.any fun b => b))
def fSum : List PV → (PV → Prop) → Prop := fun ps q => ∃ ns : List Int, ps = [.lst (ns.map .int)] ∧ q (.int ns.sum)
theorem one_lst {K : Frg} {bx : Option Addr} {G : Hp} {xs : List PV} {vs : List V} (rs : Reps K bx G [.lst xs] vs) : ∃ a us, vs = [.ref a] ∧ SqL K G a us ∧ Reps K bx G xs us := by
  obtain ⟨v, ws, rfl, r, rn⟩ := rs.cons_inv
  obtain ⟨a, us, rfl, sq, r2⟩ := r.lst_inv
  exact ⟨a, us, by rw [rn.nil_inv], sq, r2⟩
theorem pcl_all {K : Frg} : PCl K (rAll K) fAll := fun F G H ps vs q Q o rs ⟨bs, e, hq⟩ gv => by
  subst e
  obtain ⟨a, us, rfl, sq, r2⟩ := one_lst rs
  rw [r2.bls] at sq
  exact ⟨a, bs, rfl, o.sub.l sq, gv _ _ _ _ hq (.refl o) (rep_bl _)⟩
theorem pcl_any {K : Frg} : PCl K (rAny K) fAny := fun F G H ps vs q Q o rs ⟨bs, e, hq⟩ gv => by
  subst e
  obtain ⟨a, us, rfl, sq, r2⟩ := one_lst rs
  rw [r2.bls] at sq
  exact ⟨a, bs, rfl, o.sub.l sq, gv _ _ _ _ hq (.refl o) (rep_bl _)⟩
theorem pcl_sum {K : Frg} : PCl K (rSum K) fSum := fun F G H ps vs q Q o rs ⟨bs, e, hq⟩ gv => by
  subst e
  obtain ⟨a, us, rfl, sq, r2⟩ := one_lst rs
  rw [r2.ints] at sq
  exact ⟨a, bs, rfl, o.sub.l sq, gv _ _ _ _ hq (.refl o) (rep_int _)⟩
/-- tuple(list), tuple(tuple) -/
def fTuple : List PV → (PV → Prop) → Prop
  | [.lst xs], q => q (.tup xs)
  | [.tup xs], q => q (.tup xs)
  | _, _ => False
theorem pcl_tuple {K : Frg} : PCl K (fun xs H Q => ∃ p ys, xs = [.ref p] ∧ ((SqL K H p ys ∧ ∀ l, H l = none → Q (.ref l) (upd H l (.tup ys))) ∨ (SqT K H p ys ∧ Q (.ref p) H))) fTuple := fun F G H ps vs q Q o rs h gv => by
  match ps, h with
  | [.lst xs], h =>
    obtain ⟨a, us, rfl, sq, r2⟩ := one_lst rs
    refine ⟨a, us, rfl, .inl ⟨o.sub.l sq, fun l hl => ?_⟩⟩
    have g := o.new1 (u := .tup us) hl
    exact gv _ _ _ _ h g (rep_tup (.inl (.inl upd_same)) (r2.mono g.gx))
  | [.tup xs], h =>
    obtain ⟨v, ws, rfl, r, rn⟩ := rs.cons_inv
    obtain ⟨a, us, rfl, sq, r2⟩ := r.tup_inv
    exact ⟨a, us, by rw [rn.nil_inv], .inr ⟨o.sub.t sq, gv _ _ _ _ h (.refl o) (rep_tup sq r2)⟩⟩
/-! isinstance -/
def isiP (hs : List Cl) : PV → PV → Option Bool
  | .obj c _, .cls d => if c ∈ hs ∧ d ∈ hs then some (subCl c d) else none
  | .obj c _, .ty n => if c ∈ hs ∧ n ∈ tys then some false else none
  | .int _, .ty n => kitB "int" n
  | .bl _, .ty n => kitB "bool" n
  | .str _, .ty n => kitB "str" n
  | .tup _, .ty n => kitB "tuple" n
  | .lst _, .ty n => kitB "list" n
  | .non, .ty n => kitB "NoneType" n
  | .int _, .cls d => if d ∈ hs then some false else none
  | .bl _, .cls d => if d ∈ hs then some false else none
  | .str _, .cls d => if d ∈ hs then some false else none
  | .tup _, .cls d => if d ∈ hs then some false else none
  | .lst _, .cls d => if d ∈ hs then some false else none
  | .non, .cls d => if d ∈ hs then some false else none
  | _, _ => none
def fIsi (hs : List Cl) : List PV → (PV → Prop) → Prop := fun ps q => ∃ p c b, ps = [p, c] ∧ isiP hs p c = some b ∧ q (.bl b)
theorem tyX_of {K : Frg} {hs : List Cl} {F : Fx} {G H : Hp} (ki : KI K hs) (o : Ok F G H) {p : PV} {v : V} (r : Rep K F.b G p v) :
    (∀ t, (match p with | .int _ => some "int" | .bl _ => some "bool" | .str _ => some "str" | .tup _ => some "tuple" | .lst _ => some "list" | .non => some "NoneType" | _ => none) = some t → TyX K H v (.type t)) ∧ (∀ c xs, p = .obj c xs → c ∈ hs → TyX K H v (.ref (ca K c))) := by
  refine ⟨fun t e => ?_, fun c xs e hc => ?_⟩
  · cases p <;> simp only [Option.some.injEq, reduceCtorEq] at e <;> try contradiction
    · subst e; rw [r.non_inv]; exact .base .non
    · subst e; rw [r.bl_inv]; exact .base (.bl _)
    · subst e; rw [r.int_inv]; exact .base (.int _)
    · subst e; rw [r.str_inv]; exact .base (.str _)
    · subst e
      obtain ⟨a, us, rfl, sq, _⟩ := r.tup_inv
      rcases o.sub.t sq with (z | ⟨ob, z⟩) | ⟨ob, its, n, z, zc, _⟩
      · exact .base (.tup z)
      · exact .fTuple z
      · exact .kTuple z zc
    · subst e
      obtain ⟨a, us, rfl, sq, _⟩ := r.lst_inv
      rcases o.sub.l sq with (z | ⟨ob, z⟩) | ⟨ob, its, n, z, zc, _⟩
      · exact .base (.lst z)
      · exact .base (.frz z)
      · exact .kList z zc
  · subst e
    obtain ⟨a, dx, vs, rfl, ea, _⟩ := r.obj_inv
    have k := ki.kc c hc
    exact .base (.ins (o.sub _ _ ea) k.cls k.k1 k.k2 k.k3 k.k4)
theorem pcl_isi {K : Frg} {hs : List Cl} (ki : KI K hs) : PCl K (rIsi K) (fIsi hs) := fun F G H ps vs q Q o rs ⟨p, c, b, e, hb, hq⟩ gv => by
  subst e
  obtain ⟨v, ws, rfl, r1, rs⟩ := rs.cons_inv
  obtain ⟨u, ws, rfl, r2, rn⟩ := rs.cons_inv
  rw [rn.nil_inv]
  have fin : ∀ {t w : Value}, TyX K H v t → ClsV u w → PySem.W.kitOne K t w = some b → rIsi K [v, u] H Q := fun t1 c1 k1 => ⟨v, u, _, _, b, rfl, c1, t1, k1, gv _ _ _ _ hq (.refl o) (rep_bl _)⟩
  obtain ⟨tb, tob⟩ := tyX_of ki o r1
  cases c with
  | ty n =>
    have cu : ClsV u (.type n) := by rw [r2.ty_inv]; exact .ty n
    cases p with
    | int i => exact fin (tb _ rfl) cu (kit_ty hb)
    | bl i => exact fin (tb _ rfl) cu (kit_ty hb)
    | str i => exact fin (tb _ rfl) cu (kit_ty hb)
    | tup i => exact fin (tb _ rfl) cu (kit_ty hb)
    | lst i => exact fin (tb _ rfl) cu (kit_ty hb)
    | non => exact fin (tb _ rfl) cu (kit_ty hb)
    | obj c xs =>
      simp only [isiP] at hb
      by_cases z : c ∈ hs ∧ n ∈ tys
      · rw [if_pos z] at hb; cases hb
        exact fin (tob c xs rfl z.1) cu (ki.ot c z.1 n z.2)
      · rw [if_neg z] at hb; cases hb
    | _ => simp [isiP] at hb
  | cls dd =>
    have cu : ClsV u (.ref (ca K dd)) := by rw [r2.cls_inv]; exact .own _
    have low : ∀ t, TyX K H v (.type t) → (t ∈ tys ∨ t = "NoneType") → (if dd ∈ hs then some false else none) = some b → rIsi K [v, u] H Q := fun t tt ht hb => by
      by_cases z : dd ∈ hs
      · rw [if_pos z] at hb; cases hb
        rcases ht with ht | rfl
        · exact fin tt cu (ki.to dd z t ht)
        · exact fin tt cu (ki.no dd z)
      · rw [if_neg z] at hb; cases hb
    cases p with
    | int i => exact low _ (tb _ rfl) (.inl (by decide)) hb
    | bl i => exact low _ (tb _ rfl) (.inl (by decide)) hb
    | str i => exact low _ (tb _ rfl) (.inl (by decide)) hb
    | tup i => exact low _ (tb _ rfl) (.inl (by decide)) hb
    | lst i => exact low _ (tb _ rfl) (.inl (by decide)) hb
    | non => exact low _ (tb _ rfl) (.inr rfl) hb
    | obj c xs =>
      simp only [isiP] at hb
      by_cases z : c ∈ hs ∧ dd ∈ hs
      · rw [if_pos z] at hb; cases hb
        exact fin (tob c xs rfl z.1) cu (ki.oo c z.1 dd z.2)
      · rw [if_neg z] at hb; cases hb
    | _ => simp [isiP] at hb
  | _ => cases p <;> simp [isiP] at hb
end

/-! ## subscripts -/
def ixP : PV → PV → (PV → Prop) → Prop
  | .lst xs, .int i, q => ∃ x, atI xs i = some x ∧ q x
  | .tup xs, .int i, q => ∃ x, atI xs i = some x ∧ q x
  | .str z, .int i, q => z.length ≤ sizeLine ∧ ∃ c, atI z.cps.toList i = some c ∧ q (.str ⟨#[c]⟩)
  | _, _, _ => False
theorem atI_rep {K : Frg} {bx : Option Addr} {G : Hp} {xs : List PV} {vs : List V} {i : Int} {x : PV} (rs : Reps K bx G xs vs) (h : atI xs i = some x) : ∃ v, atI vs i = some v ∧ Rep K bx G x v := by
  unfold atI at h ⊢
  rw [rs.length]
  cases e : ixN xs.length i with
  | none => rw [e] at h; cases h
  | some j =>
    rw [e] at h
    exact rs.get h
theorem pop_ix {K : Frg} : POp K (rIx K) ixP := fun F G H a b va vb q Q o ra rb h gv => by
  match a, b, h with
  | .lst xs, .int i, ⟨x, e, hq⟩ =>
    obtain ⟨p, vs, rfl, sq, rs⟩ := ra.lst_inv
    obtain ⟨v, e1, r⟩ := atI_rep rs e
    exact .inl ⟨p, vs, i, v, rfl, rb.int_inv, o.sub.l sq, e1, gv _ _ _ _ hq (.refl o) r⟩
  | .tup xs, .int i, ⟨x, e, hq⟩ =>
    obtain ⟨p, vs, rfl, sq, rs⟩ := ra.tup_inv
    obtain ⟨v, e1, r⟩ := atI_rep rs e
    exact .inr (.inl ⟨p, vs, i, v, rfl, rb.int_inv, o.sub.t sq, e1, gv _ _ _ _ hq (.refl o) r⟩)
  | .str z, .int i, ⟨hz, c, e, hq⟩ =>
    exact .inr (.inr ⟨z, i, c, ra.str_inv, rb.int_inv, hz, e, gv _ _ _ _ hq (.refl o) (rep_str _)⟩)
section
variable {X : Cx} {W : WX} {pos p0 p1 : Pos} {a b c e : Expr} {da db dc : DE}
theorem e_ix (ha : EJ X W a da) (hb : EJ X W b db) (hp : PlainIx b := by exact fun _ _ => rfl) : EJ X W (.Subscript a b pos) (dOp ixP da db) := pe_imp (pe_ix ix_seq ha hb hp) fun _ _ _ h => top_of pop_ix h
/-! x in xs -/
def eqF : PV → PV → Bool
  | .non, .non => true
  | .bl a, .bl b => a == b
  | .bl a, .int b => (if a then 1 else 0) == b
  | .int a, .bl b => a == (if b then 1 else 0)
  | .int a, .int b => a == b
  | .str a, .str b => a == b
  | _, _ => false
def flatP : PV → Bool
  | .non => true | .bl _ => true | .int _ => true | .str _ => true
  | _ => false
def inP (x : PV) (xs : List PV) : Bool := xs.any fun y => eqF y x
theorem flat_ok {K : Frg} {bx : Option Addr} {G : Hp} {p : PV} {v : V} (r : Rep K bx G p v) (h : flatP p = true) : flatV v = true := by
  cases p <;> simp only [flatP, Bool.false_eq_true] at h
  · rw [r.non_inv]; rfl
  · rw [r.bl_inv]; rfl
  · rw [r.int_inv]; rfl
  · rw [r.str_inv]; rfl
theorem eqF_ok {K : Frg} {bx : Option Addr} {G : Hp} {p s : PV} {v u : V} (r : Rep K bx G p v) (r2 : Rep K bx G s u) (h : flatP p = true) (h2 : flatP s = true) : eqV v u = eqF p s := by
  cases p <;> simp only [flatP, Bool.false_eq_true] at h <;> cases s <;> simp only [flatP, Bool.false_eq_true] at h2 <;>
    (first | rw [r.non_inv] | rw [r.bl_inv] | rw [r.int_inv] | rw [r.str_inv]) <;> (first | rw [r2.non_inv] | rw [r2.bl_inv] | rw [r2.int_inv] | rw [r2.str_inv]) <;> rfl
theorem in_ok {K : Frg} {bx : Option Addr} {G : Hp} {p : PV} {v : V} (r : Rep K bx G p v) (h : flatP p = true) : ∀ {xs : List PV} {vs : List V}, Reps K bx G xs vs → xs.all flatP = true → vs.all flatV = true ∧ inV v vs = inP p xs
  | [], vs, rs, _ => by rw [rs.nil_inv]; exact ⟨rfl, rfl⟩
  | x :: xs, vs, rs, ha => by
    obtain ⟨u, ws, rfl, r1, r2⟩ := rs.cons_inv
    simp only [List.all_cons, Bool.and_eq_true] at ha
    obtain ⟨i1, i2⟩ := in_ok r h r2 ha.2
    refine ⟨by simp only [List.all_cons, flat_ok r1 ha.1, i1, Bool.and_self], ?_⟩
    unfold inV inP at i2 ⊢
    rw [List.any_cons, List.any_cons, i2, eqF_ok r1 r ha.1 h]
def seqOf : PV → Option (List PV)
  | .lst xs => some xs
  | .tup xs => some xs
  | _ => none
def fIn (neg : Bool) : PV → PV → (PV → Prop) → Prop := fun x s q => ∃ xs, seqOf s = some xs ∧ flatP x = true ∧ xs.all flatP = true ∧ q (.bl (if neg = true then !inP x xs else inP x xs))
theorem pop_in {K : Frg} {neg : Bool} : POp K (rIn K neg) (fIn neg) := fun F G H a b va vb q Q o ra rb ⟨xs, e, h1, h2, hq⟩ gv => by
  cases b <;> simp only [seqOf, Option.some.injEq, reduceCtorEq] at e
  · subst e
    obtain ⟨p, vs, rfl, sq, rs⟩ := rb.tup_inv
    obtain ⟨i1, i2⟩ := in_ok ra h1 rs h2
    exact ⟨p, vs, rfl, .inr (o.sub.t sq), flat_ok ra h1, i1, by rw [i2]; exact gv _ _ _ _ hq (.refl o) (rep_bl _)⟩
  · subst e
    obtain ⟨p, vs, rfl, sq, rs⟩ := rb.lst_inv
    obtain ⟨i1, i2⟩ := in_ok ra h1 rs h2
    exact ⟨p, vs, rfl, .inl (o.sub.l sq), flat_ok ra h1, i1, by rw [i2]; exact gv _ _ _ _ hq (.refl o) (rep_bl _)⟩
theorem e_in (ha : EJ X W a da) (hb : EJ X W b db) (hm : behindInMarks .In b = false := by rfl) : EJ X W (.Compare a [.In] [b] pos) (dOp (fIn false) da db) := e_cmp op_in_seq pop_in ha hb hm
theorem e_notin (ha : EJ X W a da) (hb : EJ X W b db) (hm : behindInMarks .NotIn b = false := by rfl) : EJ X W (.Compare a [.NotIn] [b] pos) (dOp (fIn true) da db) := e_cmp op_notIn_seq pop_in ha hb hm
theorem t_in (ha : EJ X W a da) (hb : EJ X W b db) (hm : behindInMarks .In b = false := by rfl) : TJ X W (.Compare a [.In] [b] pos) (dB (dOp (fIn false) da db)) := t_cmp op_in_seq pop_in ha hb hm
theorem t_notin (ha : EJ X W a da) (hb : EJ X W b db) (hm : behindInMarks .NotIn b = false := by rfl) : TJ X W (.Compare a [.NotIn] [b] pos) (dB (dOp (fIn true) da db)) := t_cmp op_notIn_seq pop_in ha hb hm
/-! a < b < c -/
theorem tch_of {K : Frg} {r r' : R2} {f g : PV → PV → (PV → Prop) → Prop} (hp : POp K r f) (hp' : POp K r' g) {σ : L2.St} {H : Hp} {Q : VK} (h : tE K W (dChain f g da db dc) σ H Q) : tChain r r' (tE K W da) (tE K W db) (tE K W dc) σ H Q := by
  obtain ⟨F, ρ, G, q, x, R, h, gv, gx⟩ := h
  refine ⟨F, ρ, G, _, x, R, h, fun p v G1 H1 h1 g1 r1 => ⟨F, ρ, G1, _, x, R.go g1, h1, fun p2 v2 G2 H2 h2 g2 r2 => ?_, gx.go g1⟩, gx⟩
  have g12 := g1.trans g2
  refine hp F G2 H2 p p2 v v2 _ _ g2.ok (r1.mono g2.gx) r2 h2 fun p3 v3 G3 H3 ⟨k, e, h3⟩ g3 r3 => ?_
  subst e
  have g123 := g12.trans g3
  refine ⟨k, r3.bl_inv, ?_⟩
  cases k with
  | false => exact gv _ _ _ _ h3 g123 (rep_bl _)
  | true => exact ⟨F, ρ, G3, _, x, R.go g123, h3, fun p4 v4 G4 H4 h4 g4 r4 => hp' F G4 H4 p2 p4 v2 v4 q Q g4.ok (r2.mono (g3.gx.trans g4.gx)) r4 h4 (gv.go (g123.trans g4)), gx.go g123⟩
theorem e_chain {op op' : CmpOp} {r r' : R2} {f g : PV → PV → (PV → Prop) → Prop} (ho : OpR X (compareOp op) r) (hp : POp X.K r f) (ho' : OpR X (compareOp op') r') (hp' : POp X.K r' g) (ha : EJ X W a da) (hb : EJ X W b db) (hc : EJ X W c dc) (hm : lastMarks [op, op'] [b, c] = false := by rfl) :
    EJ X W (.Compare a [op, op'] [b, c] pos) (dChain f g da db dc) := pe_imp (pe_chain ho ho' ha hb hc hm) fun _ _ _ h => tch_of hp hp' h
theorem t_chain {op op' : CmpOp} {r r' : R2} {f g : PV → PV → (PV → Prop) → Prop} (ho : OpR X (compareOp op) r) (hp : POp X.K r f) (ho' : OpR X (compareOp op') r') (hp' : POp X.K r' g) (ha : EJ X W a da) (hb : EJ X W b db) (hc : EJ X W c dc) (hm : lastMarks [op, op'] [b, c] = false := by rfl) :
    TJ X W (.Compare a [op, op'] [b, c] pos) (dB (dChain f g da db dc)) := pt_imp (pt_chain ho ho' ha hb hc hm) fun _ _ _ h => tb_of (fun _ _ _ z => tch_of hp hp' z) h
end
end Pw
/-! # the package's own errors: __init__ says super().__init__('..') and stores one field -/
namespace Pw
open PySem PySem.Spec PyProof.Rows L2
open PySem.W (findIn typeIn keepIn subIn clsIn nsIn codeIn alongIn fnX envX)
def eArgs (f : Str) (p1 p2 : Pos) : Arguments := { posonlyargs := [], args := [⟨"self", none, p1⟩, ⟨f, none, p2⟩], vararg := none, kwonlyargs := [], kw_defaults := [], kwarg := none, defaults := [] }
def eBody (f msg : Str) (j : Nat) (p1 p2 p3 p4 p5 p6 q1 q2 q3 q4 : Pos) : List Stmt :=
  [.Expr (.Call (.Attribute (.Call (.Name "super" p1) [] [] p2) "__init__" p3) [.Constant (.str msg) j p4] [] p5) p6, .Assign [.Attribute (.Name "self" q1) f q2] (.Name f q3) q4]
def eScope (f : Str) : Scope := { kind := .function, names := [("self", .local), (f, .local), ("__class__", .free), ("super", .globalImplicit)], isGenerator := false, isCoroutine := false, more := [] }
/-- the call's node: a method's call, its line known -/
def MCall (msg : Str) (j : Nat) (p1 p2 p3 p4 p5 : Pos) (env : Env) : Prop := ∃ pl : Sem Bool, eval (.Call (.Attribute (.Call (.Name "super" p1) [] [] p2) "__init__" p3) [.Constant (.str msg) j p4] [] p5) env = (do
  let ov ← attributeBase (.Call (.Name "super" p1) [] [] p2) "__init__" env (eval (.Call (.Name "super" p1) [] [] p2) env)
  standAt p3.atName
  let (g, first) ← holding [ov] (getMethod ov "__init__" pl)
  callWith p5 g first (backTo p5 (starEach [.Constant (.str msg) j p4] env)) [])
/-- what the written part says of such a class at C, its __init__ at fI -/
structure ErrF (P : Program) (K : Frg) (C fI : Addr) (f : Str) : Prop where
  new : PySem.W.excInitIn K C He.veBase "ValueError.__new__" = true
  cd : ∃ cd, clsIn K C = some cd ∧ cd.hasDict = true ∧ HandSPX.refsVE cd.mro = true ∧ alongIn K "__init__" ((cd.mro.dropWhile (· != .ref C)).drop 1) = some (some (.builtin "ValueError.__init__"))
  sa : findIn K (.ref C) "__setattr__" = some (some (.builtin "object.__setattr__"))
  no : findIn K (.ref C) f = some none
  iC : findIn K (.ref C) "__init__" = some (some (.ref fI))
  tI : typeIn K (.ref fI) = some (.type "function")
  kC : keepIn K (.ref C) = true
  ex : subIn K (.ref C) (.type "BaseException") = some true
  ty : typeIn K (.ref C) = some (.type "type")
  ve : subIn K (.ref C) (.type "ValueError") = some true
  me : subIn K (.ref C) (.ref C) = some true
  op : nsIn K cStatics "thirdparty.any" = some none
  fn : ∃ (oc : Value) (od : Option Addr) (qual msg : Str) (j : Nat) (dV kV doc pm : Value) (an : Option Addr) (cda cc : Addr) (ct : Value) (osl : Array (Option Value)) (a1 a2 p1 p2 p3 p4 p5 p6 q1 q2 q3 q4 : Pos) (o2 o3 : Obj) (vs : Array Value) (file : Str) (tf : Tok),
    K.lookup fI = some ⟨oc, od, .func (fnX "__init__" qual (eArgs f a1 a2) (eBody f msg j p1 p2 p3 p4 p5 p6 q1 q2 q3 q4) (eScope f) [("__class__", cc)] dV kV doc pm an (.ref cda) ct), osl⟩ ∧ codeIn K (.ref cda) qual = true ∧
      K.lookup cc = some o2 ∧ o2.data = .cell (some (.ref C)) ∧ K.lookup cda = some o3 ∧ o3.data = .fields vs ∧ vs[2]? = some (.str file tf) ∧ (P.main.file == file) = true ∧
      (∀ u v : Value, bindArgs (fnX "__init__" qual (eArgs f a1 a2) (eBody f msg j p1 p2 p3 p4 p5 p6 q1 q2 q3 q4) (eScope f) [("__class__", cc)] dV kV doc pm an (.ref cda) ct) ⟨[u, v], []⟩ = pure ([("self", u), (f, v)] : List (Str × Value))) ∧ ∀ env : Env, MCall msg j p1 p2 p3 p4 p5 env
  sup : (P.main.scope.names.lookup ("super" : Str)).isSome = false
  nf : f ≠ "self" ∧ f ≠ "super" ∧ f ≠ "__class__" ∧ f ≠ "__debug__"
theorem one_sz (v : Value) : [v].length ≤ sizeLine := by rw [sizeLine_eq]; exact (by decide : 1 ≤ 16777216)
theorem kept1 {K : Frg} {h h' : Heap} {x : Addr} (X : K.In h) (hx : K.lookup x = none) (k : ∀ b o, b ≠ x → h.get? b = some o → h'.get? b = some o) : K.In h' := fun a o e => k a o (fun z => by rw [z, hx] at e; cases e) (X a o e)
/-- what __init__ leaves of a fresh error at x -/
structure EEnd (f : Str) (h h' : Heap) (x C dx t1 : Addr) (v : Value) : Prop where
  keep : ∀ b o, b ≠ x → h.get? b = some o → h'.get? b = some o
  obj : h'.get? x = some { cls := .ref C, dict := some dx, data := .fields #[.ref t1, .none, .none, .none, .bool false, .none] }
  dbig : h.objs.size ≤ dx
  dne : dx ≠ x
  ns : h'.Ns1 dx (fun y => if y = f then some v else none)
section
variable {P : Program} {w : World} {A : Around} {R : Result → Shared → Prop} {s : Shared} {K : Frg} {C fI : Addr} {f : Str} {mg : Str → Option Value}
/-- super().__init__(msg), the wrapper called -/
theorem bw_call {E : Value → Shared → Prop} {Q : Value → Shared → Prop} (T : ErrF P K C fI f) (X : K.In s.heap) {u x t0 : Addr} {rest : List Value} (hu : s.heap.get? u = some (PySem.W.kxs_mw "ValueError.__init__" x)) (hx : s.heap.get? x = some (HandSPX.excO C t0)) (hz : rest.length ≤ sizeLine)
    (hq : ∀ h' t1, (∀ b o, b ≠ x → s.heap.get? b = some o → h'.get? b = some o) → h'.get? x = some (HandSPX.excO C t1) → Q .none { s with heap := h' }) : wpAny (model P w) A (call (.ref u) rest) Q E s := by
  obtain ⟨nm, N', qn, bs, bm, hdct, sn, sub, ab, col, dd, k0, k1, k2, k3, k5, hC, hT⟩ := PySem.W.excInit_of X T.new
  obtain ⟨hh, g, d, tk, os⟩ := s
  refine wpAny_call (codeAny_of_tree ?_)
  show wpAny _ A.in1 (callAny (.ref u) ⟨rest, []⟩) _ _ _
  simp only [callAny]
  refine wpAny_bind (wpAny_load hu ?_)
  simp only [PySem.W.kxs_mw, show (Value.type "method-wrapper" == Value.type "method" || Value.type "method-wrapper" == Value.type "builtin_function_or_method" || Value.type "method-wrapper" == Value.type "method-wrapper") = true by decide, if_true]
  refine PySem.W.KFB.if_so (by decide) ?_
  refine wpAny_bind (PySem.W.check_bound_init PySem.F.excBase_ValueError.toExcCallFacts hC hx rfl ?_)
  refine wpAny_bind (wpAny_pure (wpAny_pure ⟨Code.quiet_builtin _ (by decide +kernel), codeAny_builtin PySem.F.excBase_ValueError.initEntry ?_⟩))
  refine PySem.W.exc_init_tree (cls := .ref C) (t0 := t0) (dv := none) (c2 := .none) (c3 := .none) (b4 := .bool false) hx hz fun h' k e' _ => hq h' _ k e'
theorem err_init (T : ErrF P K C fI f) {mb : Str → Option Value} {x t0 : Addr} {v : Value} (X : K.In s.heap) (hlim : s.heap.NoLimit) (hg : s.heap.Ns mainGlobals mg) (hb : s.heap.Ns builtinsNs mb) (hsu : mg "super" = none) (hbs : mb "super" = some (.type "super"))
    (hx : s.heap.get? x = some (HandSPX.excO C t0)) (hnx : K.lookup x = none) (hxg : x ≠ mainGlobals) (hroom : A.depth < recursionLimit) (hq : ∀ h' tk dx t1, EEnd f s.heap h' x C dx t1 v → R (.ok (.ret .none)) { s with heap := h', toks := tk }) :
    codeAny (model P w) A (.call (.ref fI) ⟨[.ref x, v], []⟩) R s := by
  obtain ⟨oc, od, qual, msg, j, dV, kV, doc, pm, an, cda, cc, ct, osl, a1, a2, p1, p2, p3, p4, p5, p6, q1, q2, q3, q4, o2, o3, vs, file, tf, ho, hcd, hcc, hcell, hcda, hfl, hvs, hfile, hbd, hmc⟩ := T.fn
  obtain ⟨cdd, hcdd, hdict, hmro, halong⟩ := T.cd
  obtain ⟨n1, n2, n3, n4⟩ := T.nf
  have sf : ("self" : Str) ≠ f := fun z => n1 z.symm
  have hself : (eScope f).names.lookup ("self" : Str) = some .local := rfl
  have hfl' : (eScope f).names.lookup f = some .local := by
    show (match f == "self" with | true => some NameKind.local | false => ([(f, NameKind.local), ("__class__", .free), ("super", .globalImplicit)] : List (Str × NameKind)).lookup f) = _
    have : (f == ("self" : Str)) = false := by simpa using n1
    rw [this]
    simp [List.lookup]
  have hcls : (eScope f).names.lookup ("__class__" : Str) = some .free := by
    have h1 : (("__class__" : Str) == f) = false := by simpa using fun z => n3 z.symm
    show ([("self", NameKind.local), (f, .local), ("__class__", .free), ("super", .globalImplicit)] : List (Str × NameKind)).lookup ("__class__" : Str) = _
    have h2 : (("__class__" : Str) == ("self" : Str)) = false := by decide
    simp only [List.lookup, h1, h2]
    rfl
  have hsup : (eScope f).names.lookup ("super" : Str) = some .globalImplicit := by
    have h1 : (("super" : Str) == f) = false := by simpa using fun z => n2 z.symm
    show ([("self", NameKind.local), (f, .local), ("__class__", .free), ("super", .globalImplicit)] : List (Str × NameKind)).lookup ("super" : Str) = _
    have h2 : (("super" : Str) == ("self" : Str)) = false := by decide
    have h3 : (("super" : Str) == ("__class__" : Str)) = false := by decide
    simp only [List.lookup, h1, h2, h3]
    rfl
  refine ks_codeAny_call_defAt (binds := [("self", .ref x), (f, v)]) hroom (X _ _ ho) rfl hlim (PySem.W.codeRec_of X hcd) rfl (BindsTo.of_eq ?_) ?_ ?_ (fun h0 hns k0 => ?_)
  · exact hbd _ _
  · intro y hy
    have hy : y ∈ ([("self", NameKind.local), (f, .local), ("__class__", .free), ("super", .globalImplicit)] : List (Str × NameKind)) := hy
    simp only [List.mem_cons, List.not_mem_nil, or_false] at hy
    rcases hy with rfl | rfl | rfl | rfl <;> exact fun z => nomatch z
  · intro y hy
    have hy : y ∈ ([("self", Value.ref x), (f, v)] : List (Str × Value)) := hy
    simp only [List.mem_cons, List.not_mem_nil, or_false] at hy
    rcases hy with rfl | rfl
    · exact hself
    · exact hfl'
  · have e0 : callEnv (fnX "__init__" qual (eArgs f a1 a2) (eBody f msg j p1 p2 p3 p4 p5 p6 q1 q2 q3 q4) (eScope f) [("__class__", cc)] dV kV doc pm an (.ref cda) ct) s.heap.objs.size fI = envX qual (eScope f) s.heap.objs.size fI (.ref cda) [("__class__", cc)] := rfl
    rw [e0]
    have X0 : K.In h0 := X.keeps k0
    have hx0 := k0 _ _ hx
    have lself : ([("self", Value.ref x), (f, v)] : List (Str × Value)).reverse.lookup ("self" : Str) = some (.ref x) := by
      show ([(f, v), ("self", Value.ref x)] : List (Str × Value)).lookup ("self" : Str) = _
      have h1 : (("self" : Str) == f) = false := by simpa using sf
      simp only [List.lookup, h1]
      rfl
    have lf : ([("self", Value.ref x), (f, v)] : List (Str × Value)).reverse.lookup f = some v := by
      show ([(f, v), ("self", Value.ref x)] : List (Str × Value)).lookup f = _
      simp [List.lookup]
    obtain ⟨nm, N', qn, bs, bm, hdct, sn, sub, ab, col, dd, kk0, kk1, kk2, kk3, kk5, hC, hT⟩ := PySem.W.excInit_of X0 T.new
    have hI0 : PySem.W.InstAt h0 x (HandSPX.excO C t0) C none := ⟨hx0, rfl, rfl, trivial⟩
    obtain ⟨pl, hev⟩ := hmc (envX qual (eScope f) s.heap.objs.size fI (.ref cda) [("__class__", cc)])
    refine ks_wpAt_execs_cons (ks_wpAt_Expr_any (ks_wpAt_MethodCall (pl := pl) ?_ hev) rfl rfl)
    · refine ks_wpAt_super_base (f := fI) (cc := cda) hsup hcls (by decide) rfl (X0 _ _ ho) rfl rfl rfl (X0 _ _ hcda) hfl hvs hfile T.sup ?_
      refine PySem.W.ks_loadName_global rfl hsup (Calls.loadGlobal_builtin (hg.keeps k0) hsu (hb.keeps k0) hbs ⟨rfl, ?_⟩)
      refine wpAny_loadName_free rfl hcls (by simp [List.lookup]) ⟨o2, X0 _ _ hcc, hcell⟩ ?_
      refine wpAny_loadName_local rfl hself hns lself ?_
      refine ks_wpAny_isType_cls hC rfl ⟨rfl, ?_⟩
      refine ks_wpAny_call_super hC rfl hx0 rfl (fun c z => nomatch z) (PySem.W.looks_subIn X0 T.me) fun h1 hso k1 => ?_
      have X1 : K.In h1 := X0.keeps k1
      have hx1 := k1 _ _ hx0
      have I1 : PySem.W.InstAt h1 x (HandSPX.excO C t0) C none := ⟨hx1, rfl, rfl, trivial⟩
      have hne : x ≠ C := PySem.W.ks_ne X1 I1 hcdd
      refine PySem.W.kxs_getMethod PySem.W.kxs_ValueError hso (PySem.W.looks_opaque X1 T.op) (l₀ := cdd.mro) ((PySem.W.looks_clsIn X1 hcdd).andThen .now) rfl X1 halong (I1.type.andThen (PySem.W.looks_subIn X1 T.ve)) hne (by decide) ?_
      have k2 : ∀ b o, h1.get? b = some o → (h1.push (PySem.W.kxs_mw "ValueError.__init__" x)).get? b = some o := fun b o e => Heap.get?_push_of_some _ e
      have hu2 : (h1.push (PySem.W.kxs_mw "ValueError.__init__" x)).get? h1.objs.size = some (PySem.W.kxs_mw "ValueError.__init__" x) := Heap.get?_push_at rfl rfl
      refine PySem.W.kxs_callWith (i := "ValueError.__init__") (x := x) rfl (Calls.evalArgs_plain (Calls.spliced_cons (Calls.Constant_str (k := j) (pos := p4) (Calls.spliced_nil ⟨hu2, ?_⟩))))
      refine bw_call (t0 := t0) T (X1.keeps k2) hu2 (k2 _ _ hx1) (one_sz _) fun h3 t1 k3 hx3 => ?_
      have hnot : ∀ b o, h0.get? b = some o → b ≠ x → h3.get? b = some o := fun b o e hb => k3 b o hb (k2 b o (k1 b o e))
      have X3 : K.In h3 := kept1 (X1.keeps k2) hnx k3
      obtain ⟨oL, es, ep, hL, rL⟩ := hns
      have hxL : s.heap.objs.size ≠ x := Nat.ne_of_gt (Heap.lt_size hx)
      have hns3 : h3.Ns s.heap.objs.size (fun y => ([("self", Value.ref x), (f, v)] : List (Str × Value)).reverse.lookup y) := ⟨oL, es, ep, hnot _ _ hL hxL, rL⟩
      refine wpAt_of_wpAny (wpAny_execs_cons (plainObj_wpAny_Assign_Attribute ?_ rfl))
      refine wpAny_Name (wpAny_loadName_local rfl hfl' hns3 lf (wpAny_Name (wpAny_loadName_local rfl hself hns3 lself ?_) (by decide))) (by simpa using n4)
      refine PySem.W.set_plain X3 (ox := HandSPX.excO C t1) (od := none) ⟨hx3, rfl, rfl, trivial⟩ T.sa ?_
      refine HandSPX.exc_osa X3 hx3 hcdd hmro hdict T.no fun h4 tk4 dx k4 dn dne hx4 hn4 => ?_
      show wpAny _ _ (execs _ _) _ _ _
      refine wpAny_execs_nil (hq h4 tk4 dx t1 ⟨fun b o hb e => k4 b o hb (hnot b o (k0 b o e) hb), hx4, ?_, dne, hn4⟩)
      have z1 : s.heap.objs.size < h0.objs.size := Heap.lt_size hL
      have z2 : s.heap.objs.size < h3.objs.size := Heap.lt_size (hnot _ _ hL hxL)
      exact Nat.le_of_lt (Nat.lt_of_lt_of_le z2 dn)
/-- a made error -/
structure EMade (f : Str) (h h' : Heap) (e C d : Addr) (v : Value) : Prop where
  keep : ∀ b o, h.get? b = some o → h'.get? b = some o
  new : h.objs.size ≤ e
  obj : ∃ t1 : Addr, h'.get? e = some { cls := .ref C, dict := some d, data := .fields #[.ref t1, .none, .none, .none, .bool false, .none] }
  dbig : h.objs.size ≤ d
  dne : d ≠ e
  ns : h'.Ns1 d (fun y => if y = f then some v else none)
theorem err_made (T : ErrF P K C fI f) {mb : Str → Option Value} {v : Value} (X : K.In s.heap) (hlim : s.heap.NoLimit) (hg : s.heap.Ns mainGlobals mg) (hb : s.heap.Ns builtinsNs mb) (hsu : mg "super" = none) (hbs : mb "super" = some (.type "super")) (hroom : A.depth + 1 < recursionLimit)
    (hq : ∀ h' tk e d, EMade f s.heap h' e C d v → R (.ok (.ret (.ref e))) { s with heap := h', toks := tk }) : codeAny (model P w) A (.call (.ref C) ⟨[v], []⟩) R s := by
  obtain ⟨nm, N', qn, bs, bm, hdct, sn, sub, ab, col, dd, kk0, kk1, kk2, kk3, kk5, hC, hT⟩ := PySem.W.excInit_of X T.new
  obtain ⟨hp, g, dr, tk, os⟩ := s
  have k : ∀ b o, hp.get? b = some o → ((hp.push (PySem.W.kdv_tup [v])).push (HandSPX.excO C hp.objs.size)).get? b = some o := fun b o e => Heap.get?_push_of_some _ (Heap.get?_push_of_some _ e)
  have hget : ((hp.push (PySem.W.kdv_tup [v])).push (HandSPX.excO C hp.objs.size)).get? (hp.objs.size + 1) = some (HandSPX.excO C hp.objs.size) := by heap_get
  have hnx : K.lookup (hp.objs.size + 1) = none := by
    cases e : K.lookup (hp.objs.size + 1) with
    | none => rfl
    | some o => exact absurd (Nat.lt_of_succ_lt (Heap.lt_size (show hp.get? (hp.objs.size + 1) = some o from X _ _ e))) (Nat.lt_irrefl _)
  have hmg : hp.objs.size + 1 ≠ mainGlobals := fun z => by
    have := hg.lt
    rw [← z] at this
    exact absurd this (by show ¬ hp.objs.size + 1 < hp.objs.size; omega)
  refine HandSPX.call_own PySem.F.excBase_ValueError hT hC (PySem.W.looks_findIn X T.iC) (fun self => PySem.W.bind_fn X self T.tI) (one_sz v) ?_
  refine err_init (s := ⟨(hp.push (PySem.W.kdv_tup [v])).push (HandSPX.excO C hp.objs.size), g, dr, tk, os⟩) T (X.keeps k) (hlim.keeps k) (hg.keeps k) (hb.keeps k) hsu hbs hget hnx hmg ?_ fun h' tk' dx t1 z => ?_
  · show A.depth + 1 < recursionLimit
    exact hroom
  · have old : ∀ b o, hp.get? b = some o → h'.get? b = some o := fun b o e => z.keep b o (Nat.ne_of_lt (Nat.lt_succ_of_lt (Heap.lt_size e))) (k b o e)
    have zz : hp.objs.size + 1 + 1 ≤ dx := by
      have q := z.dbig
      simpa only [Heap.size_push] using q
    exact ⟨rfl, hq h' tk' (hp.objs.size + 1) dx ⟨old, Nat.le_succ _, ⟨t1, z.obj⟩, (by show hp.objs.size ≤ dx; omega), z.dne, z.ns⟩⟩
end

/-! ## raise X(e) -/
theorem relO_one {f : Str} {v : V} {u : Value} (r : RelV v u) (g : Str) : RelO (List.lookup g [(f, v)]) (if g = f then some u else none) := by
  by_cases h : g = f
  · subst h
    rw [if_pos rfl]
    have : List.lookup g [(g, v)] = some v := by simp [List.lookup]
    rw [this]; exact r
  · rw [if_neg h]
    have hb : (g == f) = false := by simpa using h
    have : List.lookup g [(f, v)] = none := by simp [List.lookup, hb]
    rw [this]; trivial
/-- a class of the package with one field -/
def tMkE (C : Addr) (f : Str) (ta : TA) : L2.St → Hp → XK → Prop := fun σ H Q => ta σ H fun vs H1 => ∃ v, vs = [v] ∧ ∀ d, H1 d = none → Q (.ref C) (some d) (upd H1 d (.xd [(f, v)]))
section
variable {X : Cx} {C fI : Addr} {f : Str}
theorem pmk_err {x : Str} {a : Expr} {ta : TA} {p pos : Pos} {k : Nat} (T : ErrF X.prog X.K C fI f) (hm : X.mg x = some (.ref C)) (hsu : X.mg "super" = none) (hr : L2H.RoomH k X.A) (ha : PA X [a] ta) (hg : Gl X x := by rfl) (hd : (x == ("__debug__" : Str)) = false := by decide)
    (he : starEach (a :: []) X.env = (false, eval a X.env) :: starEach [] X.env := by rfl) (hpl : (backTo pos (starEach [] X.env)).any (·.1) = false := by rfl) : L2N.PMk X (.Call (.Name x p) [a] [] pos) (tMkE C f ta) := by
  intro pins s σ H Q J h
  refine wpAny_Call_Name_kw (ld_glob J hg hm ?_ hd)
  refine PySem.W.callWith_K (h₀ := X.base) J.ok.mod.kin T.kC (thn (ha.run pos pins s σ H _ J h) fun us s1 hh => ?_) he hpl
  obtain ⟨vs, H1, J1, r1, v, ev, q1⟩ := hh
  subst ev
  refine ⟨J1.kIn, ?_⟩
  cases r1 with
  | cons rv rn =>
    rename_i v' us'
    cases rn
    show wpAny _ _ (call (.ref C) [v']) _ _ _
    have hlim := J1.nolimit
    obtain ⟨mb, hb1, hb2⟩ := J1.mod.blt
    have hgl := J1.mod.glob.keeps J1.bk
    have hbl := hb1.keeps J1.bk
    obtain ⟨hp, g, dr, tk, os⟩ := s1
    refine wpAny_call (err_made T J1.kIn hlim hgl hbl hsu ((hb2 _ (by decide)).trans (by decide +kernel)) (by have := hr.dp; omega) fun h' tk' e d M => ?_)
    show L2N.MkP X pins σ Q (.ref e) ⟨h', g, dr, tk', os⟩
    obtain ⟨t1, hoe⟩ := M.obj
    have hns := M.ns
    obtain ⟨G', g1, g2⟩ := restrict h' fun b => decide (b ≠ e)
    have gk : ∀ b, b ≠ e → G'.get? b = h'.get? b := fun b hb => g1 b (decide_eq_true hb)
    have ge : G'.get? e = none := g2 e (by simp)
    have old : ∀ b o, hp.get? b = some o → G'.get? b = some o := fun b o q => (gk b (Nat.ne_of_lt (Nat.lt_of_lt_of_le (Heap.lt_size q) M.new))).trans (M.keep b o q)
    have ob : ObjOk X.prog X.w (upd H1 d (.xd [(f, v)])) G' d (.xd [(f, v)]) := ⟨_, hns.at (fun o q => (gk d M.dne).trans q), fun y => relO_one rv y⟩
    have J2 : Inv X pins σ (upd H1 d (.xd [(f, v)])) ⟨G', g, dr, tk', os⟩ := J1.laid (t' := tk') old M.dbig ob
    refine ⟨e, _, _, ⟨G', g, dr, tk', os⟩, _, .ref C, some d, rfl, J2, fun b o q => ?_, ge, hoe, ⟨rfl, rfl, ?_⟩, rfl, rfl, ?_, rfl, J1.bare, raises_own T.ex T.ty, q1 d (J1.hok.fresh M.dbig)⟩
    · by_cases hb : b = e
      · have q' : G'.get? b = some o := q
        rw [hb, ge] at q'; cases q'
      · exact (gk b hb).symm.trans q
    · intro ws ews
      have ews : Data.fields #[.ref t1, .none, .none, .none, .bool false, .none] = .fields ws := ews
      cases ews
      rfl
    · rw [upd_ne (Ne.symm M.dne)]
      exact J1.hok.fresh M.new
end
/-- raise X(e): the error with its one field -/
def dRaise (c : Cl) (ds : DA) : DS := fun P ρ => ds ρ (fun ps => ∃ p, ps = [p] ∧ P.xc (c, [p]) ρ) (fun xv => P.xc xv ρ)
theorem s_raise {X : Cx} {W : WX} {c : Cl} {fI : Addr} {f : Str} {a : Expr} {ds : DA} {p pos pos' : Pos} {k : Nat} (hf : c.flds = [f]) (T : ErrF X.prog X.K (ca X.K c) fI f) (hm : X.mg c.name = some (.ref (ca X.K c))) (hsu : X.mg "super" = none) (hr : L2H.RoomH k X.A) (hc : X.calm = true) (tk : L2N.Takes X W) (ha : AJ X W [a] ds)
    (hg : Gl X c.name := by rfl) (hd : (c.name == ("__debug__" : Str)) = false := by decide) (he : starEach (a :: []) X.env = (false, eval a X.env) :: starEach [] X.env := by rfl) (hpl : (backTo pos (starEach [] X.env)).any (·.1) = false := by rfl) :
    SJ X W (.Raise (some (.Call (.Name c.name p) [a] [] pos)) none pos') (dRaise c ds) := ps_imp (L2N.ps_raise hc tk (pmk_err T hm hsu hr ha hg hd he hpl)) fun D σ H ⟨F, ρ, G, P, R, h, eo⟩ =>
  ⟨F, ρ, G, _, _, R, h, fun ps vs G1 H1 ⟨p, e, h1⟩ g1 r1 => by
    subst e
    obtain ⟨v, ws, rfl, r, rn⟩ := r1.cons_inv
    rw [rn.nil_inv]
    refine ⟨v, rfl, fun d hd => ?_⟩
    have g2 := g1.ok.new1 (u := .xd [(f, v)]) hd
    exact eo.xc (c, [p]) (some d) ρ σ _ _ h1 (R.go (g1.trans g2)) (.inr ⟨d, [v], rfl, by rw [hf]; exact upd_same, by rw [hf]; rfl, .cons (r.mono g2.gx) .nil⟩), eo.gx R⟩
end Pw
/-! # try: .. except X as e: .. -/
namespace Pw
open PySem PySem.Spec PyProof.Rows L2
/-- the classes of errors that the text has: what an except clause answers, how a field is read -/
def subX (c d : Cl) : Bool := decide (c = d) || decide (d = .PrintError)
structure KX (K : Frg) (xs : List Cl) : Prop where
  exm : ∀ c ∈ xs, ∀ d ∈ xs, PySem.W.exmOne K (.ref (ca K c)) (.ref (ca K d)) = some (subX c d)
  xf : ∀ c ∈ xs, XfC K (ca K c)
  no : ∀ c ∈ xs, ∀ f ∈ c.flds, PySem.W.findIn K (.ref (ca K c)) f = some none
def kxB (K : Frg) (xs : List Cl) : Bool := (xs.all fun c => xs.all fun d => decide (PySem.W.exmOne K (.ref (ca K c)) (.ref (ca K d)) = some (subX c d))) && ((xs.all fun c => xfB K (ca K c)) && xs.all fun c => c.flds.all fun f => decide (PySem.W.findIn K (.ref (ca K c)) f = some none))
theorem kxB_ok {K : Frg} {xs : List Cl} (h : kxB K xs = true) : KX K xs := by
  obtain ⟨h1, h⟩ := He.ba h
  obtain ⟨h2, h3⟩ := He.ba h
  exact ⟨fun c hc d hd => of_decide_eq_true (List.all_eq_true.mp (List.all_eq_true.mp h1 c hc) d hd), fun c hc => xfB_ok (List.all_eq_true.mp h2 c hc), fun c hc f hf => of_decide_eq_true (List.all_eq_true.mp (List.all_eq_true.mp h3 c hc) f hf)⟩
/-- where the error's dict is -/
def XD (c : Cl) (d : Option Addr) (dd : Addr) : Prop := (c.flds = [] ∧ d = none) ∨ d = some dd
/-- c0: the class that the clause names; i: the slot of its name; ds: the suite, by the error's address, dict, class -/
def dTry (xs : List Cl) (c0 : Cl) (i : Nat) (db : DS) (ds : Addr → Addr → Cl → DS) : DS := fun P ρ => db { P with xc := fun xv ρ' => xv.1 ∈ xs ∧ (subX xv.1 c0 = true → ∀ a dd, ds a dd xv.1 { P with nx := fun r => P.nx (r.set i none), bk := fun r => P.bk (r.set i none), ct := fun r => P.ct (r.set i none), xc := fun _ _ => False } (ρ'.set i (some (.val (.exc a dd xv.1 xv.2))))) ∧ (subX xv.1 c0 = false → P.xc xv ρ') } ρ
theorem Rel.clear {K : Frg} {F : Fx} {ρ : En} {σ : L2.St} {G H : Hp} (R : Rel K F ρ σ G H) (i : Nat) : Rel K F (ρ.set i none) (σ.set i none) G H :=
  R.weak (by rw [List.length_set, List.length_set]; exact R.len) fun j s e => by
    rcases set_get e with ⟨_, z⟩ | ⟨n, z⟩
    · cases z
    · exact ⟨z, List.getElem?_set_ne n⟩
theorem s_try {X : Cx} {W : WX} {xs : List Cl} {c0 : Cl} {n : Str} {i : Nat} {body suite : List Stmt} {b0 : Stmt} {np pos pos' : Pos} {db : DS} {ds : Addr → Addr → Cl → DS} (kx : KX X.K xs) (hc0 : c0 ∈ xs) (hm : X.mg c0.name = some (.ref (ca X.K c0))) (nd : X.N.Nodup) (tk : L2N.Takes X W)
    (hb : ∀ (W' : WX) (pn : List (Addr × Obj)) (xe : Value → Shared → Prop), L2N.Takes (X.tr pn xe) W' → PassesOwn (model X.prog X.w) X.A X.env xe → BJ (X.tr pn xe) W' body db)
    (hs : ∀ (a : Addr) (oe : Obj) (d : Option Addr) (pn : List (Addr × Obj)) (c : Cl) (dd : Addr), c ∈ xs → subX c c0 = true → L2N.Zn (.ref (ca X.K c)) d oe → (∃ vs, oe.data = .fields vs) → XD c d dd → BJ (X.suite a ((a, oe) :: pn)) Wno (b0 :: suite) (ds a dd c))
    (hi : X.N[i]? = some n := by rfl) (hln : X.env.kindOf n = some .local := by rfl) (h1 : X.stack = X.env :: X.outer := by rfl) (h2 : X.env.frame = some X.env.locals := by rfl) (hg : Gl X c0.name := by rfl) (hd : (c0.name == ("__debug__" : Str)) = false := by decide) :
    SJ X W (.Try body [.ExceptHandler (some (.Name c0.name np)) (some n) (b0 :: suite) pos'] [] [] pos) (dTry xs c0 i db ds) := by
  refine ps_imp (L2N.ps_try_as (i := i) (tb := fun W' => tS X.K W' db) (ts := fun a cls d D σ H => ∃ c dd, c ∈ xs ∧ subX c c0 = true ∧ cls = .ref (ca X.K c) ∧ XD c d dd ∧ tS X.K Wno (ds a dd c) D σ H) (Wout := W) (c := .ref (ca X.K c0)) h1 h2 nd hi hln ⟨hg, hd, .inl hm⟩ tk hb (fun a oe cls d pn hz hf => ⟨fun pins s σ H D J ⟨c, dd, hc, hsb, e, hx, hh⟩ => ?_⟩)) fun D σ H ⟨F, ρ, G, P, R, h, eo⟩ => ?_
  · subst e
    exact (hs a oe d pn c dd hc hsb hz hf hx).run pins s σ H D J hh
  · refine ⟨F, ρ, G, _, R, h, ⟨eo.nx, eo.rt, eo.bk, eo.ct, fun xv d ρ' σ' G' H' ⟨hc, hy, hn⟩ R' rr => ⟨subX xv.1 c0, kx.exm xv.1 hc c0 hc0, fun hb a ha => ?_, fun hb => eo.xc xv d ρ' σ' G' H' (hn hb) R' rr⟩⟩⟩
    obtain ⟨dd, hx, rx⟩ : ∃ dd, XD xv.1 d dd ∧ Rep X.K F.b G' (.exc a dd xv.1 xv.2) (.ref a) := by
      rcases rr with ⟨e1, e2, e3⟩ | ⟨dd, vs, e1, e2, e3, e4⟩
      · exact ⟨0, .inl ⟨e1, e3⟩, by simp only [Rep]; exact ⟨trivial, .inl e1⟩⟩
      · exact ⟨dd, .inr e1, by simp only [Rep]; exact ⟨trivial, .inr ⟨vs, e2, e3, e4⟩⟩⟩
    exact ⟨xv.1, dd, hc, hb, rfl, hx, F, _, G', _, R'.set i rx, hy hb a dd, ⟨fun r s G2 H2 z R2 => eo.nx _ _ G2 H2 z (R2.clear i), eo.rt, fun r s G2 H2 z R2 => eo.bk _ _ G2 H2 z (R2.clear i), fun r s G2 H2 z R2 => eo.ct _ _ G2 H2 z (R2.clear i), fun _ _ _ _ _ _ z => z.elim⟩⟩
theorem subX_eq {c c0 : Cl} (h : subX c c0 = true) (n : c0 ≠ .PrintError) : c = c0 := by
  unfold subX at h
  rcases Bool.or_eq_true_iff.mp h with z | z
  · exact of_decide_eq_true z
  · exact absurd (of_decide_eq_true z) n
theorem takes_no {X : Cx} : L2N.Takes X Wno := fun u s' z => by
  obtain ⟨_, _, _, _, _, _, _, _, _, _, _, _, _, _, _, _, w⟩ := z
  exact w.elim
/-- within the suite: e.f -/
def fXf (a dd : Addr) (c : Cl) (f : Str) : PV → (PV → Prop) → Prop := fun p q => ∃ ys y, p = .exc a dd c ys ∧ fldAt f c.flds ys = some y ∧ q y
theorem fldAt_mem {f : Str} : ∀ {gs : List Str} {xs : List PV} {x : PV}, fldAt f gs xs = some x → gs ≠ []
  | [], xs, x, e => by cases xs <;> simp [fldAt] at e
  | _ :: _, _, _, _ => by simp
theorem e_xf {X : Cx} {xs : List Cl} {a dd : Addr} {oe : Obj} {c : Cl} {d : Option Addr} {pn : List (Addr × Obj)} {e : Expr} {de : DE} {pos : Pos} {f : Str} (kx : KX X.K xs) (hc : c ∈ xs) (hf : f ∈ c.flds) (hz : L2N.Zn (.ref (ca X.K c)) d oe) (hv : ∃ vs, oe.data = .fields vs) (hx : XD c d dd)
    (he : EJ (X.suite a ((a, oe) :: pn)) Wno e de) (hb : attributeBase e f X.env (eval e X.env) = eval e X.env := by rfl) : EJ (X.suite a ((a, oe) :: pn)) Wno (.Attribute e f pos) (dUn (fXf a dd c f) de) := pe_imp (pe_xf (kx.xf c hc) (kx.no c hc f hf) hz.zc hv he hb) fun σ H Q ⟨F, ρ, G, q, x, R, h, gv, gx⟩ =>
  ⟨F, ρ, G, _, x, R, h, fun p v G1 H1 ⟨ys, y, e1, e2, h1⟩ g1 r1 => by
    subst e1
    obtain ⟨rfl, z⟩ := r1.exc_inv
    rcases z with z | ⟨vs, e3, e4, rs⟩
    · exact absurd z (fldAt_mem e2)
    · obtain ⟨m, u, e5, r5⟩ := fldAt_ok e2 rs
      rcases hx with ⟨hx, _⟩ | hx
      · exact absurd hx (fldAt_mem e2)
      · exact ⟨rfl, rfl, dd, _, u, hx, g1.ok.sub _ _ e3, e5, gv _ _ _ _ h1 g1 r5⟩, gx⟩
/-- within the suite defs may be called: what is handled is known -/
theorem suite_md {X : Cx} {a : Addr} {oe : Obj} {cls : Value} {d : Option Addr} {pn : List (Addr × Obj)} (hz : L2N.Zn cls d oe) (hv : ∃ vs, oe.data = .fields vs) : Md (X.suite a ((a, oe) :: pn)) true := by
  obtain ⟨vs, e⟩ := hv
  exact .inr ⟨rfl, (a, oe), ⟨rfl, vs, e, hz.2.2 vs e⟩, List.mem_cons_self⟩
theorem suite_tk {X : Cx} {a : Addr} {pn : List (Addr × Obj)} : L2N.Takes (X.suite a pn) Wno := fun u s' z => by
  obtain ⟨_, _, _, _, _, _, _, _, _, _, _, _, _, _, _, _, w⟩ := z
  exact w.elim
theorem suite_rm {X : Cx} {a : Addr} {pn : List (Addr × Obj)} {k : Nat} (h : L2H.RoomH k X.A) : L2H.RoomH k (X.suite a pn).A := ⟨h.dp, h.un⟩
end Pw
/-! # own classes: instances made, methods, classmethods; defs with a star -/
namespace Pw
open PySem PySem.Spec PyProof.Rows L2

/-! ## __init__: the object is the caller's, its fields are told one by one -/
abbrev Fs := List (Str × PV)
/-- class of the object, its fields so far, the arguments, what is wanted of its fields, of what is raised -/
abbrev CtI := Cl → Fs → List PV → (Fs → Prop) → (XV → Prop) → Prop
def putP (f : Str) (p : PV) : Fs → Fs
  | [] => [(f, p)]
  | (g, x) :: r => if g = f then (g, p) :: r else (g, x) :: putP f p r
theorem FRep.put {K : Frg} {bx : Option Addr} {G : Hp} {f : Str} {p : PV} {v : V} (r : Rep K bx G p v) : ∀ {fs : Fs} {ws : List (Str × V)}, FRep K bx G fs ws → FRep K bx G (putP f p fs) (putF f v ws)
  | [], _, .nil => .cons ⟨rfl, r⟩ .nil
  | (g, x) :: fs, (h, y) :: ws, .cons ⟨e, q⟩ t => by
    have e : g = h := e
    subst e
    unfold putP putF
    by_cases z : g = f
    · rw [if_pos z, if_pos z]; exact .cons ⟨rfl, r⟩ t
    · rw [if_neg z, if_neg z]; exact .cons ⟨rfl, q⟩ (FRep.put r t)
theorem FRep.len {K : Frg} {bx : Option Addr} {G : Hp} {fs : Fs} {ws : List (Str × V)} (h : FRep K bx G fs ws) : fs.length = ws.length := Paired.length h
theorem FRep.zip {K : Frg} {bx : Option Addr} {G : Hp} : ∀ {gs : List Str} {xs : List PV} {ws : List (Str × V)}, FRep K bx G (gs.zip xs) ws → xs.length = gs.length → ∃ vs, ws = gs.zip vs ∧ vs.length = gs.length ∧ Reps K bx G xs vs
  | [], [], ws, h, _ => by cases h; exact ⟨[], rfl, rfl, .nil⟩
  | g :: gs, x :: xs, ws, h, hl => by
    cases h with
    | cons q t =>
      rename_i w ws'
      obtain ⟨vs, e, l, r⟩ := FRep.zip (gs := gs) (xs := xs) t (by simpa using hl)
      obtain ⟨w1, w2⟩ := w
      obtain ⟨q1, q2⟩ := q
      have q1 : g = w1 := q1
      subst q1
      exact ⟨w2 :: vs, by rw [e]; rfl, by simp [l], .cons q2 r⟩
def spI (K : Frg) (ci : CtI) : Sp := fun vs H Q E => ∃ (F : Fx) (G : Hp) (c : Cl) (fs : Fs) (a dx : Addr) (ws : List (Str × V)) (us : List V) (ps : List PV) (q : Fs → Prop) (x : XV → Prop), vs = .ref a :: us ∧ F.G0 = G ∧ F.H0 = H ∧ (∀ b, F.M b ↔ (F.isB b ∨ b = a)) ∧ Ok F G H ∧ G a = none ∧ ¬ F.isB a ∧
  H a = some (.ins (ca K c) dx ws) ∧ FRep K F.b G fs ws ∧ Reps K F.b G ps us ∧ ci c fs ps q x ∧
  (∀ fs' ws' dx' G' H', q fs' → Ok F G' H' → G' a = none → H' a = some (.ins (ca K c) dx' ws') → FRep K F.b G' fs' ws' → Q .non H') ∧ (∀ xv d G' H', x xv → Ok F G' H' → XRep K F.b G' xv d → E (.ref (ca K xv.1)) d H')
/-- a state behind another one -/
theorem Ok.via {F : Fx} {G H G1 H1 G' H' : Hp} (o : Ok F G H) (g : Go F G H G1 H1) (o' : Ok { F with G0 := G1, H0 := H1 } G' H') : Ok F G' H' := by
  have mb : ∀ a, F.isB a → F.M a := fun a ⟨b, c, e, r⟩ => by
    obtain ⟨_, _, _, m1, m2⟩ := o.box b c e
    rcases r with rfl | rfl
    · exact m1
    · exact m2
  refine ⟨fun a u e n => o'.keep a u (g.keep a u (o.keep a u e n) fun z => n (mb a z)) n, fun a e => o.dom a (g.back (o'.dom a e)), (o.gx.trans g.gx).trans o'.gx, o'.sub, fun a u e => ?_, o'.box⟩
  rcases o'.new a u e with z | z
  · rcases g.new a u z with y | y
    · exact o.new a u y
    · exact .inr (o.dom a y)
  · exact .inr (o.dom a (g.back z))
def dI (ci : CtI) (c : Cl) (ds : DA) : DE := fun ρ q x => ds ρ (fun ps => ci c [] ps (fun fs => ∃ xs, fs = c.flds.zip xs ∧ xs.length = c.flds.length ∧ q (.obj c xs)) x) x
/-- what is asked of the new object's promise -/
theorem spI_of {K : Frg} {W : WX} {ci : CtI} {F : Fx} {ρ : En} {σ : L2.St} {G H : Hp} {c : Cl} {ps : List PV} {us : List V} {q : PV → Prop} {x : XV → Prop} {Q : VK} {y dx : Addr} (R : Rel K F ρ σ G H) (r : Reps K F.b G ps us) (h : ci c [] ps (fun fs => ∃ xs, fs = c.flds.zip xs ∧ xs.length = c.flds.length ∧ q (.obj c xs)) x)
    (gv : GoodV K F G H q Q) (gx : GoodX K W F G H σ x) (hy : H y = none) (hdx : H dx = none) (ne : dx ≠ y) : spI K ci (.ref y :: us) (upd (upd H dx (.own y)) y (.ins (ca K c) dx [])) (fun v H2 => v = .non ∧ Q (.ref y) H2) (fun cls d H' => W cls d σ H') := by
  have o := R.ok
  have g1 := o.new2 (u := .own y) hdx
  have hy1 : upd H dx (.own y) y = none := by rw [upd_ne (Ne.symm ne)]; exact hy
  have g2 := g1.ok.new2 (u := .ins (ca K c) dx []) hy1
  have g12 := g1.trans g2
  have nb : ¬ F.isB y := fun z => by obtain ⟨u, e⟩ := o.isB_some z; rw [hy] at e; cases e
  have o2 := g12.ok
  have back : ∀ {G' H' : Hp}, Ok ⟨G, upd (upd H dx (.own y)) y (.ins (ca K c) dx []), fun b => F.isB b ∨ b = y, F.bx⟩ G' H' → Go F G H G' H' := fun {G' H'} o' => by
    refine ⟨⟨fun a u e n => ?_, fun a e => o.dom a (g12.back (o'.dom a e)), o.gx.trans o'.gx, o'.sub, fun a u e => ?_, fun b k e => ?_⟩, o'.gx, fun a u e n => ?_, fun a u e => ?_⟩
    · have e1 := o.keep a u e n
      have nba : ¬ F.isB a := fun ⟨b, k, e2, r⟩ => n (by
        obtain ⟨_, _, _, m1, m2⟩ := o.box b k e2
        rcases r with rfl | rfl
        · exact m1
        · exact m2)
      exact o'.keep a u (g12.keep a u e1 nba) fun z => z.elim nba fun z => by rw [z, hy] at e1; cases e1
    · rcases o'.new a u e with z | z
      · exact o.new a u z
      · exact .inr (o.dom a (g12.back z))
    · obtain ⟨bt, gb, gc, _, _⟩ := o'.box b k e
      obtain ⟨_, _, _, m1, m2⟩ := o.box b k e
      exact ⟨bt, gb, gc, m1, m2⟩
    · exact o'.keep a u (g12.keep a u e n) fun z => z.elim n fun z => by rw [z, hy] at e; cases e
    · exact (o'.new a u e).elim .inl fun z => .inr (g12.back z)
  refine ⟨⟨G, upd (upd H dx (.own y)) y (.ins (ca K c) dx []), fun b => F.isB b ∨ b = y, F.bx⟩, G, c, [], y, dx, [], us, ps, _, x, rfl, rfl, rfl, fun b => Iff.rfl, ⟨fun _ _ e _ => e, fun _ e => e, .refl _, o2.sub, fun _ _ e => .inl e, fun b k e => ?_⟩, o.sub.free hy, nb, upd_same, .nil, r, h, ?_, ?_⟩
  · obtain ⟨bt, gb, gc, _, _⟩ := o2.box b k e
    exact ⟨bt, gb, gc, .inl ⟨b, k, e, .inl rfl⟩, .inl ⟨b, k, e, .inr rfl⟩⟩
  · rintro fs' ws' dx' G' H' ⟨xs, rfl, hl, hq⟩ o' gy hy' fr
    obtain ⟨vs, rfl, l, rs⟩ := fr.zip hl
    refine ⟨rfl, gv _ _ _ _ hq ((back o').take o hy hy' gy) ?_⟩
    simp only [Rep]
    exact ⟨y, dx', vs, rfl, upd_same, l, rs.mono (.upd gy)⟩
  · intro xv d G' H' hx o' rx
    exact gx xv d G' H' hx (back o') rx
theorem roomH_make {k : Nat} {A : Around} (r : L2H.RoomH (k + 1) A) (C : Addr) (us : List Value) (kw : List (Str × Value)) : L2H.RoomH k (A.under (.builtin "type.__call__" ⟨.ref C :: us, kw⟩)) :=
  ⟨by have := r.dp; rw [make_depth]; omega, by have := r.un; rw [make_units]; omega⟩
section
variable {X : Cx} {W : WX} {k : Nat} {c : Cl} {fI : Addr} {ks : List Str} {ci : CtI} {p0 pos : Pos} {e : Expr} {es : List Expr} {ds dk : DA} {kws : List Keyword}
theorem run_mk {pins : List (Addr × Obj)} {σ : L2.St} {H : Hp} {s : Shared} {Q : VK} {C : Addr} {us wz : List Value} {vs : List V} {sp : Sp} (M : Mk X.K C fI) (Fn : FnS false X.prog X.w X.K X.mg X.base k fI ks sp) (hc : X.calm = true) (hr : L2H.RoomH (k + 1) X.A) (tk : L2N.Takes X W) (J : Inv X pins σ H s) (hl : wz.length = ks.length) (r : Vals vs (us ++ wz))
    (h : ∀ y dx, H y = none → H dx = none → dx ≠ y → sp (.ref y :: vs) (upd (upd H dx (.own y)) y (.ins C dx [])) (fun v H2 => v = .non ∧ Q (.ref y) H2) (fun cls d H' => W cls d σ H')) :
    wpAny (model X.prog X.w) X.A (call (.ref C) us (ks.zip wz)) (EP X pins σ Q) X.xe s := by
  have hq := h (s.heap.objs.size + 1) s.heap.objs.size (J.hok.fresh (Nat.le_succ _)) (J.hok.fresh (Nat.le_refl _)) (Nat.ne_of_lt (Nat.lt_succ_self _))
  have J2 := Inv.made (C := C) J
  have r2 : Vals (V.ref (s.heap.objs.size + 1) :: vs) ((Value.ref (s.heap.objs.size + 1) :: us) ++ wz) := .cons rfl r
  refine wpAny_call (make_map (f := fI) J.kIn M.makes M.init (beq_iff_eq.mp M.fn) (codeAny_mono (Fn _ X.stack _ _ (Value.ref (s.heap.objs.size + 1) :: us) wz _ _ _ (.inl (J.ok.hd hc)) (roomH_make hr C us _) (J2.env0.make C us _) hl r2 hq) fun rr s' hq' => ?_))
  cases rr with
  | error er => exact tk er s' (L2N.XE.of_call J2 (fun _ _ _ z => z) hq')
  | ok fl =>
    cases fl with
    | ret u =>
      obtain ⟨v, H', J3, rv, ev, q3⟩ := J2.after hq'
      subst ev
      exact ⟨rv, ⟨V.ref (s.heap.objs.size + 1), H', J3, rfl, q3⟩⟩
    | next => exact False.elim hq'
    | brk => exact False.elim hq'
    | cont => exact False.elim hq'
theorem e_make (M : Mk X.K (ca X.K c) fI) (Fn : FnS false X.prog X.w X.K X.mg X.base k fI [] (spI X.K ci)) (hc : X.calm = true) (hr : L2H.RoomH (k + 1) X.A) (tk : L2N.Takes X W) (hm : X.mg c.name = some (.ref (ca X.K c))) (ha : AJ X W (e :: es) ds) (hg : Gl X c.name := by rfl)
    (h1 : (c.name == ("__debug__" : Str)) = false := by decide) (h2 : starEach (e :: es) X.env = (false, eval e X.env) :: starEach es X.env := by rfl) (h3 : (backTo pos (starEach es X.env)).any (·.1) = false := by rfl) : EJ X W (.Call (.Name c.name p0) (e :: es) [] pos) (dI ci c ds) := by
  refine ⟨fun pins s σ H Q J ⟨F, ρ, G, q, z, R, h, gv, gx⟩ => ?_⟩
  refine wpAny_Call_Name_kw (ld_glob J hg hm ?_ h1)
  refine PySem.W.callWith_K (h₀ := X.base) J.ok.mod.kin M.kp (thn (ha.run pos pins s σ H (fun vs H1 => ∀ y dx, H1 y = none → H1 dx = none → dx ≠ y → spI X.K ci (.ref y :: vs) (upd (upd H1 dx (.own y)) y (.ins (ca X.K c) dx [])) (fun v H2 => v = .non ∧ Q (.ref y) H2) fun cls d H' => W cls d σ H') J
    ⟨F, ρ, G, _, z, R, h, fun ps vs G1 H1 h1 g1 r1 y dx hy hd ne => spI_of (R.go g1) r1 h1 (gv.go g1) (gx.go g1) hy hd ne, gx⟩) fun us s1 ⟨vs, H1, J1, r, q1⟩ => ⟨J1.kIn, ?_⟩) h2 h3
  exact run_mk (wz := []) M Fn hc hr tk J1 rfl (by rw [List.append_nil]; exact r) q1
theorem e_make0 (M : Mk X.K (ca X.K c) fI) (Fn : FnS false X.prog X.w X.K X.mg X.base k fI [] (spI X.K ci)) (hc : X.calm = true) (hr : L2H.RoomH (k + 1) X.A) (tk : L2N.Takes X W) (hm : X.mg c.name = some (.ref (ca X.K c))) (hg : Gl X c.name := by rfl)
    (h1 : (c.name == ("__debug__" : Str)) = false := by decide) : EJ X W (.Call (.Name c.name p0) [] [] pos) (dI ci c dNil) := by
  refine ⟨fun pins s σ H Q J ⟨F, ρ, G, q, z, R, h, gv, gx⟩ => ?_⟩
  refine wpAny_Call_Name_kw (ld_glob J hg hm ?_ h1)
  exact PySem.W.callWith_K0 J.kIn M.kp (run_mk (us := []) (wz := []) M Fn hc hr tk J rfl .nil fun y dx hy hd ne => spI_of R .nil h gv gx hy hd ne)
theorem e_makeK (M : Mk X.K (ca X.K c) fI) (Fn : FnS false X.prog X.w X.K X.mg X.base k fI ks (spI X.K ci)) (hc : X.calm = true) (hr : L2H.RoomH (k + 1) X.A) (tk : L2N.Takes X W) (hm : X.mg c.name = some (.ref (ca X.K c))) (ha : AJ X W (e :: es) ds) (hkw : KJ X W kws dk) (hg : Gl X c.name := by rfl)
    (k1 : (backToKw pos (keywordEach kws X.env)).all (·.1.isSome) = true := by rfl) (k2 : (backToKw pos (keywordEach kws X.env)).filterMap (·.1) = ks := by rfl)
    (h1 : (c.name == ("__debug__" : Str)) = false := by decide) (h2 : starEach (e :: es) X.env = (false, eval e X.env) :: starEach es X.env := by rfl)
    (h3 : ((backTo pos (starEach (e :: es) X.env)).any (·.1) || (backToKw pos (keywordEach kws X.env)).any (·.1.isNone)) = false := by rfl) : EJ X W (.Call (.Name c.name p0) (e :: es) kws pos) (fun ρ q x => ds ρ (fun ps => dk ρ (fun zs => zs.length = ks.length ∧ ci c [] (ps ++ zs) (fun fs => ∃ xs, fs = c.flds.zip xs ∧ xs.length = c.flds.length ∧ q (.obj c xs)) x) x) x) := by
  refine ⟨fun pins s σ H Q J ⟨F, ρ, G, q, z, R, h, gv, gx⟩ => ?_⟩
  refine wpAny_Call_Name_kw (ld_glob J hg hm ?_ h1)
  refine PySem.W.callWith_KW (h₀ := X.base) J.ok.mod.kin M.kp k1 (thn (ha.run pos pins s σ H (fun vs H1 => tA X.K W dk σ H1 fun zs H2 => zs.length = ks.length ∧ ∀ y dx, H2 y = none → H2 dx = none → dx ≠ y → spI X.K ci (.ref y :: (vs ++ zs)) (upd (upd H2 dx (.own y)) y (.ins (ca X.K c) dx [])) (fun v H3 => v = .non ∧ Q (.ref y) H3) fun cls d H' => W cls d σ H') J
    ⟨F, ρ, G, _, z, R, h, fun ps vs G1 H1 h1 g1 r1 => ⟨F, ρ, G1, _, z, R.go g1, h1, fun zs ws G2 H2 ⟨hz, h2⟩ g2 r2 => ⟨by rw [r2.length]; exact hz, fun y dx hy hd ne => spI_of (R.go (g1.trans g2)) ((r1.mono g2.gx).append r2) h2 (gv.go (g1.trans g2)) (gx.go (g1.trans g2)) hy hd ne⟩, gx.go g1⟩, gx⟩) fun us s1 ⟨vs, H1, J1, r, q1⟩ => ?_) h3 h2
  refine thn (hkw.run pos pins s1 σ H1 _ J1 q1) fun ws s2 ⟨zs, H2, J2, rz, hz, q2⟩ => ⟨J2.kIn, ?_⟩
  rw [k2]
  exact run_mk M Fn hc hr tk J2 (by rw [← rz.length]; exact hz) (r.append rz) q2
end

/-! ## self.f = e in __init__ -/
def dAttrSet (hs : List Cl) (i : Nat) (f : Str) (d : DE) : DS := fun P ρ => d ρ (fun p => ∃ me c fs, ρ[i]? = some (some (.ownO me c fs)) ∧ c ∈ hs ∧ f ∈ c.flds ∧ fs.length < 1000 ∧ P.nx (ρ.set i (some (.ownO me c (putP f p fs))))) (fun xv => P.xc xv ρ)
theorem s_attr {X : Cx} {W : WX} {hs : List Cl} {i : Nat} {f x : Str} {e : Expr} {d : DE} {p0 pos' pos : Pos} (ki : KI X.K hs) (hv : EJ X W e d) (hN : X.N[i]? = some x := by rfl) (hvis : Vis X.env.scope x := by first | exact Or.inl rfl | exact Or.inr (Or.inl rfl) | exact Or.inr (Or.inr rfl))
    (hsw : swapsWith e (some (.Attribute (.Name x p0) f pos')) pos.line X.env = pure false := by rfl) (h1 : (x == ("__debug__" : Str)) = false := by decide) (h2 : (x == ("__classdict__" : Str)) = false := by decide) : SJ X W (.Assign [.Attribute (.Name x p0) f pos'] e pos) (dAttrSet hs i f d) :=
  ps_imp (ps_fld (pe_var hN hvis h1 h2) hv hsw) fun D σ H ⟨F, ρ, G, P, R, h, eo⟩ =>
  ⟨F, ρ, G, _, _, R, h, fun p v G1 H1 ⟨me, c, fs, e1, hc, hf, hl, h1⟩ g1 r1 => by
    have R1 := R.go g1
    obtain ⟨u, e2, a, dx, ws, rfl, ga, nb, ha, fr, h0⟩ := R1.at_ i _ e1
    refine ⟨_, e2, a, ca X.K c, dx, ws, rfl, ha, (ki.kc c hc).cls, (ki.kc c hc).no f hf, by rw [← fr.len]; exact hl, ?_⟩
    have h0' : F.H0 a = none ∨ F.M a := by cases me with | true => exact .inr h0 | false => exact .inl h0
    have ok' := R1.ok.mut (u' := .ins (ca X.K c) dx (putF f v ws)) ha ga h0' nb
    refine eo.nx _ _ G1 _ h1 (R1.retell ok' e2 ⟨a, dx, _, rfl, ga, nb, upd_same, fr.put r1, h0⟩ (fun j s w n z z2 rr => ?_) fun b hb j s w n z z2 q => ?_)
    · have na : s.own w ≠ some a := fun q => n (R1.inj i j _ s _ w a e1 z e2 z2 rfl q)
      cases s with
      | val y => exact rr
      | ownL ys =>
        obtain ⟨l, vs, rfl, gl, nl, hl, r5⟩ := rr
        exact ⟨l, vs, rfl, gl, nl, by rw [upd_ne fun q => na (by rw [q]; rfl)]; exact hl, r5⟩
      | ownO me2 c2 fs2 =>
        obtain ⟨l, dx2, vs, rfl, gl, nl, hl, r5⟩ := rr
        exact ⟨l, dx2, vs, rfl, gl, nl, by rw [upd_ne fun q => na (by rw [q]; rfl)]; exact hl, r5⟩
    · cases hb
      exact n (R1.inj i j _ s _ w a e1 z e2 z2 rfl q), eo.gx R⟩
/-! ## the body of an __init__ -/
def startI (n : Nat) (c : Cl) (fs : Fs) (ps : List PV) : En := some (.ownO true c fs) :: (ps.map (fun p => some (.val p)) ++ List.replicate (n - (ps.length + 1)) none)
def endsI (c : Cl) (q : Fs → Prop) (x : XV → Prop) : DEn := { nx := fun ρ => ∃ fs, ρ[0]? = some (some (.ownO true c fs)) ∧ q fs, rt := fun _ => False, xc := fun xv _ => x xv }
theorem rel_startI {K : Frg} {F : Fx} {G H : Hp} {N : List Str} {c : Cl} {fs : Fs} {a dx : Addr} {ws : List (Str × V)} {ps : List PV} {us : List V} (o : Ok F G H) (r : Reps K F.b G ps us) (ga : G a = none) (nb : ¬ F.isB a) (ha : H a = some (.ins (ca K c) dx ws)) (fr : FRep K F.b G fs ws) (hm : F.M a) :
    Rel K F (startI N.length c fs ps) (L2.start N (.ref a :: us)) G H := by
  have hl := r.length
  have tail : ∀ (i : Nat) (s : Slot), (ps.map (fun p => some (Slot.val p)) ++ List.replicate (N.length - (ps.length + 1)) none)[i]? = some (some s) → ∃ p v, s = .val p ∧ us[i]? = some v ∧ Rep K F.b G p v := fun i s e => by
    by_cases hi : i < ps.length
    · rw [List.getElem?_append_left (by simpa using hi), List.getElem?_map] at e
      have ex : ps[i]? = some ps[i] := List.getElem?_eq_getElem hi
      rw [ex] at e
      cases e
      obtain ⟨v, e1, e2⟩ := r.get ex
      exact ⟨_, v, rfl, e1, e2⟩
    · rw [List.getElem?_append_right (by simpa using hi), List.getElem?_replicate] at e
      split at e <;> cases e
  refine ⟨o, ?_, fun i s e => ?_, fun i j s t v u b e1 e2 e3 e4 o1 o2 => ?_⟩
  · unfold startI L2.start
    simp only [List.length_append, List.length_map, List.length_replicate, List.length_cons, hl]
    omega
  · cases i with
    | zero =>
      cases e
      exact ⟨_, rfl, a, dx, ws, rfl, ga, nb, ha, fr, hm⟩
    | succ i =>
      obtain ⟨p, v, rfl, e1, e2⟩ := tail i s e
      refine ⟨v, ?_, e2⟩
      unfold L2.start
      simp only [List.map_cons, List.cons_append, List.getElem?_cons_succ]
      rw [List.getElem?_append_left (by simpa using lt_of_some e1), List.getElem?_map, e1]
      rfl
  · have only : ∀ (i : Nat) (s : Slot) (v : V), (startI N.length c fs ps)[i]? = some (some s) → s.own v = some b → i = 0 := fun i s v e oo => by
      cases i with
      | zero => rfl
      | succ i =>
        obtain ⟨p, _, rfl, _⟩ := tail i s e
        cases oo
    rw [only i s v e1 o1, only j t u e2 o2]
theorem body_ofI {K : Frg} {ci : CtI} {d : DS} {N : List Str} {vs : List V} {H : Hp} {Q : VK} {E : XK} (hd : ∀ c fs ps q x, ci c fs ps q x → d (endsI c q x) (startI N.length c fs ps)) (h : spI K ci vs H Q E) :
    tS K (fun cls dd _ H' => E cls dd H') d { nx := fun _ H' => Q .non H', rt := Q } (L2.start N vs) H := by
  obtain ⟨F, G, c, fs, a, dx, ws, us, ps, q, x, rfl, _, _, hM, o, ga, nb, ha, fr, r, hc, hq, hx⟩ := h
  refine ⟨F, _, G, endsI c q x, rel_startI o r ga nb ha fr ((hM a).mpr (.inr rfl)), hd c fs ps q x hc, ⟨fun ρ σ G' H' ⟨fs', e, z⟩ R => ?_, fun _ _ _ _ z => z.elim, fun _ _ _ _ z => z.elim, fun _ _ _ _ z => z.elim, fun xv dd ρ σ G' H' z R rr => hx xv dd G' H' z R.ok rr⟩⟩
  obtain ⟨v, e1, b, dx', ws', rfl, gb, nb', hb, fr', m⟩ := R.at_ 0 _ e
  have m : F.M b := m
  have eb : b = a := ((hM b).mp m).resolve_left nb'
  subst eb
  exact hq fs' ws' dx' G' H' z R.ok gb hb fr'
section
variable {P : Program} {w : World} {K : Frg} {mg : Str → Option Value} {base : Heap} {x qual : Str} {params : Arguments} {body : List Stmt} {scope : Scope} {dvs : List V} {kws : List (Str × V)} {f : Addr} {fd : FuncData} {N ps : List Str} {k : Nat}
/-- an __init__ by its body -/
theorem fn_i (Fn : FunD K x qual params body scope dvs kws f fd) (S : FnScope N ps scope) (ci : CtI) (d : DS) (len : ∀ c fs as q z, ci c fs as q z → as.length + 1 = ps.length)
    (der : ∀ (cm : Bool) (pn : List (Addr × Obj)) (cd : Value) (A : Around) (outer : List Env) (s : Shared) (H : Hp) (E : XK), (false = false → cm = true) → Here false (cxG cm pn P w K mg base N qual scope f cd A outer s H E) (fun cls dd _ H' => E cls dd H') k →
      BJ (cxG cm pn P w K mg base N qual scope f cd A outer s H E) (fun cls dd _ H' => E cls dd H') body d)
    (pure_ : ∀ c fs as q z, ci c fs as q z → d (endsI c q z) (startI N.length c fs as)) : FnO false P w K mg base (k + 1) f fd ps (spI K ci) :=
  fn_o false Fn S (fun vs H Q E ⟨F, G, c, fs, a, dx, ws, us, as, q, z, e, _, _, _, _, _, _, _, _, r, hc, _⟩ => by rw [e, List.length_cons, r.length]; exact len c fs as q z hc) fun cm pn cd A outer s H vs Q E hcm he hs => ⟨_, der cm pn cd A outer s H E hcm he, body_ofI pure_ hs⟩

/-! ## defs with a star -/
theorem cxUpN : StX.CXUp (L2N.CX P w) := by
  rintro outer s H s2 H2 E e s' un kp ho ⟨a, B, H', cls, d, ea, fl, hok, ub, na, os, ag, he⟩
  refine ⟨a, B, H', cls, d, ea, fl, hok, ⟨fun b o q n hb => ub.keep b o (kp b o q) (un.free b o q n (by simp)) hb, fun b o q hb => ub.slot b o (kp b o q) hb, fun b o q n => ub.free b o (kp b o q) (un.free b o q n (by simp)),
    fun b o q hb => ub.there b o (kp b o q) hb, fun b xs q => ub.tups b xs (un.tups b xs q), fun b o xs q => ub.frzs b o xs (un.frzs b o xs q), fun b ps q => ?_⟩, na, by rw [os]; exact ho, ag, he⟩
  obtain ⟨m1, e1⟩ := un.tbls b ps q
  obtain ⟨m2, e2⟩ := ub.tbls b _ e1
  exact ⟨m1 ++ m2, by rw [e2, Array.append_assoc]⟩
theorem fnS_of_R {sp : Sp} {k : Nat} (Fn : FnR P w K mg base (L2N.CX P w) k f sp) : FnS false P w K mg base k f [] sp := fun A outer s H us ws vs Q E hm hr e0 hl r h => by
  have hw : ws = [] := List.eq_nil_of_length_eq_zero hl
  subst hw
  rw [List.append_nil] at r
  rcases hm with z | ⟨z, _⟩
  · exact Fn A outer s H us vs Q E ⟨z, hr.dp, hr.un⟩ e0 r h
  · cases z
/-- def f(*v): the arguments are one tuple -/
theorem spP_star {c : Ct} {vs : List V} {H : Hp} {Q : VK} {E : XK} (h : spP K (fun as q z => as.length ≤ sizeLine ∧ c [.tup as] q z) vs H Q E) {p : Addr} (hp : H p = none) : spP K c [.ref p] (upd H p (.tup vs)) Q E := by
  obtain ⟨F, G, as, q, z, rfl, rfl, hM, o, r, ⟨hl, hc⟩, hq, hx⟩ := h
  have g := o.new1 (u := .tup vs) hp
  refine ⟨{ F with G0 := upd F.G0 p (.tup vs), H0 := upd F.H0 p (.tup vs) }, _, [.tup as], q, z, rfl, rfl, hM, ?_, .cons (rep_tup (.inl (.inl upd_same)) (r.mono g.gx)) .nil, hc, fun p' v G' H' h1 o' => hq p' v G' H' h1 (o.via g o'), fun xv d G' H' h1 o' => hx xv d G' H' h1 (o.via g o')⟩
  exact ⟨fun _ _ e _ => e, fun _ e => e, .refl _, g.ok.sub, fun _ _ e => .inl e, g.ok.box⟩
theorem fn_star {pv : Str} (Fn : FunD K x qual params body scope [] kws f fd) (S : FnScope N [pv] scope) (c : Ct) (d : DS) (hb : ∀ (kV doc pm : Value) (an : Option Addr) (cdv ct : Value) (rest : List Value), bindArgs (PySem.W.fnOf x qual params body scope .none kV doc pm an cdv ct) ⟨rest, []⟩ = (newTuple rest >>= fun t => pure [(pv, t)]))
    (der : ∀ (cm : Bool) (pn : List (Addr × Obj)) (cd : Value) (A : Around) (outer : List Env) (s : Shared) (H : Hp) (E : XK), (false = false → cm = true) → Here false (cxG cm pn P w K mg base N qual scope f cd A outer s H E) (fun cls dd _ H' => E cls dd H') k →
      BJ (cxG cm pn P w K mg base N qual scope f cd A outer s H E) (fun cls dd _ H' => E cls dd H') body d)
    (pure_ : ∀ as q z, c as q z → d (endsOf q z) (startE N.length as)) : FnS false P w K mg base (k + 1) f [] (spP K fun as q z => as.length ≤ sizeLine ∧ c [.tup as] q z) := by
  obtain ⟨oc, od, dV, kV, doc, pm, an, cdv, ct, osl, rfl, lk, hcd, hD, _⟩ := Fn.ex
  rcases hD with ⟨_, rfl⟩ | ⟨e, _⟩
  · refine fnS_of_R (FnR.imp (StX.fn_star (ps := []) (pv := pv) (sp := spP K c) lk hcd S cxUpN (fun us rest hu => ?_) fun A outer s H vs Q E hr hs => ⟨_, der true [] cdv A outer s H E (fun _ => rfl) (here_of (L2H.roomH_of hr) (.inl rfl)), body_of pure_ hs⟩) fun vs H Q E h => ?_)
    · have : us = [] := List.eq_nil_of_length_eq_zero hu
      subst this
      exact hb kV doc pm an cdv ct rest
    · refine ⟨[], vs, rfl, rfl, ?_, fun p hp => spP_star h hp⟩
      obtain ⟨F, G, as, q, z, _, _, _, _, r, ⟨hl, _⟩, _⟩ := h
      rw [r.length]; exact hl
  · exact absurd rfl e
theorem spI_star {ci : CtI} {vs : List V} {H : Hp} {Q : VK} {E : XK} (h : spI K (fun c fs as q z => as.length ≤ sizeLine ∧ ci c fs [.tup as] q z) vs H Q E) : ∃ a us, vs = .ref a :: us ∧ us.length ≤ sizeLine ∧ ∀ p, H p = none → spI K ci [.ref a, .ref p] (upd H p (.tup us)) Q E := by
  obtain ⟨F, G, c, fs, a, dx, ws, us, as, q, z, rfl, rfl, rfl, hM, o, ga, nb, ha, fr, r, ⟨hl, hc⟩, hq, hx⟩ := h
  refine ⟨a, us, rfl, by rw [r.length]; exact hl, fun p hp => ?_⟩
  have g := o.new1 (u := .tup us) hp
  have na : a ≠ p := ne_of_none ha hp
  refine ⟨{ F with G0 := upd F.G0 p (.tup us), H0 := upd F.H0 p (.tup us) }, _, c, fs, a, dx, ws, [.ref p], [.tup as], q, z, rfl, rfl, rfl, hM, ⟨fun _ _ e _ => e, fun _ e => e, .refl _, g.ok.sub, fun _ _ e => .inl e, g.ok.box⟩, by show upd F.G0 p _ a = _; rw [upd_ne na]; exact ga, nb, by show upd F.H0 p _ a = _; rw [upd_ne na]; exact ha, fr.mono g.gx,
    .cons (rep_tup (.inl (.inl upd_same)) (r.mono g.gx)) .nil, hc, fun fs' ws' dx' G' H' h1 o' => hq fs' ws' dx' G' H' h1 (o.via g o'), fun xv d G' H' h1 o' => hx xv d G' H' h1 (o.via g o')⟩
theorem fn_starI {p1 pv : Str} (Fn : FunD K x qual params body scope [] kws f fd) (S : FnScope N [p1, pv] scope) (ci : CtI) (d : DS)
    (hb : ∀ (kV doc pm : Value) (an : Option Addr) (cdv ct a : Value) (rest : List Value), bindArgs (PySem.W.fnOf x qual params body scope .none kV doc pm an cdv ct) ⟨a :: rest, []⟩ = (newTuple rest >>= fun t => pure [(p1, a), (pv, t)]))
    (der : ∀ (cm : Bool) (pn : List (Addr × Obj)) (cd : Value) (A : Around) (outer : List Env) (s : Shared) (H : Hp) (E : XK), (false = false → cm = true) → Here false (cxG cm pn P w K mg base N qual scope f cd A outer s H E) (fun cls dd _ H' => E cls dd H') k →
      BJ (cxG cm pn P w K mg base N qual scope f cd A outer s H E) (fun cls dd _ H' => E cls dd H') body d)
    (pure_ : ∀ c fs as q z, ci c fs as q z → d (endsI c q z) (startI N.length c fs as)) : FnS false P w K mg base (k + 1) f [] (spI K fun c fs as q z => as.length ≤ sizeLine ∧ ci c fs [.tup as] q z) := by
  obtain ⟨oc, od, dV, kV, doc, pm, an, cdv, ct, osl, rfl, lk, hcd, hD, _⟩ := Fn.ex
  rcases hD with ⟨_, rfl⟩ | ⟨e, _⟩
  · refine fnS_of_R (FnR.imp (StX.fn_star (ps := [p1]) (pv := pv) (sp := spI K ci) lk hcd S cxUpN (fun us rest hu => ?_) fun A outer s H vs Q E hr hs => ⟨_, der true [] cdv A outer s H E (fun _ => rfl) (here_of (L2H.roomH_of hr) (.inl rfl)), body_ofI pure_ hs⟩) fun vs H Q E h => ?_)
    · match us, hu with
      | [u], _ => exact hb kV doc pm an cdv ct u rest
    · obtain ⟨a, us, rfl, hl, hs⟩ := spI_star h
      exact ⟨[.ref a], us, rfl, rfl, hl, fun p hp => hs p hp⟩
  · exact absurd rfl e
end

/-! ## methods, classmethods -/
def dMeth (tab : Cl → Option Ct) (d : DE) (ds : DA) : DE := fun ρ q x => d ρ (fun p => ∃ c fs ct, p = .obj c fs ∧ tab c = some ct ∧ ds ρ (fun ps => ct (p :: ps) q x) x) x
section
variable {X : Cx} {W : WX} {hot : Bool} {k : Nat} {m : Str} {p0 apos pos : Pos} {o e : Expr} {es : List Expr} {d : DE} {ds : DA}
/-- what is known of a method: for each class of the table the def at f keeps its promise -/
def MTab (hot : Bool) (X : Cx) (k : Nat) (m : Str) (tab : Cl → Option Ct) : Prop := ∀ c ct, tab c = some ct → m ∉ c.flds ∧ ∃ f, Cls X.K (ca X.K c) ∧ Meth X.K (ca X.K c) m f ∧ FnS hot X.prog X.w X.K X.mg X.base k f [] (spP X.K ct)
theorem e_meth {tab : Cl → Option Ct} {pl : Sem Bool} (T : MTab hot X k m tab) (md : Md X hot) (hr : L2H.RoomH k X.A) (tk : L2N.Takes X W) (ho : EJ X W o d) (ha : AJ X W (e :: es) ds)
    (h2 : starEach (e :: es) X.env = (false, eval e X.env) :: starEach es X.env := by rfl) (h3 : (backTo pos (starEach es X.env)).any (·.1) = false := by rfl)
    (h4 : eval (.Call (.Attribute o m apos) (e :: es) [] pos) X.env = (do
      let ov ← eval o X.env
      standAt apos.atName
      let (g, first) ← holding [ov] (getMethod ov m pl)
      callWith pos g first (backTo pos (starEach (e :: es) X.env)) (backToKw pos (keywordEach [] X.env))) := by rfl) : EJ X W (.Call (.Attribute o m apos) (e :: es) [] pos) (dMeth tab d ds) := by
  refine ⟨fun pins s σ H Q J ⟨F, ρ, G, q, z, R, h, gv, gx⟩ => ?_⟩
  refine PySem.W.methodCall_KW (pl := pl) (thn (ho.run pins s σ H (fun v H1 => ∃ G1 c fs ct, Go F G H G1 H1 ∧ Rep X.K F.b G1 (.obj c fs) v ∧ tab c = some ct ∧ ds ρ (fun ps => ct (.obj c fs :: ps) q z) z) J ⟨F, ρ, G, _, z, R, h, fun p v G1 H1 ⟨c, fs, ct, e1, e2, h1⟩ g1 r1 => ⟨G1, c, fs, ct, g1, by rw [← e1]; exact r1, e2, by rw [← e1]; exact h1⟩, gx⟩)
    fun u s1 ⟨v, H1, J1, rv, G1, c, fs, ct, g1, r1, e2, h1⟩ => ?_) h4
  obtain ⟨hmf, f, hcl, hme, Fn⟩ := T c ct e2
  obtain ⟨a, dx, vs, rfl, ea, hl, rs⟩ := r1.obj_inv
  obtain rfl : u = Value.ref a := rv
  refine getmeth_ok J1 (g1.ok.sub _ _ ea) hcl hme (lookup_zip_none hmf) ?_
  refine PySem.W.callWith_K (first := [.ref a]) (h₀ := X.base) J.ok.mod.kin hme.kp (thn (ha.run pos pins s1 σ H1 (fun ws H2 => spP X.K ct (.ref a :: ws) H2 Q fun cls d H' => W cls d σ H') J1 ⟨F, ρ, G1, _, z, R.go g1, h1, fun ps ws G2 H2 h2 g2 r2 => spP_of (R.go (g1.trans g2)) (.cons (r1.mono g2.gx) r2) h2 (gv.go (g1.trans g2)) (gx.go (g1.trans g2)), gx.go g1⟩) fun us s2 ⟨ws, H2, J2, r, q2⟩ => ⟨J2.kIn, ?_⟩) h2 h3
  exact run_s (us := .ref a :: us) (ws := []) (vs := .ref a :: ws) Fn md hr tk J2 rfl (by rw [List.append_nil]; exact .cons rfl r) q2
theorem e_meth0 {tab : Cl → Option Ct} {pl : Sem Bool} (T : MTab hot X k m tab) (md : Md X hot) (hr : L2H.RoomH k X.A) (tk : L2N.Takes X W) (ho : EJ X W o d)
    (h4 : eval (.Call (.Attribute o m apos) [] [] pos) X.env = (do
      let ov ← eval o X.env
      standAt apos.atName
      let (g, first) ← holding [ov] (getMethod ov m pl)
      callWith pos g first (backTo pos (starEach [] X.env)) (backToKw pos (keywordEach [] X.env))) := by rfl) : EJ X W (.Call (.Attribute o m apos) [] [] pos) (dMeth tab d dNil) := by
  refine ⟨fun pins s σ H Q J ⟨F, ρ, G, q, z, R, h, gv, gx⟩ => ?_⟩
  refine PySem.W.methodCall_KW (pl := pl) (thn (ho.run pins s σ H (fun v H1 => ∃ G1 c fs ct, Go F G H G1 H1 ∧ Rep X.K F.b G1 (.obj c fs) v ∧ tab c = some ct ∧ ct [.obj c fs] q z) J ⟨F, ρ, G, _, z, R, h, fun p v G1 H1 ⟨c, fs, ct, e1, e2, h1⟩ g1 r1 => ⟨G1, c, fs, ct, g1, by rw [← e1]; exact r1, e2, by rw [← e1]; exact h1⟩, gx⟩)
    fun u s1 ⟨v, H1, J1, rv, G1, c, fs, ct, g1, r1, e2, h1⟩ => ?_) h4
  obtain ⟨hmf, f, hcl, hme, Fn⟩ := T c ct e2
  obtain ⟨a, dx, vs, rfl, ea, hl, rs⟩ := r1.obj_inv
  obtain rfl : u = Value.ref a := rv
  refine getmeth_ok J1 (g1.ok.sub _ _ ea) hcl hme (lookup_zip_none hmf) ?_
  exact PySem.W.callWith_K0 (first := [.ref a]) J1.kIn hme.kp (run_s (us := [.ref a]) (ws := []) (vs := [.ref a]) Fn md hr tk J1 rfl (.cons rfl .nil) (spP_of (R.go g1) (.cons r1 .nil) h1 (gv.go g1) (gx.go g1)))
variable {c : Cl} {mc : Value} {pm g : Addr} {ct : Ct}
/-- C.m(e, ..), m a classmethod -/
def dCm (c : Cl) (ct : Ct) (d : DE) (ds : DA) : DE := fun ρ q x => d ρ (fun p => p = .cls c ∧ ds ρ (fun ps => ct (.cls c :: ps) q x) x) x
theorem run_cms {pins : List (Addr × Obj)} {σ : L2.St} {H : Hp} {s : Shared} {C u : Addr} {sp : Sp} {Q : VK} {us : List Value} {vs : List V} (Fn : FnS hot X.prog X.w X.K X.mg X.base k g [] sp) (md : Md X hot) (hr : L2H.RoomH k X.A) (tk : L2N.Takes X W) (J : Inv X ((u, PySem.W.methodObj (.ref g) (.ref C)) :: pins) σ H s)
    (r : Vals vs us) (h : sp (.ref C :: vs) H Q (fun cls d H' => W cls d σ H')) : wpAny (model X.prog X.w) X.A (call (.ref u) us) (EP X pins σ Q) X.xe s := by
  have z := run_s (us := .ref C :: us) (ws := []) (vs := .ref C :: vs) (Q := Q) Fn md hr tk J rfl (by rw [List.append_nil]; exact .cons rfl r) h
  have hm : X.A.handled = none ∨ (hot = true ∧ ∃ p, L2H.Hot1 X.A p ∧ L2H.PinOk X.stack H s p) := by
    rcases md with z | ⟨z, p, hp, mem⟩
    · exact .inl (J.ok.hd z)
    · have P1 := J.pin p (List.mem_append_left _ mem)
      exact .inr ⟨z, p, hp, ⟨P1.1, P1.2.1, fun hq => (List.mem_cons.mp (J.stkSub p.1 hq)).elim P1.2.2.1 P1.2.2.2.1, P1.2.2.2.2⟩⟩
  refine wpAny_call (PySem.W.method_call (ClX.pin_at J) (codeAny_mono (Fn X.A X.stack s H (.ref C :: us) [] (.ref C :: vs) Q _ hm hr J.env0 rfl (by rw [List.append_nil]; exact .cons rfl r) h) fun rr s' hq => ?_))
  cases rr with
  | error er => exact tk er s' (L2N.XE.of_call (ClX.unpin J) (fun _ _ _ z => z) hq)
  | ok fl =>
    cases fl with
    | ret u => exact ClX.unpinE (J.after hq)
    | next => exact False.elim hq
    | brk => exact False.elim hq
    | cont => exact False.elim hq
theorem e_cmeth {pl : Sem Bool} (rd : ClX.CRead X.K (ca X.K c) mc) (cm : ClX.CMet X.K (ca X.K c) mc m pm g) (Fn : FnS hot X.prog X.w X.K X.mg X.base k g [] (spP X.K ct)) (md : Md X hot) (hr : L2H.RoomH k X.A) (tk : L2N.Takes X W) (ho : EJ X W o d) (ha : AJ X W (e :: es) ds)
    (h2 : starEach (e :: es) X.env = (false, eval e X.env) :: starEach es X.env := by rfl) (h3 : (backTo pos (starEach es X.env)).any (·.1) = false := by rfl)
    (h4 : eval (.Call (.Attribute o m apos) (e :: es) [] pos) X.env = (do
      let ov ← eval o X.env
      standAt apos.atName
      let (g, first) ← holding [ov] (getMethod ov m pl)
      callWith pos g first (backTo pos (starEach (e :: es) X.env)) (backToKw pos (keywordEach [] X.env))) := by rfl) : EJ X W (.Call (.Attribute o m apos) (e :: es) [] pos) (dCm c ct d ds) := by
  refine ⟨fun pins s σ H Q J ⟨F, ρ, G, q, z, R, h, gv, gx⟩ => ?_⟩
  refine PySem.W.methodCall_KW (pl := pl) (thn (ho.run pins s σ H (fun v H1 => ∃ G1, Go F G H G1 H1 ∧ v = .ref (ca X.K c) ∧ ds ρ (fun ps => ct (.cls c :: ps) q z) z) J ⟨F, ρ, G, _, z, R, h, fun p v G1 H1 ⟨e1, h1⟩ g1 r1 => ⟨G1, g1, by rw [e1] at r1; exact r1.cls_inv, h1⟩, gx⟩) fun u s1 ⟨v, H1, J1, rv, G1, g1, ev, h1⟩ => ?_) h4
  subst ev
  obtain rfl : u = Value.ref (ca X.K c) := rv
  refine ClX.getmethcm_ok J1 rd cm fun s2 J2 => ?_
  refine ClX.callwith_cm J2 (ClX.base_none J1 (Nat.le_refl _)) cm.fi (thn (ha.run pos _ s2 σ H1 (fun ws H2 => spP X.K ct (.ref (ca X.K c) :: ws) H2 Q fun cls d H' => W cls d σ H') J2 ⟨F, ρ, G1, _, z, R.go g1, h1, fun ps ws G2 H2 h2 g2 r2 => spP_of (R.go (g1.trans g2)) (.cons (rep_cls c) r2) h2 (gv.go (g1.trans g2)) (gx.go (g1.trans g2)), gx.go g1⟩) fun us s3 ⟨ws, H2, J3, r, q2⟩ => ⟨⟨ClX.pin_at J3, J3.kIn⟩, ?_⟩) h2 h3
  exact run_cms Fn md hr tk J3 r q2
theorem e_cmeth0 {pl : Sem Bool} (rd : ClX.CRead X.K (ca X.K c) mc) (cm : ClX.CMet X.K (ca X.K c) mc m pm g) (Fn : FnS hot X.prog X.w X.K X.mg X.base k g [] (spP X.K ct)) (md : Md X hot) (hr : L2H.RoomH k X.A) (tk : L2N.Takes X W) (ho : EJ X W o d)
    (h4 : eval (.Call (.Attribute o m apos) [] [] pos) X.env = (do
      let ov ← eval o X.env
      standAt apos.atName
      let (g, first) ← holding [ov] (getMethod ov m pl)
      callWith pos g first (backTo pos (starEach [] X.env)) (backToKw pos (keywordEach [] X.env))) := by rfl) : EJ X W (.Call (.Attribute o m apos) [] [] pos) (dCm c ct d dNil) := by
  refine ⟨fun pins s σ H Q J ⟨F, ρ, G, q, z, R, h, gv, gx⟩ => ?_⟩
  refine PySem.W.methodCall_KW (pl := pl) (thn (ho.run pins s σ H (fun v H1 => ∃ G1, Go F G H G1 H1 ∧ v = .ref (ca X.K c) ∧ ct [.cls c] q z) J ⟨F, ρ, G, _, z, R, h, fun p v G1 H1 ⟨e1, h1⟩ g1 r1 => ⟨G1, g1, by rw [e1] at r1; exact r1.cls_inv, h1⟩, gx⟩) fun u s1 ⟨v, H1, J1, rv, G1, g1, ev, h1⟩ => ?_) h4
  subst ev
  obtain rfl : u = Value.ref (ca X.K c) := rv
  refine ClX.getmethcm_ok J1 rd cm fun s2 J2 => ?_
  exact PySem.W.callWith_M0 (first := []) ⟨ClX.pin_at J2, J2.kIn⟩ cm.fi (run_cms (us := []) (vs := []) Fn md hr tk J2 .nil (spP_of (R.go g1) (.cons (rep_cls c) .nil) h1 (gv.go g1) (gx.go g1)))
/-- C.NAME, a constant of the class -/
theorem e_cval {f : Str} {v : V} {u : Value} {pv : PV} (rd : ClX.CRead X.K (ca X.K c) mc) (cv : ClX.CVal X.K (ca X.K c) mc f v u) (rp : ∀ bx G, Rep X.K bx G pv v) (ho : EJ X W o d) (hb : attributeBase o f X.env (eval o X.env) = eval o X.env := by rfl) : EJ X W (.Attribute o f pos) (dUn (fun p q => p = .cls c ∧ q pv) d) :=
  pe_imp (ClX.pe_cval ho hb) fun σ H Q ⟨F, ρ, G, q, x, R, h, gv, gx⟩ => ⟨F, ρ, G, _, x, R, h, fun p w G1 H1 ⟨e1, h1⟩ g1 r1 => by
    subst e1
    exact ⟨ca X.K c, mc, v, u, r1.cls_inv, rd, cv, gv _ _ _ _ h1 g1 (rp _ _)⟩, gx⟩
end
end Pw
namespace Pw
open PySem PySem.Spec PyProof.Rows L2
/-! ## v(*xs): v a local that holds the class c -/
def dMkVS (ci : CtI) (c : Cl) (df de : DE) : DE := fun ρ q x => df ρ (fun p => p = .cls c ∧ de ρ (fun s => ∃ xs, (s = .tup xs ∨ s = .lst xs) ∧ ci c [] xs (fun fs => ∃ ys, fs = c.flds.zip ys ∧ ys.length = c.flds.length ∧ q (.obj c ys)) x) x) x
theorem star_pv {X : Cx} {pins : List (Addr × Obj)} {σ : L2.St} {H G : Hp} {s : Shared} {bx : Option Addr} {p : PV} {v : V} {u : Value} {xs : List PV} {E : Value → Shared → Prop} {Q : List Value → Shared → Prop} (J : Inv X pins σ H s) (sub : Sub G H) (r : Rep X.K bx G p v) (rv : RelV v u) (hp : p = .tup xs ∨ p = .lst xs)
    (hQ : ∀ vs us s', Inv X pins σ H s' → Vals vs us → Reps X.K bx G xs vs → Q us s') : PySem.W.StarOf (model X.prog X.w) X.A E u Q s := by
  rcases hp with rfl | rfl
  · obtain ⟨a, vs, rfl, sq, rs⟩ := r.tup_inv
    obtain rfl : u = Value.ref a := rv
    exact star_tup J (sub.t sq) fun us s' J' rr => hQ vs us s' J' rr rs
  · obtain ⟨a, vs, rfl, sq, rs⟩ := r.lst_inv
    obtain rfl : u = Value.ref a := rv
    exact StX.star_lst J (sub.l sq) fun us s' J' rr => hQ vs us s' J' rr rs
theorem e_mkVS {X : Cx} {W : WX} {k : Nat} {c : Cl} {fI : Addr} {ci : CtI} {x : Str} {p0 p1 pos : Pos} {e : Expr} {df de : DE} (M : Mk X.K (ca X.K c) fI) (Fn : FnS false X.prog X.w X.K X.mg X.base k fI [] (spI X.K ci)) (hc : X.calm = true) (hr : L2H.RoomH (k + 1) X.A) (tk : L2N.Takes X W) (hf : EJ X W (.Name x p0) df) (he : EJ X W e de)
    (h1 : starEach [.Starred e p1] X.env = [(true, eval e X.env)] := by rfl) : EJ X W (.Call (.Name x p0) [.Starred e p1] [] pos) (dMkVS ci c df de) := by
  refine ⟨fun pins s σ H Q J ⟨F, ρ, G, q, z, R, h, gv, gx⟩ => ?_⟩
  refine wpAny_Call_Name_kw (thn (hf.run pins s σ H (fun v H1 => ∃ G1, Go F G H G1 H1 ∧ v = .ref (ca X.K c) ∧ de ρ (fun s => ∃ xs, (s = .tup xs ∨ s = .lst xs) ∧ ci c [] xs (fun fs => ∃ ys, fs = c.flds.zip ys ∧ ys.length = c.flds.length ∧ q (.obj c ys)) z) z) J
    ⟨F, ρ, G, _, z, R, h, fun p v G1 H1 ⟨e1, h1⟩ g1 r1 => ⟨G1, g1, by rw [e1] at r1; exact r1.cls_inv, h1⟩, gx⟩) fun u s1 ⟨v, H1, J1, rv, G1, g1, ev, hd⟩ => ?_)
  subst ev
  obtain rfl : u = Value.ref (ca X.K c) := rv
  refine PySem.W.callWith_S (h₀ := X.base) J.ok.mod.kin M.kp (thn (he.run pins s1 σ H1 (fun v H2 => ∃ G2 p xs, Go F G H G2 H2 ∧ Rep X.K F.b G2 p v ∧ (p = .tup xs ∨ p = .lst xs) ∧ ci c [] xs (fun fs => ∃ ys, fs = c.flds.zip ys ∧ ys.length = c.flds.length ∧ q (.obj c ys)) z) J1
    ⟨F, ρ, G1, _, z, R.go g1, hd, fun p v G2 H2 ⟨xs, e1, h2⟩ g2 r2 => ⟨G2, p, xs, g1.trans g2, r2, e1, h2⟩, gx.go g1⟩) fun u2 s2 ⟨v2, H2, J2, rv2, G2, p, xs, g2, r2, hp, h2⟩ => ?_) h1
  refine star_pv J2 g2.ok.sub r2 rv2 hp fun vs us s3 J3 rr rs => ⟨J3.kIn, ?_⟩
  exact run_mk (wz := []) M Fn hc hr tk J3 rfl (by rw [List.append_nil]; exact rr) fun y dx hy hdx ne => spI_of (R.go g2) rs h2 (gv.go g2) (gx.go g2) hy hdx ne

def dMkV (ci : CtI) (c : Cl) (df : DE) (ds : DA) : DE := fun ρ q x => df ρ (fun p => p = .cls c ∧ ds ρ (fun ps => ci c [] ps (fun fs => ∃ ys, fs = c.flds.zip ys ∧ ys.length = c.flds.length ∧ q (.obj c ys)) x) x) x
theorem e_mkV {X : Cx} {W : WX} {k : Nat} {c : Cl} {fI : Addr} {ci : CtI} {x : Str} {p0 pos : Pos} {e : Expr} {es : List Expr} {df : DE} {ds : DA} (M : Mk X.K (ca X.K c) fI) (Fn : FnS false X.prog X.w X.K X.mg X.base k fI [] (spI X.K ci)) (hc : X.calm = true) (hr : L2H.RoomH (k + 1) X.A) (tk : L2N.Takes X W) (hf : EJ X W (.Name x p0) df) (ha : AJ X W (e :: es) ds)
    (h2 : starEach (e :: es) X.env = (false, eval e X.env) :: starEach es X.env := by rfl) (h3 : (backTo pos (starEach es X.env)).any (·.1) = false := by rfl) : EJ X W (.Call (.Name x p0) (e :: es) [] pos) (dMkV ci c df ds) := by
  refine ⟨fun pins s σ H Q J ⟨F, ρ, G, q, z, R, h, gv, gx⟩ => ?_⟩
  refine wpAny_Call_Name_kw (thn (hf.run pins s σ H (fun v H1 => ∃ G1, Go F G H G1 H1 ∧ v = .ref (ca X.K c) ∧ ds ρ (fun ps => ci c [] ps (fun fs => ∃ ys, fs = c.flds.zip ys ∧ ys.length = c.flds.length ∧ q (.obj c ys)) z) z) J
    ⟨F, ρ, G, _, z, R, h, fun p v G1 H1 ⟨e1, h1⟩ g1 r1 => ⟨G1, g1, by rw [e1] at r1; exact r1.cls_inv, h1⟩, gx⟩) fun u s1 ⟨v, H1, J1, rv, G1, g1, ev, hd⟩ => ?_)
  subst ev
  obtain rfl : u = Value.ref (ca X.K c) := rv
  refine PySem.W.callWith_K (h₀ := X.base) J.ok.mod.kin M.kp (thn (ha.run pos pins s1 σ H1 (fun vs H2 => ∀ y dx, H2 y = none → H2 dx = none → dx ≠ y → spI X.K ci (.ref y :: vs) (upd (upd H2 dx (.own y)) y (.ins (ca X.K c) dx [])) (fun v H3 => v = .non ∧ Q (.ref y) H3) fun cls d H' => W cls d σ H') J1
    ⟨F, ρ, G1, _, z, R.go g1, hd, fun ps vs G2 H2 h1 g2 r1 y dx hy hd ne => spI_of (R.go (g1.trans g2)) r1 h1 (gv.go (g1.trans g2)) (gx.go (g1.trans g2)) hy hd ne, gx.go g1⟩) fun us s2 ⟨vs, H2, J2, r, q1⟩ => ⟨J2.kIn, ?_⟩) h2 h3
  exact run_mk (wz := []) M Fn hc hr tk J2 rfl (by rw [List.append_nil]; exact r) q1

/-! ## facts by a check of the written part, read off the head's one run -/
/-- where a def stands -/
inductive At where
  | glo (x : Str)
  | meth (c m : Str)
  | cm (c m : Str)
/-- the record of a classmethod C.m, its def -/
abbrev cmRec (K : Frg) (C : Addr) (m : Str) : Addr := He.ma K C m
abbrev cmFn (K : Frg) (C : Addr) (m : Str) : Addr := He5.wf K C "classmethod" m
def At.ad (K : Frg) : At → Addr
  | .glo x => He.ga K x
  | .meth c m => He.ma K (He.ga K c) m
  | .cm c m => cmFn K (He.ga K c) m
/-- one def of the text -/
structure DefP where
  at_ : At
  name : Str
  qual : Str
  params : Arguments
  body : List Stmt
  scope : Scope
  dfl : List He.Dv := []
  kwd : List (Str × He.Dv) := []
abbrev FnV := He.FnW
def fnV (K : Frg) (p : At) : FnV := match K.lookup (p.ad K) with
  | some ⟨_, _, .func fd, _⟩ => some (fd.name, fd.qualname, fd.params, fd.body, fd.scope, fd.globals, fd.closure, fd.builtins)
  | _ => none
def DefP.val (d : DefP) : FnV := some (d.name, d.qual, d.params, .stmts d.body, d.scope, mainGlobals, [], builtinsNs)
def DefP.dvs (K : Frg) (d : DefP) : List V := d.dfl.map (He.Dv.v K)
def DefP.kws (K : Frg) (d : DefP) : List (Str × V) := d.kwd.map fun q => (q.1, q.2.v K)
def DefP.ok (K : Frg) (d : DefP) : Bool := PySem.W.keepIn K (.ref (d.at_.ad K)) && (match K.lookup (d.at_.ad K) with
  | some ⟨_, _, .func fd, _⟩ => PySem.W.codeIn K fd.code d.qual && (He.dflB K fd.defaults (d.dvs K) && He.kwdB K fd.kwdefaults (d.kws K))
  | _ => false)
theorem DefP.funD {K : Frg} {d : DefP} (e : fnV K d.at_ = d.val) (c : d.ok K = true) : ∃ fd, FunD K d.name d.qual d.params d.body d.scope (d.dvs K) (d.kws K) (d.at_.ad K) fd := by
  obtain ⟨kp, c2⟩ := He.ba c
  unfold fnV at e
  cases q : K.lookup (d.at_.ad K) with
  | none => rw [q] at c2; cases c2
  | some o =>
    obtain ⟨oc, od, dt, osl⟩ := o
    rw [q] at c2 e
    cases dt with
    | func fd =>
      obtain ⟨n1, n2, n3, n4, n5, n6, n7, n8, n9, n10, n11, n12, n13, n14, n15⟩ := fd
      have e2 : (some (n1, n2, n3, n4, n5, n6, n7, n15) : FnV) = some (d.name, d.qual, d.params, .stmts d.body, d.scope, mainGlobals, [], builtinsNs) := e
      simp only [Option.some.injEq, Prod.mk.injEq] at e2
      obtain ⟨h1, h2, h3, h4, h5, h6, h7, h8⟩ := e2
      subst h1 h2 h3 h4 h5 h6 h7 h8
      have c3 : (PySem.W.codeIn K n13 d.qual && (He.dflB K n8 (d.dvs K) && He.kwdB K n9 (d.kws K))) = true := c2
      obtain ⟨k1, k2⟩ := He.ba c3
      obtain ⟨k3, k4⟩ := He.ba k2
      exact ⟨_, ⟨oc, od, n8, n9, n10, n11, n12, n13, n14, osl, rfl, q, k1, He.dflB_ok k3, He.kwdB_ok k4⟩, kp⟩
    | _ => cases c2
/-- an error class with its one field: its __init__ -/
structure ErrD where
  c : Cl
  f : Str
  qual : Str
  params : Arguments
  body : List Stmt
  scope : Scope
def errAd (K : Frg) (e : ErrD) : Addr := He.ma K (ca K e.c) "__init__"
/-- the function as it stands: its closure is one cell, which holds the class -/
def errV (K : Frg) (e : ErrD) : FnV := match K.lookup (errAd K e) with
  | some ⟨_, _, .func fd, _⟩ => some (fd.name, fd.qualname, fd.params, fd.body, fd.scope, fd.globals, [], fd.builtins)
  | _ => none
def ErrD.val (e : ErrD) : FnV := some (("__init__" : Str), e.qual, e.params, .stmts e.body, e.scope, mainGlobals, [], builtinsNs)
def ErrD.ok (file : Str) (K : Frg) (e : ErrD) : Bool := PySem.W.excInitIn K (ca K e.c) He.veBase "ValueError.__new__" && ((match PySem.W.clsIn K (ca K e.c) with
    | some cd => cd.hasDict && (HandSPX.refsVE cd.mro && decide (PySem.W.alongIn K "__init__" ((cd.mro.dropWhile (· != .ref (ca K e.c))).drop 1) = some (some (.builtin "ValueError.__init__"))))
    | none => false) && (decide (PySem.W.findIn K (.ref (ca K e.c)) "__setattr__" = some (some (.builtin "object.__setattr__"))) && (decide (PySem.W.findIn K (.ref (ca K e.c)) e.f = some none) && (decide (PySem.W.findIn K (.ref (ca K e.c)) "__init__" = some (some (.ref (errAd K e)))) &&
  (decide (PySem.W.typeIn K (.ref (errAd K e)) = some (.type "function")) && (PySem.W.keepIn K (.ref (ca K e.c)) && (decide (PySem.W.subIn K (.ref (ca K e.c)) (.type "BaseException") = some true) && (decide (PySem.W.typeIn K (.ref (ca K e.c)) = some (.type "type")) && (decide (PySem.W.subIn K (.ref (ca K e.c)) (.type "ValueError") = some true) &&
  (decide (PySem.W.subIn K (.ref (ca K e.c)) (.ref (ca K e.c)) = some true) && (decide (PySem.W.nsIn K cStatics "thirdparty.any" = some none) && (match K.lookup (errAd K e) with
    | some ⟨_, _, .func fd, _⟩ => (match fd.code, fd.closure with
      | .ref cda, [(x, cc)] => decide (fd.defaults = Value.none) && (decide (x = "__class__") && (PySem.W.codeIn K (.ref cda) e.qual && ((match K.lookup cc with
          | some ⟨_, _, .cell (some (.ref C)), _⟩ => decide (C = ca K e.c)
          | _ => false) && (match K.lookup cda with
          | some ⟨_, _, .fields vs, _⟩ => (match (vs[2]? : Option Value) with
            | some (Value.str z _) => decide (z = file)
            | _ => false)
          | _ => false))))
      | _, _ => false)
    | _ => false))))))))))))
theorem ErrD.errF {P : Program} {K : Frg} {e : ErrD} {file : Str} (v : errV K e = e.val) (c : e.ok file K = true) (hfile : (P.main.file == file) = true) (hs : (P.main.scope.names.lookup ("super" : Str)).isSome = false) (nf : e.f ≠ "self" ∧ e.f ≠ "super" ∧ e.f ≠ "__class__" ∧ e.f ≠ "__debug__")
    (hb : ∃ (msg : Str) (j : Nat) (a1 a2 p1 p2 p3 p4 p5 p6 q1 q2 q3 q4 : Pos), e.params = eArgs e.f a1 a2 ∧ e.body = eBody e.f msg j p1 p2 p3 p4 p5 p6 q1 q2 q3 q4 ∧ e.scope = eScope e.f ∧
      (∀ (cc cda : Addr) (kV doc pm ct : Value) (an : Option Addr) (u v : Value), bindArgs (PySem.W.fnX "__init__" e.qual (eArgs e.f a1 a2) (eBody e.f msg j p1 p2 p3 p4 p5 p6 q1 q2 q3 q4) (eScope e.f) [("__class__", cc)] .none kV doc pm an (.ref cda) ct) ⟨[u, v], []⟩ = pure ([("self", u), (e.f, v)] : List (Str × Value))) ∧
      ∀ env : Env, MCall msg j p1 p2 p3 p4 p5 env) : ErrF P K (ca K e.c) (errAd K e) e.f := by
  obtain ⟨c1, c⟩ := He.ba c
  obtain ⟨c2, c⟩ := He.ba c
  obtain ⟨c3, c⟩ := He.ba c
  obtain ⟨c4, c⟩ := He.ba c
  obtain ⟨c5, c⟩ := He.ba c
  obtain ⟨c6, c⟩ := He.ba c
  obtain ⟨c7, c⟩ := He.ba c
  obtain ⟨c8, c⟩ := He.ba c
  obtain ⟨c9, c⟩ := He.ba c
  obtain ⟨c10, c⟩ := He.ba c
  obtain ⟨c11, c⟩ := He.ba c
  obtain ⟨c12, c13⟩ := He.ba c
  refine ⟨c1, ?_, of_decide_eq_true c3, of_decide_eq_true c4, of_decide_eq_true c5, of_decide_eq_true c6, c7, of_decide_eq_true c8, of_decide_eq_true c9, of_decide_eq_true c10, of_decide_eq_true c11, of_decide_eq_true c12, ?_, hs, nf⟩
  · cases q : PySem.W.clsIn K (ca K e.c) with
    | none => rw [q] at c2; cases c2
    | some cd =>
      rw [q] at c2
      obtain ⟨d1, d2⟩ := He.ba c2
      obtain ⟨d3, d4⟩ := He.ba d2
      exact ⟨cd, rfl, d1, d3, of_decide_eq_true d4⟩
  · obtain ⟨msg, j, a1, a2, p1, p2, p3, p4, p5, p6, q1, q2, q3, q4, b1, b2, b3, b4, b5⟩ := hb
    unfold errV at v
    cases q : K.lookup (errAd K e) with
    | none => rw [q] at c13; cases c13
    | some o =>
      obtain ⟨oc, od, dt, osl⟩ := o
      rw [q] at c13 v
      cases dt with
      | func fd =>
        obtain ⟨n1, n2, n3, n4, n5, n6, n7, n8, n9, n10, n11, n12, n13, n14, n15⟩ := fd
        have e2 : (some (n1, n2, n3, n4, n5, n6, [], n15) : FnV) = some (("__init__" : Str), e.qual, e.params, .stmts e.body, e.scope, mainGlobals, [], builtinsNs) := v
        simp only [Option.some.injEq, Prod.mk.injEq] at e2
        obtain ⟨h1, h2, h3, h4, h5, h6, _, h8⟩ := e2
        subst h1 h2 h3 h4 h5 h6 h8
        cases n13 with
        | ref cda =>
          match n7, c13 with
          | [(x, cc)], c13 =>
            obtain ⟨f0, c14⟩ := He.ba c13
            have f0 : n8 = Value.none := of_decide_eq_true f0
            obtain ⟨f1, c15⟩ := He.ba c14
            obtain ⟨f2, c16⟩ := He.ba c15
            obtain ⟨f3, f4⟩ := He.ba c16
            clear c14 c15 c16 c13
            subst f0
            have f1 : x = "__class__" := of_decide_eq_true f1
            subst f1
            cases qc : K.lookup cc with
            | none => rw [qc] at f3; cases f3
            | some o2 =>
              obtain ⟨oc2, od2, dt2, osl2⟩ := o2
              rw [qc] at f3
              cases dt2 with
              | cell cv =>
                match cv, f3 with
                | some (.ref C), f3 =>
                  have f3 : C = ca K e.c := of_decide_eq_true f3
                  subst f3
                  cases qd : K.lookup cda with
                  | none => rw [qd] at f4; cases f4
                  | some o3 =>
                    obtain ⟨oc3, od3, dt3, osl3⟩ := o3
                    rw [qd] at f4
                    cases dt3 with
                    | fields vs =>
                      cases qv : vs[2]? with
                      | none => simp only [qv] at f4; cases f4
                      | some vv =>
                        simp only [qv] at f4
                        cases vv with
                        | str z tz =>
                          have f4 : z = file := of_decide_eq_true f4
                          subst f4
                          exact ⟨oc, od, e.qual, msg, j, .none, n9, n10, n11, n12, cda, cc, n14, osl, a1, a2, p1, p2, p3, p4, p5, p6, q1, q2, q3, q4, _, _, vs, z, tz, by rw [b1, b2, b3], f2, by first | exact qc | rfl, rfl, by first | exact qd | rfl, rfl, qv, hfile, fun u v => b4 cc cda n9 n10 n11 n14 n12 u v, b5⟩
                        | _ => cases f4
                    | _ => cases f4
              | _ => cases f3
        | _ => cases c13
      | _ => cases c13
end Pw
/-! # the head's one run, and what is read off it -/
namespace Pw
open PySem PySem.Spec PyProof.Rows L2
def asP (g : Addr → Option Obj) : Nat → List Addr
  | 0 => [mainGlobals, cStatics]
  | n + 1 => He.growD g (asP g n)
structure Want where
  n : Nat
  file : Str
  fa : List He.Fa
  hs : List Cl
  xs : List Cl
  more : Frg → Bool
  fn : List DefP
  er : List ErrD
abbrev AlP : Type := Bool × List FnV
def Want.ok (t : Want) (K : Frg) : Bool := (t.fa.all fun f => f.ok K) && (kiB K t.hs && (kxB K t.xs && (t.more K && ((t.fn.all fun d => d.ok K) && t.er.all fun e => e.ok t.file K))))
def Want.see (t : Want) (K : Frg) : AlP := (t.ok K, (t.fn.map fun d => fnV K d.at_) ++ t.er.map fun e => errV K e)
def Want.val (t : Want) : AlP := (true, t.fn.map DefP.val ++ t.er.map ErrD.val)
def Says (t : Want) (K : Frg) : Prop := t.see K = t.val
def Want.obs (t : Want) (g : Addr → Option Obj) : AlP := t.see (He.frG g (asP g t.n))
def Want.hook (t : Want) : PySem.W.Hook where
  α := AlP
  obs := fun s => t.obs s.heap.get?
  val := fun _ => t.val
  says := fun _ h => ∃ K : Frg, K.In h ∧ Says t K
  of := fun _ _ e => ⟨_, He.frG_in, e⟩
  keeps := fun _ _ _ ⟨K, hK, c⟩ k => ⟨K, PySem.W.Frag.In.keeps hK k, c⟩
theorem Want.obs_eq {t : Want} {g : Addr → Option Obj} {s : Shared} (h : ∀ a, g a = s.heap.get? a) : t.obs g = t.hook.obs s := by
  have e : g = s.heap.get? := funext h
  rw [e] <;> rfl
section
variable {t : Want} {K : Frg}
theorem Says.ok (c : Says t K) : t.ok K = true := congrArg (fun z : AlP => z.1) c
theorem Says.fact (c : Says t K) (i : Nat) {f : He.Fa} (h : t.fa[i]? = some f := by rfl) : f.ok K = true := List.all_eq_true.mp (He.ba c.ok).1 f (List.mem_of_getElem? h)
theorem Says.ki (c : Says t K) : KI K t.hs := kiB_ok (He.ba (He.ba c.ok).2).1
theorem Says.kx (c : Says t K) : KX K t.xs := kxB_ok (He.ba (He.ba (He.ba c.ok).2).2).1
theorem Says.more (c : Says t K) : t.more K = true := (He.ba (He.ba (He.ba (He.ba c.ok).2).2).2).1
theorem Says.def_ (c : Says t K) (i : Nat) {d : DefP} (h : t.fn[i]? = some d := by rfl) : ∃ fd, FunD K d.name d.qual d.params d.body d.scope (d.dvs K) (d.kws K) (d.at_.ad K) fd := by
  have c2 := (He.ba (He.ba (He.ba (He.ba (He.ba c.ok).2).2).2).2).1
  have e : (t.fn.map fun d => fnV K d.at_) ++ (t.er.map fun e => errV K e) = t.fn.map DefP.val ++ t.er.map ErrD.val := congrArg (fun z : AlP => z.2) c
  have e1 := (List.append_inj e (by simp)).1
  have e2 : (t.fn.map fun d => fnV K d.at_)[i]? = (t.fn.map DefP.val)[i]? := by rw [e1]
  rw [List.getElem?_map, List.getElem?_map, h] at e2
  exact DefP.funD (Option.some.inj e2) (List.all_eq_true.mp c2 d (List.mem_of_getElem? h))
theorem Says.err (c : Says t K) (i : Nat) {d : ErrD} (h : t.er[i]? = some d := by rfl) : errV K d = d.val ∧ d.ok t.file K = true := by
  have c2 := (He.ba (He.ba (He.ba (He.ba (He.ba c.ok).2).2).2).2).2
  have e : (t.fn.map fun d => fnV K d.at_) ++ (t.er.map fun e => errV K e) = t.fn.map DefP.val ++ t.er.map ErrD.val := congrArg (fun z : AlP => z.2) c
  have e1 := (List.append_inj e (by simp)).2
  have e2 : (t.er.map fun e => errV K e)[i]? = (t.er.map ErrD.val)[i]? := by rw [e1]
  rw [List.getElem?_map, List.getElem?_map, h] at e2
  exact ⟨Option.some.inj e2, List.all_eq_true.mp c2 d (List.mem_of_getElem? h)⟩
end
end Pw
namespace Pw
open PySem PySem.Spec PyProof.Rows L2
/-! ## further facts, by checks -/
/-- attributes of the class are read as the builtin way reads them -/
theorem cread_ok {K : Frg} {C : Addr} (h : PySem.W.readsIn K C (.type "type") = true) : ClX.CRead K C (.type "type") := by
  refine ⟨h, ?_⟩
  unfold PySem.W.readsIn at h
  obtain ⟨h, _⟩ := He.ba h
  obtain ⟨h, _⟩ := He.ba h
  obtain ⟨h, h3⟩ := He.ba h
  obtain ⟨_, h2⟩ := He.ba h
  unfold PySem.W.specialIn
  rw [beq_iff_eq.mp h2, Option.bind_some]
  exact beq_iff_eq.mp h3
/-- a class is read as type.__getattribute__ reads it; its classmethod m -/
def cmB (K : Frg) (c : Cl) (m : Str) : Bool := PySem.W.readsIn K (ca K c) (.type "type") && (He5.wrapB K (ca K c) "classmethod" "classmethod.__get__" m && PySem.W.fnIn K (cmFn K (ca K c) m))
theorem cmB_ok {K : Frg} {c : Cl} {m : Str} (h : cmB K c m = true) : ClX.CRead K (ca K c) (.type "type") ∧ ClX.CMet K (ca K c) (.type "type") m (cmRec K (ca K c) m) (cmFn K (ca K c) m) := by
  obtain ⟨h1, h⟩ := He.ba h
  obtain ⟨h2, h3⟩ := He.ba h
  exact ⟨cread_ok h1, He5.cmet_of h2 h3⟩
/-- C.NAME is an int -/
def isVal (i : Int) : Option PySem.W.CFound → Bool
  | some (.val v) => (match v with
    | .int j _ => decide (j = i)
    | _ => false)
  | _ => false
theorem isVal_ok {i : Int} {r : Option PySem.W.CFound} (h : isVal i r = true) : ∃ t, r = some (.val (.int i t)) := by
  unfold isVal at h
  split at h
  · split at h
    · rename_i j t
      have e := of_decide_eq_true h
      exact ⟨t, by rw [e]⟩
    · cases h
  · cases h
def cvB (K : Frg) (c : Cl) (f : Str) (i : Int) : Bool := PySem.W.readsIn K (ca K c) (.type "type") && isVal i (PySem.W.findCls K (.ref (ca K c)) (.type "type") f)
theorem cvB_ok {K : Frg} {c : Cl} {f : Str} {i : Int} (h : cvB K c f i = true) : ClX.CRead K (ca K c) (.type "type") ∧ ∃ u, ClX.CVal K (ca K c) (.type "type") f (.int i) u := by
  obtain ⟨h1, h2⟩ := He.ba h
  obtain ⟨t, e⟩ := isVal_ok h2
  exact ⟨cread_ok h1, _, ⟨e, ⟨t, rfl⟩⟩⟩
/-! ## the law's own end -/
theorem law_end {l : PySem.W.OpenLaw} {q : Program} {loose : List Str} {XP : (Str → Option Value) → Heap → Prop} {d : DefRec} {t : Want} {k : Nat} {x : Str} {sp : Frg → Sp} (hn : l.most = some 63) (hdf : d.params.defaults = []) (hr : Room k callerA)
    (Fn : ∀ (w : World) (mg : Str → Option Value) (fa : Addr) (h : Heap) (K : Frg), K.In h → Says t K → h.Ns mainGlobals mg → mg d.name = some (.ref fa) → ∃ (fd : FuncData), (∀ (s : Shared) (u : Value), BindsTo s fd ⟨[u], []⟩ [(x, u)]) ∧ ∀ base : Heap, K.In base → base.Ns mainGlobals mg → FnOk l.prog w K mg base (L2N.CX l.prog w) k fa fd [x] (sp K))
    (hsp : ∀ (K : Frg) (H : Hp) (a : Addr) (ns : List Int), ns.length ≤ 63 → (∀ z ∈ ns, Builtin.Int.intBits z ≤ 1048576) → Only H → SqL K H a (ns.map V.int) → sp K [.ref a] H (fun v _ => v = .bl true) fun _ _ _ => False) :
    PySem.W.WalkO q loose XP t.hook.says l.row.toRowW d [] (fun f vs => PySem.call f vs) := by
  refine Att.attach_callB hn hdf fun w s₀ s₁ mg mb fa o pm cd doc a vs ns G Y ho hd hcd hmg hobj hints hlen hbits hg => ?_
  obtain ⟨K, KX, cs⟩ := Y
  obtain ⟨fd, hb, hF⟩ := Fn w mg fa _ K KX cs G.T.g hmg
  refine law_call KX G.T.g G.T.b G.T.builtins G.T.nolimit hg hobj hints (Nat.le_trans hlen (by decide)) hr hF hb (fun H hO hS => hsp K H a ns hlen hbits hO hS) fun H e s' z => ?_
  obtain ⟨_, _, _, _, _, _, _, _, _, _, _, _, zz⟩ := z
  exact zz.elim
end Pw
namespace Pw
open PySem PySem.Spec PyProof.Rows L2
/-! ## the box that a law draws from, by the raw rules -/
def tInt (t : TE) : TE := tCB (fun xs H Q => (∃ i, xs = [.int i] ∧ Q (.int i) H) ∨ ∃ k, xs = [.bl k] ∧ Q (.int (if k then 1 else 0)) H) (tCons t tNil)
def tLen (K : Frg) (t : TE) : TE := tCB (fun xs H Q => ∃ x n, xs = [x] ∧ LenV K x H n ∧ Q (.int n) H) (tCons t tNil)
def tAdd (a b : TE) : TE := tOp (rI0 fun i j => .int (i + j)) a b
def tMul (a b : TE) : TE := tOp (rI CMul fun i j => .int (i * j)) a b
def tMod (a b : TE) : TE := tOp (rI (fun _ j => 0 < j) fun i j => .int (i % j)) a b
def tFdv (a b : TE) : TE := tOp (rI CDivW fun i j => .int (i / j)) a b
/-- [[int(c) for c in script[:63]], 0, 1] -/
def tBox (K : Frg) : TS := tRet (tLst (tCons (tLc (iList K (L2.tSl (rSlL K) (tVar 0) tNoPart (tPart (tC (.int 63))))) (gName 1) tYes (tInt (tVar 1)) [1]) (tCons (tC (.int 0)) (tCons (tC (.int 1)) tNil))))
theorem int_run {t : TE} {σ : L2.St} {H : Hp} {Q : VK} (h : t σ H fun v H1 => ∃ i, v = .int i ∧ Q (.int i) H1) (m : ∀ R R' : VK, (∀ v H, R v H → R' v H) → t σ H R → t σ H R') : tInt t σ H Q := m _ _ (fun v H1 ⟨i, e, q⟩ => .inl ⟨i, by rw [e], q⟩) h
theorem box_run {K : Frg} {D : Ends} {H : Hp} {a : Addr} {ns : List Int} {N : List Str} (hN : N.length = 2) (hl : ns.length ≤ 63) (hs : SqL K H a (ns.map V.int))
    (h : ∀ (b c : Addr) (H' : Hp) (ms : List Int), Sub H H' → H b = none → H c = none → b ≠ c → ms.length ≤ 63 → H' b = some (.lst [.ref c, .int 0, .int 1]) → H' c = some (.lst (ms.map V.int)) → D.rt (.ref b) H') : tBox K D (L2.start N [.ref a]) H := by
  have s0 : L2.start N [.ref a] = [some (.ref a), none] := by
    unfold L2.start
    rw [hN] <;> rfl
  rw [s0]
  refine ⟨_, rfl, 63, rfl, a, _, rfl, hs, fun p hp => ⟨p, rfl, ⟨_, SqL.of upd_same⟩, fun c hc => ?_⟩⟩
  have hcl : ∃ ms : List Int, cutV (ns.map V.int) none (some 63) = ms.map V.int ∧ ms.length ≤ 63 := by
    refine ⟨(ns.drop (HT.sIx (ns.map V.int).length 0 none)).take (HT.sIx (ns.map V.int).length (ns.map V.int).length (some 63) - HT.sIx (ns.map V.int).length 0 none), ?_, ?_⟩
    · unfold cutV
      rw [List.map_take, List.map_drop]
    · rw [List.length_take, List.length_drop]; omega
  obtain ⟨ms, em, lm⟩ := hcl
  rw [em] at hc ⊢
  have np : c ≠ p := fun z => by rw [z, upd_same] at hc; cases hc
  have hc0 : H c = none := by rw [upd_ne np] at hc; exact hc
  refine lc_list (K := K) (a := p) (xs := ms.map V.int) (fun i H' => H' = upd (upd H p (.lst (ms.map V.int))) c (.lst ((ms.take i).map V.int))) (by rfl) (fun i H' _ e => ?_) (fun i x H' hx e => ?_) (fun H' e => ?_)
  · rw [e]; exact SqL.of (by rw [upd_ne np.symm]; exact upd_same)
  · rw [List.getElem?_map] at hx
    cases q : ms[i]? with
    | none => rw [q] at hx; cases hx
    | some z =>
      rw [q] at hx
      cases hx
      have hi : i < ms.length := (List.getElem?_eq_some_iff.mp q).1
      refine ⟨rfl, ?_⟩
      simp only [tYes, if_true]
      refine ⟨.int z, rfl, .inl ⟨z, rfl, (ms.take i).map V.int, ?_, ?_, ?_⟩⟩
      · rw [e]; exact upd_same
      · rw [List.length_map, List.length_take]
        exact Nat.lt_of_le_of_lt (Nat.min_le_left _ _) (Nat.lt_of_lt_of_le hi (Nat.le_trans lm (by decide)))
      · rw [e, upd_upd, List.take_add_one, q, List.map_append] <;> rfl
  · rw [List.length_map, List.take_length] at e
    refine ⟨by show 3 ≤ sizeLine; decide, fun b hb => ?_⟩
    rw [e] at hb ⊢
    have nc : b ≠ c := fun z => by rw [z, upd_same] at hb; cases hb
    have nb : b ≠ p := fun z => by rw [z, upd_ne np.symm, upd_same] at hb; cases hb
    have hb0 : H b = none := by rw [upd_ne nc, upd_ne nb] at hb; exact hb
    refine h b c _ ms (fun y o ey => ?_) hb0 hc0 nc lm upd_same ?_
    · rw [upd_ne (ne_of_none ey hb0), upd_ne (ne_of_none ey hc0), upd_ne (ne_of_none ey hp)]; exact ey
    · rw [upd_ne nc.symm, upd_same]
/-! ## the draw: slots box, size, cells, place, cell, state, power -/
def tPlc (K : Frg) : TT := tTest (tOp (rI0 fun i j => V.bl (decide (i < j))) (tVar 3) (tLen K (tVar 2)))
def tCel (K : Frg) : TE := tOp (rIx K) (tVar 2) (tVar 3)
def tDrawA (K : Frg) : TS := tSeq (tAsg (tCel K) (gName 4)) (tSeq (tAsg (tFdv (tVar 4) (tVar 1)) (gSub (tVar 2) (tVar 3) rSetL)) (tRet (tMod (tInt (tVar 4)) (tVar 1))))
def tDrawB (K : Frg) : TS := tSeq (tAsg (tAdd (tVar 3) (tC (.int 1))) (gSub (tVar 0) (tC (.int 1)) rSetL))
  (tSeq (tAsg (tMod (tInt (tAdd (tAdd (tAdd (tMul (tOp (rIx K) (tVar 0) (tC (.int 2))) (tC (.int 48271))) (tMul (tMod (tInt (tVar 4)) (tC (.int 2147483629))) (tC (.int 69621)))) (tVar 3)) (tC (.int 1)))) (tC (.int 2147483647))) (gName 5))
  (tSeq (tAsg (tVar 5) (gSub (tVar 0) (tC (.int 2)) rSetL))
  (tSeq (tAsg (tMod (tInt (tAdd (tMul (tVar 5) (tVar 5)) (tMul (tVar 5) (tC (.int 16807))))) (tC (.int 998244353))) (gName 6))
  (tRet (tMod (tInt (tFdv (tVar 6) (tC (.int 5)))) (tVar 1))))))
def tDraw (K : Frg) : TS := tSeq (tAsg (tOp (rIx K) (tVar 0) (tC (.int 0))) (gName 2)) (tSeq (tAsg (tOp (rIx K) (tVar 0) (tC (.int 1))) (gName 3)) (tSeq (tIfS (tTest (tOp rEq (tLen K (tVar 2)) (tC (.int 0)))) (tRet (tC (.int 0))) tNext)
  (tSeq (tIfS (tAnd (tPlc K) (tTest (tOp (rI0 fun i j => V.bl (decide (j ≤ i))) (tCel K) (tOp (rI CPow fun i j => .int (i ^ j.toNat)) (tC (.int 10)) (tC (.int 18)))))) (tDrawA K) tNext)
  (tSeq (tAsg (tC (.int 0)) (gName 4)) (tSeq (tIfS (tPlc K) (tAsg (tCel K) (gName 4)) tNext) (tDrawB K))))))
def cDraw : Ct := fun ps q _ => ∃ n : Int, ps = [.box, .int n] ∧ 0 < n ∧ n.natAbs < 2 ^ 9000 ∧ ∀ r : Int, 0 ≤ r → r < n → q (.int r)
structure Drawn (b c : Addr) (H H' : Hp) : Prop where
  box : BoxAt H' b c
  keep : ∀ a, a ≠ b → a ≠ c → H' a = H a
section
variable {K : Frg} {D : Ends} {b c : Addr} {n : Int} {H : Hp}
theorem drawB_run {p st z : Int} {ns : List Int} {H : Hp} (hn : 0 < n) (hn2 : n.natAbs < 2 ^ 9000) (hbc : b ≠ c) (e1 : H b = some (.lst [.ref c, .int p, .int st])) (e2 : H c = some (.lst (ns.map V.int))) (h0 : 0 ≤ p) (h1 : 0 ≤ st) (h2 : st < 2147483647) (h3 : ns.length ≤ 63)
    (h : ∀ r H', 0 ≤ r → r < n → Drawn b c H H' → D.rt (.int r) H') : tDrawB K D [some (.ref b), some (.int n), some (.ref c), some (.int p), some (.int z), none, none] H := by
  refine ⟨_, rfl, _, _, rfl, rfl, _, rfl, b, _, 1, 1, rfl, rfl, e1, rfl, ?_⟩
  have e1' : ∀ v, upd H b (.lst ([V.ref c, .int p, .int st].set 1 v)) b = some (.lst [V.ref c, v, .int st]) := fun v => upd_same
  have m1 := Int.emod_nonneg z (b := 2147483629) (by decide)
  have m2 := Int.emod_lt_of_pos z (b := 2147483629) (by decide)
  refine ⟨_, rfl, .inl ⟨b, _, 2, .int st, rfl, rfl, SqL.of (e1' _), rfl, _, _, rfl, rfl, .inl ⟨by omega, by omega⟩, ?_⟩⟩
  refine ⟨_, rfl, .inl ⟨_, rfl, _, _, rfl, rfl, (by show (0 : Int) < 2147483629; decide), _, _, rfl, rfl, .inl ⟨by omega, by omega⟩, _, _, rfl, rfl, _, rfl, _, _, rfl, rfl, _, _, rfl, rfl, .inl ⟨_, rfl, _, _, rfl, rfl, (by show (0 : Int) < 2147483647; decide), ?_⟩⟩⟩
  have s1 : 0 ≤ (st * 48271 + z % 2147483629 * 69621 + p + 1) % 2147483647 := Int.emod_nonneg _ (by decide)
  have s3 : (st * 48271 + z % 2147483629 * 69621 + p + 1) % 2147483647 < 2147483647 := Int.emod_lt_of_pos _ (by decide)
  refine ⟨_, rfl, _, rfl, b, _, 2, 2, rfl, rfl, e1' _, rfl, ?_⟩
  refine ⟨_, rfl, _, rfl, _, _, rfl, rfl, .inl ⟨by omega, by omega⟩, _, rfl, _, _, rfl, rfl, .inl ⟨by omega, by omega⟩, _, _, rfl, rfl, .inl ⟨_, rfl, _, _, rfl, rfl, (by show (0 : Int) < 998244353; decide), ?_⟩⟩
  refine ⟨_, rfl, _, _, rfl, rfl, wide_div (b := 8) (by decide) (by decide) (by decide) (by decide), .inl ⟨_, rfl, _, rfl, _, _, rfl, rfl, hn, ?_⟩⟩
  refine h _ _ (Int.emod_nonneg _ (by omega)) (Int.emod_lt_of_pos _ hn) ⟨⟨hbc, ns, p + 1, _, upd_same, ?_, by omega, s1, s3, h3⟩, fun a n1 n2 => ?_⟩
  · rw [upd_ne hbc.symm, upd_ne hbc.symm]; exact e2
  · rw [upd_ne n1, upd_ne n1]
theorem draw_run {N : List Str} (hN : N.length = 7) (hn : 0 < n) (hn2 : n.natAbs < 2 ^ 9000) (hb : BoxAt H b c) (h : ∀ r H', 0 ≤ r → r < n → Drawn b c H H' → D.rt (.int r) H') : tDraw K D (L2.start N [.ref b, .int n]) H := by
  have s0 : L2.start N [.ref b, .int n] = [some (.ref b), some (.int n), none, none, none, none, none] := by
    unfold L2.start
    rw [hN] <;> rfl
  rw [s0]
  have hb' := hb
  obtain ⟨hbc, ns, p, st, e1, e2, h0, h1, h2, h3⟩ := hb'
  refine ⟨_, rfl, .inl ⟨b, _, 0, .ref c, rfl, rfl, SqL.of e1, rfl, ?_⟩⟩
  refine ⟨_, rfl, .inl ⟨b, _, 1, .int p, rfl, rfl, SqL.of e1, rfl, ?_⟩⟩
  refine ⟨_, rfl, _, _, rfl, .inl ⟨_, SqL.of e2, rfl⟩, rfl, _, rfl, ?_⟩
  refine ite2 (fun z => h 0 H (Int.le_refl _) hn ⟨hb, fun _ _ _ => rfl⟩) fun z => ?_
  have rest : tSeq (tAsg (tC (.int 0)) (gName 4)) (tSeq (tIfS (tPlc K) (tAsg (tCel K) (gName 4)) tNext) (tDrawB K)) D [some (.ref b), some (.int n), some (.ref c), some (.int p), none, none, none] H := by
    refine ⟨_, rfl, _, rfl, _, _, rfl, .inl ⟨_, SqL.of e2, rfl⟩, _, _, rfl, rfl, _, rfl, ?_⟩
    refine ite2 (fun z => ?_) fun z => ?_
    · have z := of_decide_eq_true z
      rw [List.length_map] at z
      obtain ⟨j, rfl⟩ := Int.eq_ofNat_of_zero_le h0
      have hj : j < ns.length := by omega
      refine ⟨_, rfl, _, rfl, .inl ⟨c, _, _, _, rfl, rfl, SqL.of e2, atI_cell hj, ?_⟩⟩
      exact drawB_run hn hn2 hbc e1 e2 h0 h1 h2 h3 h
    · exact drawB_run hn hn2 hbc e1 e2 h0 h1 h2 h3 h
  refine ⟨_, rfl, _, rfl, _, _, rfl, .inl ⟨_, SqL.of e2, rfl⟩, _, _, rfl, rfl, _, rfl, ?_⟩
  refine ite2 (fun z => ?_) fun z => ?_
  · have z := of_decide_eq_true z
    rw [List.length_map] at z
    obtain ⟨j, rfl⟩ := Int.eq_ofNat_of_zero_le h0
    have hj : j < ns.length := by omega
    refine ⟨_, rfl, _, rfl, .inl ⟨c, _, _, _, rfl, rfl, SqL.of e2, atI_cell hj, _, _, rfl, rfl, ⟨by decide, by decide, by decide⟩, _, _, rfl, rfl, _, rfl, ?_⟩⟩
    refine ite2 (fun z2 => ?_) fun z2 => rest
    refine ⟨_, rfl, _, rfl, .inl ⟨c, _, _, _, rfl, rfl, SqL.of e2, atI_cell hj, ?_⟩⟩
    refine ⟨_, rfl, _, rfl, _, _, rfl, rfl, wide_div hn hn2 (by decide) (by decide), _, rfl, _, rfl, c, _, _, j, rfl, rfl, e2, ?_, ?_⟩
    · unfold ixN
      rw [if_pos (by omega), if_pos (by rw [List.length_map]; omega)] <;> rfl
    · refine ⟨_, rfl, .inl ⟨_, rfl, _, rfl, _, _, rfl, rfl, hn, ?_⟩⟩
      refine h _ _ (Int.emod_nonneg _ (by omega)) (Int.emod_lt_of_pos _ hn) ⟨⟨hbc, ns.set j (cellOf ns j / n), j, st, ?_, ?_, h0, h1, h2, ?_⟩, fun a n1 n2 => ?_⟩
      · rw [upd_ne hbc]; exact e1
      · rw [upd_same, List.map_set]
      · rw [List.length_set]; exact h3
      · rw [upd_ne n2]
  · exact rest
end
/-! ## the two defs, the law's own frame -/
def spBox (K : Frg) : Sp := fun vs H Q _ => ∃ (a : Addr) (ns : List Int), vs = [.ref a] ∧ ns.length ≤ 63 ∧ SqL K H a (ns.map V.int) ∧ ∀ (b c : Addr) (H' : Hp) (ms : List Int), Sub H H' → H b = none → H c = none → b ≠ c → ms.length ≤ 63 → H' b = some (.lst [.ref c, .int 0, .int 1]) → H' c = some (.lst (ms.map V.int)) → Q (.ref b) H'
theorem Drawn.ok {F : Fx} {G H H' : Hp} {b c : Addr} (o : Ok F G H) (hb : F.bx = some (b, c)) (d : Drawn b c H H') : Ok F G H' := by
  obtain ⟨bt, gb, gc, mb, mc⟩ := o.box b c hb
  have kp : ∀ a u, H a = some u → a ≠ b → a ≠ c → H' a = some u := fun a u e n1 n2 => by rw [d.keep a n1 n2]; exact e
  refine ⟨fun a u e n => kp a u (o.keep a u e n) (fun z => n (by rw [z]; exact mb)) (fun z => n (by rw [z]; exact mc)), fun a e => ?_, o.gx, fun a u e => ?_, o.new, fun b' c' e => ?_⟩
  · by_cases z1 : a = b
    · obtain ⟨u, e1⟩ := d.box.some1
      rw [z1, e1] at e; cases e
    · by_cases z2 : a = c
      · obtain ⟨u, e1⟩ := d.box.some2
        rw [z2, e1] at e; cases e
      · rw [d.keep a z1 z2] at e
        exact o.dom a e
  · exact kp a u (o.sub a u e) (fun z => by rw [z, gb] at e; cases e) (fun z => by rw [z, gc] at e; cases e)
  · rw [hb] at e
    cases e
    exact ⟨d.box, gb, gc, mb, mc⟩
section
variable {P : Program} {w : World} {K : Frg} {mg : Str → Option Value} {base : Heap} {x qual : Str} {params : Arguments} {body : List Stmt} {scope : Scope} {dvs : List V} {kws : List (Str × V)} {f : Addr} {fd : FuncData} {N ps : List Str} {k : Nat}
theorem fn_box (Fn : FunD K x qual params body scope dvs kws f fd) (S : FnScope N ps scope) (hN : N.length = 2) (hp : ps.length = 1)
    (der : ∀ (pn : List (Addr × Obj)) (cd : Value) (A : Around) (outer : List Env) (s : Shared) (H : Hp) (E : XK), PSs (cxG true pn P w K mg base N qual scope f cd A outer s H E) body (tBox K)) : FnO false P w K mg base (k + 1) f fd ps (spBox K) := by
  refine fn_o false Fn S (fun vs H Q E ⟨a, ns, e, _⟩ => by rw [e, hp] <;> rfl) fun cm pn cd A outer s H vs Q E hcm he hs => ?_
  obtain rfl := hcm rfl
  obtain ⟨a, ns, rfl, hl, hq, h⟩ := hs
  exact ⟨_, der pn cd A outer s H E, box_run hN hl hq h⟩
theorem fn_draw (Fn : FunD K x qual params body scope dvs kws f fd) (S : FnScope N ps scope) (hN : N.length = 7) (hp : ps.length = 2)
    (der : ∀ (pn : List (Addr × Obj)) (cd : Value) (A : Around) (outer : List Env) (s : Shared) (H : Hp) (E : XK), PSs (cxG true pn P w K mg base N qual scope f cd A outer s H E) body (tDraw K)) : FnO false P w K mg base (k + 1) f fd ps (spP K cDraw) := by
  refine fn_o false Fn S (fun vs H Q E ⟨F, G, as, q, z, _, _, _, _, r, ⟨n, e, _⟩, _⟩ => by rw [r.length, e, hp] <;> rfl) fun cm pn cd A outer s H vs Q E hcm he hs => ?_
  obtain rfl := hcm rfl
  obtain ⟨F, G, as, q, z, h1, h2, h3, o, r, ⟨n, rfl, n0, n1, hq0⟩, hq, hx⟩ := hs
  refine ⟨_, der pn cd A outer s H E, ?_⟩
  obtain ⟨v0, ws, rfl, r0, r⟩ := r.cons_inv
  obtain ⟨v1, ws, rfl, r1, r⟩ := r.cons_inv
  obtain rfl := r.nil_inv
  obtain ⟨b, hb, rfl⟩ := r0.box_inv
  obtain rfl := r1.int_inv
  obtain ⟨⟨b', c⟩, e1, e2⟩ := Option.map_eq_some_iff.mp hb
  cases e2
  refine draw_run hN n0 n1 (o.box _ _ e1).1 fun i H' i0 i1 d => ?_
  exact hq (.int i) _ G H' (hq0 i i0 i1) (d.ok o e1) (rep_int i)
/-- a call by a raw promise -/
def tRaw (W : WX) (sp : Sp) (t : TA) : TE := fun σ H Q => t σ H fun vs H1 => sp vs H1 Q fun cls d H' => W cls d σ H'
theorem pe_raw {X : Cx} {W : WX} {hot : Bool} {k : Nat} {f : Addr} {sp : Sp} {x : Str} {p0 pos : Pos} {e : Expr} {es : List Expr} {t : TA} (Fn : FnS hot X.prog X.w X.K X.mg X.base k f [] sp) (md : Md X hot) (hr : L2H.RoomH k X.A) (tk : L2N.Takes X W) (hm : X.mg x = some (.ref f)) (hk : PySem.W.keepIn X.K (.ref f) = true) (ha : PA X (e :: es) t) (hg : Gl X x := by rfl)
    (h1 : (x == ("__debug__" : Str)) = false := by decide) (h2 : starEach (e :: es) X.env = (false, eval e X.env) :: starEach es X.env := by rfl) (h3 : (backTo pos (starEach es X.env)).any (·.1) = false := by rfl) : PE X (.Call (.Name x p0) (e :: es) [] pos) (tRaw W sp t) := by
  refine ⟨fun pins s σ H Q J h => ?_⟩
  refine wpAny_Call_Name_kw (ld_glob J hg hm ?_ h1)
  refine PySem.W.callWith_K (h₀ := X.base) J.ok.mod.kin hk (thn (ha.run pos pins s σ H _ J h) fun us s1 ⟨vs, H1, J1, r, q1⟩ => ⟨J1.kIn, ?_⟩) h2 h3
  exact run_s (ws := []) Fn md hr tk J1 rfl (by rw [List.append_nil]; exact r) q1
def spLaw (K : Frg) : Sp := fun vs H Q _ => ∃ (a : Addr) (ns : List Int), vs = [.ref a] ∧ ns.length ≤ 63 ∧ SqL K H a (ns.map V.int) ∧ ∀ H', Q (.bl true) H'
def lawE (n : Nat) : En := none :: some (.val .box) :: List.replicate n none
def lawEnds : DEn := { nx := fun _ => False, rt := fun p => p = .bl true, xc := fun _ _ => False }
theorem fn_law {n : Nat} {st : Stmt} {rest : List Stmt} {d : DS} (Fn : FunD K x qual params body scope dvs kws f fd) (S : FnScope N ps scope) (hb : body = st :: rest) (hN : N.length = n + 2) (hp : ps.length = 1)
    (first : ∀ (pn : List (Addr × Obj)) (cd : Value) (A : Around) (outer : List Env) (s : Shared) (H : Hp) (E : XK), Here false (cxG true pn P w K mg base N qual scope f cd A outer s H E) (fun cls dd _ H' => E cls dd H') k →
      PS (cxG true pn P w K mg base N qual scope f cd A outer s H E) st (tAsg (tRaw (fun cls dd _ H' => E cls dd H') (spBox K) (tCons (tVar 0) tNil)) (gName 1)))
    (der : ∀ (pn : List (Addr × Obj)) (cd : Value) (A : Around) (outer : List Env) (s : Shared) (H : Hp) (E : XK), Here false (cxG true pn P w K mg base N qual scope f cd A outer s H E) (fun cls dd _ H' => E cls dd H') k →
      BJ (cxG true pn P w K mg base N qual scope f cd A outer s H E) (fun cls dd _ H' => E cls dd H') rest d)
    (pure_ : d lawEnds (lawE n)) : FnO false P w K mg base (k + 1) f fd ps (spLaw K) := by
  refine fn_o false Fn S (fun vs H Q E ⟨a, ns, e, _⟩ => by rw [e, hp] <;> rfl) fun cm pn cd A outer s H vs Q E hcm he hs => ?_
  obtain rfl := hcm rfl
  obtain ⟨a, ns, rfl, hl, hq, h⟩ := hs
  refine ⟨_, by rw [hb]; exact pss_cons (first pn cd A outer s H E he) (der pn cd A outer s H E he), ?_⟩
  have s0 : L2.start N [.ref a] = some (.ref a) :: none :: List.replicate n none := by
    unfold L2.start
    rw [hN] <;> rfl
  rw [s0]
  refine ⟨_, rfl, a, ns, rfl, hl, hq, fun b c H' ms sub hb hc nbc lm e1 e2 => ?_⟩
  refine ⟨⟨H, H, fun y => y = b ∨ y = c, some (b, c)⟩, lawE n, H, lawEnds, ⟨⟨fun y o e _ => sub y o e, fun y e => ?_, .refl _, sub, fun y o e => .inl e, fun b' c' e => ?_⟩, ?_, fun i t e => ?_, fun i j t u v v' y e3 e4 e5 e6 o1 o2 => ?_⟩, pure_, ⟨fun _ _ _ _ z => z.elim, fun p v G' H'' e _ r => ?_, fun _ _ _ _ z => z.elim, fun _ _ _ _ z => z.elim, fun _ _ _ _ _ _ z => z.elim⟩⟩
  · cases q : H y with
    | none => exact q
    | some o => rw [sub y o q] at e; cases e
  · cases e
    exact ⟨⟨nbc, ms, 0, 1, e1, e2, by decide, by decide, by decide, lm⟩, hb, hc, .inl rfl, .inr rfl⟩
  · show (List.set (some (V.ref a) :: none :: List.replicate n none) 1 (some (V.ref b))).length = (lawE n).length
    unfold lawE
    simp
  · unfold lawE at e
    match i, e with
    | 0, e => cases e
    | 1, e => cases e; exact ⟨.ref b, rfl, (by show Rep K (some b) H .box (.ref b); simp only [Rep]; exact ⟨b, rfl, rfl⟩)⟩
    | i + 2, e =>
      have e : (List.replicate n (none : Option Slot))[i]? = some (some t) := e
      rw [List.getElem?_replicate] at e
      split at e <;> cases e
  · unfold lawE at e3
    match i, e3 with
    | 0, e3 => cases e3
    | 1, e3 => cases e3; cases o1
    | i + 2, e3 =>
      have e3 : (List.replicate n (none : Option Slot))[i]? = some (some t) := e3
      rw [List.getElem?_replicate] at e3
      split at e3 <;> cases e3
  · have e : p = .bl true := e
    subst e
    obtain rfl := r.bl_inv
    exact h H''
end
/-! ## x = [e for ..]: the target is stored within the comprehension's frame -/
theorem s_setLC (i : Nat) {X : Cx} {W : WX} {y : Str} {py spos : Pos} {elt tg iter : Expr} {ifs : List Expr} {scope : Scope} {own : List (Str × Nat)} {pos : Pos} {di : DI} {dt : DT} {de : DE} {t : Tg} (hc : X.calm = true) (nd : X.N.Nodup) (hsw : swapsWith (.ListComp elt [⟨tg, iter, ifs, 0⟩] scope pos) (some (.Name y py)) spos.line X.env = pure true) (hi : IJ X W tg iter di) (ok : BlkOk X.N X.env.scope scope own)
    (hg : ∀ (s : Shared) (H : Hp) (C : Addr) (cl : List (Str × Addr)) (fp : List Addr), PG (X.blk s H scope (compEnvC scope cl C X.env) fp) tg (tgOf X.K t)) (ht : ∀ (s : Shared) (H : Hp) (C : Addr) (cl : List (Str × Addr)) (fp : List Addr), TsJ (X.blk s H scope (compEnvC scope cl C X.env) fp) Wno ifs dt)
    (he : ∀ (s : Shared) (H : Hp) (C : Addr) (cl : List (Str × Addr)) (fp : List Addr), EJ (X.blk s H scope (compEnvC scope cl C X.env) fp) Wno elt de) (hw : ∀ i ∈ t.idx, i ∈ own.map (·.2) := by decide) (hy : X.N[i]? = some y := by rfl) (hyl : X.env.scope.names.lookup y = some .local := by rfl) (hs : ∀ x, foldedSetIterable iter X.env x = pure x := by intro _; rfl) :
    SJ X W (.Assign [.Name y py] (.ListComp elt [⟨tg, iter, ifs, 0⟩] scope pos) spos) (dSetL i (lComp t (own.map (·.2)) di dt de)) := ps_imp (ps_setLc (i := i) hc nd hy hyl hsw hi ok hg ht he hs) fun D σ H ⟨F, ρ, G, P, R, h, eo⟩ =>
  tlc_of hw ⟨F, ρ, G, _, _, R, h, fun ps l vs G' H' hp g hl gl h2 rs => eo.nx _ _ G' H' hp ((R.go g).setL i h2 gl (R.ok.dom l hl) (fun z => by obtain ⟨u, e⟩ := R.ok.isB_some z; rw [hl] at e; cases e) rs fun j s v e e1 o => by
    obtain ⟨u, e3⟩ := R.own_some e e1 o
    rw [hl] at e3; cases e3), eo.gx R⟩
/-- .. and it is never changed -/
theorem s_setLN (i : Nat) {X : Cx} {W : WX} {y : Str} {py spos : Pos} {elt tg iter : Expr} {ifs : List Expr} {scope : Scope} {own : List (Str × Nat)} {pos : Pos} {di : DI} {dt : DT} {de : DE} {t : Tg} (hc : X.calm = true) (nd : X.N.Nodup) (hsw : swapsWith (.ListComp elt [⟨tg, iter, ifs, 0⟩] scope pos) (some (.Name y py)) spos.line X.env = pure true) (hi : IJ X W tg iter di) (ok : BlkOk X.N X.env.scope scope own)
    (hg : ∀ (s : Shared) (H : Hp) (C : Addr) (cl : List (Str × Addr)) (fp : List Addr), PG (X.blk s H scope (compEnvC scope cl C X.env) fp) tg (tgOf X.K t)) (ht : ∀ (s : Shared) (H : Hp) (C : Addr) (cl : List (Str × Addr)) (fp : List Addr), TsJ (X.blk s H scope (compEnvC scope cl C X.env) fp) Wno ifs dt)
    (he : ∀ (s : Shared) (H : Hp) (C : Addr) (cl : List (Str × Addr)) (fp : List Addr), EJ (X.blk s H scope (compEnvC scope cl C X.env) fp) Wno elt de) (hw : ∀ i ∈ t.idx, i ∈ own.map (·.2) := by decide) (hy : X.N[i]? = some y := by rfl) (hyl : X.env.scope.names.lookup y = some .local := by rfl) (hs : ∀ x, foldedSetIterable iter X.env x = pure x := by intro _; rfl) :
    SJ X W (.Assign [.Name y py] (.ListComp elt [⟨tg, iter, ifs, 0⟩] scope pos) spos) (dSet i (dLst (lComp t (own.map (·.2)) di dt de))) := ps_imp (ps_setLc (i := i) hc nd hy hyl hsw hi ok hg ht he hs) fun D σ H ⟨F, ρ, G, P, R, h, eo⟩ =>
  tlc_of hw ⟨F, ρ, G, _, _, R, h, fun ps l vs G' H' hp g hl gl h2 rs => eo.nx _ _ _ _ hp ((R.go (g.take R.ok hl h2 gl)).set i (rep_lst (.inl (.inl upd_same)) (rs.mono (.upd gl)))), eo.gx R⟩
end Pw
/-! # plain laws: no program in sight -/
namespace Pw
open PySem PySem.Spec PyProof.Rows L2
/-- a comprehension over one name, its test f, its element g -/
theorem lcD_one {i : Nat} {own : List Nat} {dt : DT} {de : DE} {ρ : En} {q : List PV → Prop} (f : PV → Bool) (g : PV → PV) : ∀ (xs acc : List PV), (∀ x ∈ xs, ∀ k : Bool → Prop, k (f x) → dt ((wipeE ρ own).set i (some (.val x))) k noX) → (∀ x ∈ xs, f x = true → ∀ k : PV → Prop, k (g x) → de ((wipeE ρ own).set i (some (.val x))) k noX) →
    q (acc ++ (xs.filter f).map g) → lcD (.one i) own dt de ρ q xs acc
  | [], acc, _, _, h => by simpa [lcD] using h
  | x :: xs, acc, h1, h2, h => by
    show dt ((wipeE ρ own).set i (some (.val x))) _ noX
    refine h1 x List.mem_cons_self _ ?_
    cases e : f x with
    | true =>
      rw [if_pos rfl]
      refine h2 x List.mem_cons_self e _ (lcD_one f g xs _ (fun y hy => h1 y (List.mem_cons_of_mem _ hy)) (fun y hy => h2 y (List.mem_cons_of_mem _ hy)) ?_)
      rw [List.filter_cons_of_pos e] at h
      simpa using h
    | false =>
      rw [if_neg (by simp)]
      refine lcD_one f g xs _ (fun y hy => h1 y (List.mem_cons_of_mem _ hy)) (fun y hy => h2 y (List.mem_cons_of_mem _ hy)) ?_
      rw [List.filter_cons_of_neg (by simp [e])] at h
      exact h
/-- without a test -/
theorem lcD_map {i : Nat} {own : List Nat} {de : DE} {ρ : En} {q : List PV → Prop} (g : PV → PV) (xs acc : List PV) (h2 : ∀ x ∈ xs, ∀ k : PV → Prop, k (g x) → de ((wipeE ρ own).set i (some (.val x))) k noX)
    (h : q (acc ++ xs.map g)) : lcD (.one i) own dYes de ρ q xs acc := by
  refine lcD_one (fun _ => true) g xs acc (fun x _ k hk => hk) (fun x hx _ => h2 x hx) ?_
  rwa [List.filter_eq_self.mpr (fun _ _ => rfl)]
theorem iteS {c A B : Prop} [Decidable c] (hc : c) (h : A) : if decide c = true then A else B := by rw [if_pos (decide_eq_true hc)]; exact h
/-! ## lights -/
def bandsI (n : Int) : List Int := ([0, 1, 2, 3, 4, 5] : List Int).filter fun k => decide ((n / 2 ^ k.toNat) % 2 = 1)
/-- the light of a number -/
def lt (n : Int) : PV := .obj .Light [.int n, .tup ((bandsI n).map .int)]
def badB (b : Int) : Bool := !(decide (0 ≤ b) && decide (b < 6))
def orB (a b : Int) : Int := Builtin.bitOr a (1 * 2 ^ b.toNat)
def numOf (ns : List Int) : Int := ns.foldl orB 0
def rng6 : List PV := [.int 0, .int 1, .int 2, .int 3, .int 4, .int 5]
theorem rng6_eq : rangeP 0 (6 : Int).toNat = rng6 := rfl
theorem rng6_map (f : Int → Bool) (g : PV → Bool) (h : ∀ i : Int, g (.int i) = f i) : (rng6.filter g).map id = (([0, 1, 2, 3, 4, 5] : List Int).filter f).map PV.int := by
  have e : rng6 = ([0, 1, 2, 3, 4, 5] : List Int).map PV.int := rfl
  rw [e, List.filter_map, List.map_id]
  have e2 : (g ∘ PV.int) = f := funext h
  rw [e2]
theorem all64 {p : Int → Bool} (h : ((List.range 64).all fun k => p (k : Int)) = true) {n : Int} (h0 : 0 ≤ n) (h1 : n < 64) : p n = true := by
  obtain ⟨k, rfl⟩ := Int.eq_ofNat_of_zero_le h0
  exact List.all_eq_true.mp h k (List.mem_range.mpr (by omega))
theorem all2 {p : Int → Int → Prop} [∀ m n, Decidable (p m n)] (h : ((List.range 64).all fun j => (List.range 64).all fun k => decide (p (j : Int) (k : Int))) = true) {m n : Int} (hm : 0 ≤ m ∧ m < 64) (hn : 0 ≤ n ∧ n < 64) : p m n := by
  obtain ⟨j, rfl⟩ := Int.eq_ofNat_of_zero_le hm.1
  obtain ⟨k, rfl⟩ := Int.eq_ofNat_of_zero_le hn.1
  exact of_decide_eq_true (List.all_eq_true.mp (List.all_eq_true.mp h j (List.mem_range.mpr (by omega))) k (List.mem_range.mpr (by omega)))
theorem numOf_bands {n : Int} (h0 : 0 ≤ n) (h1 : n < 64) : numOf (bandsI n) = n := of_decide_eq_true (all64 (p := fun n => decide (numOf (bandsI n) = n)) (by decide +kernel) h0 h1)
theorem bit_and {n k : Int} (h0 : 0 ≤ n) (h1 : n < 64) (hk : k ∈ ([0, 1, 2, 3, 4, 5] : List Int)) : decide (Builtin.bitAnd (n / 2 ^ k.toNat) 1 = 1) = decide ((n / 2 ^ k.toNat) % 2 = 1) := by
  have := all64 (p := fun n => ([0, 1, 2, 3, 4, 5] : List Int).all fun k => decide (Builtin.bitAnd (n / 2 ^ k.toNat) 1 = 1) == decide ((n / 2 ^ k.toNat) % 2 = 1)) (by decide +kernel) h0 h1
  exact beq_iff_eq.mp (List.all_eq_true.mp this k hk)
theorem bands_good (n : Int) : ∀ b ∈ bandsI n, badB b = false := fun b hb => by
  have hb := (List.mem_filter.mp hb).1
  have : ([0, 1, 2, 3, 4, 5] : List Int).all (fun b => !badB b) = true := by decide
  have := List.all_eq_true.mp this b hb
  simpa using this
theorem find_none {f : Int → Bool} {l : List Int} (h : ∀ b ∈ l, f b = false) : l.find? f = none := List.find?_eq_none.mpr fun b hb => by rw [h b hb]; simp
theorem orB_step : ((List.range 64).all fun n => (List.range 6).all fun b => decide (0 ≤ orB (n : Int) (b : Int)) && decide (orB (n : Int) (b : Int) < 64)) = true := by decide +kernel
theorem orB_lt {n b : Int} (h0 : 0 ≤ n) (h1 : n < 64) (hb : badB b = false) : 0 ≤ orB n b ∧ orB n b < 64 := by
  unfold badB at hb
  simp at hb
  obtain ⟨k, rfl⟩ := Int.eq_ofNat_of_zero_le h0
  obtain ⟨j, rfl⟩ := Int.eq_ofNat_of_zero_le hb.1
  have := List.all_eq_true.mp (List.all_eq_true.mp orB_step k (List.mem_range.mpr (by omega))) j (List.mem_range.mpr (by omega))
  simpa using this
theorem numOf_lt : ∀ (ns : List Int) (a : Int), 0 ≤ a → a < 64 → (∀ b ∈ ns, badB b = false) → 0 ≤ ns.foldl orB a ∧ ns.foldl orB a < 64
  | [], a, h0, h1, _ => ⟨h0, h1⟩
  | b :: ns, a, h0, h1, h => by
    have := orB_lt h0 h1 (h b List.mem_cons_self)
    exact numOf_lt ns (orB a b) this.1 this.2 fun x hx => h x (List.mem_cons_of_mem _ hx)
/-! ## texts of lights -/
def toS (i : Int) : Str := toString i
def okJ (sep : Str) (n : Int) : Bool := decide ((((bandsI n).map toS).map (·.length)).sum + ((bandsI n).map toS).length * sep.length ≤ 100)
theorem okJ_dot {n : Int} (h : 0 ≤ n ∧ n < 64) : okJ "." n = true := all64 (p := okJ ".") (by decide +kernel) h.1 h.2
theorem okJ_com {n : Int} (h : 0 ≤ n ∧ n < 64) : okJ ", " n = true := all64 (p := okJ ", ") (by decide +kernel) h.1 h.2
theorem okJ_le {sep : Str} {n : Int} (h : okJ sep n = true) : (((bandsI n).map toS).map (·.length)).sum + ((bandsI n).map toS).length * sep.length ≤ 16777216 := Nat.le_trans (of_decide_eq_true h) (by decide)
def joinB (sep : Str) (n : Int) : Str := Txt.join sep ((bandsI n).map toS)
def wordT (n : Int) : Str := if n = 0 then "-" else joinB "." n
def okR (n : Int) : Bool := decide ((joinB ", " n).length ≤ 100)
theorem okR_all {n : Int} (h : 0 ≤ n ∧ n < 64) : (joinB ", " n).length ≤ 100 := of_decide_eq_true (all64 (p := okR) (by decide +kernel) h.1 h.2)
def strG : PV → PV
  | .int i => .str (toS i)
  | p => p
theorem strG_map (ns : List Int) : (ns.map PV.int).map strG = (ns.map toS).map PV.str := by rw [List.map_map, List.map_map] <;> rfl
theorem bands_log {n : Int} {x : PV} (hx : x ∈ (bandsI n).map PV.int) : ∃ i : Int, x = .int i ∧ i.natAbs.log2 < 1920 := by
  obtain ⟨i, hi, rfl⟩ := List.mem_map.mp hx
  have hi := (List.mem_filter.mp hi).1
  have : ([0, 1, 2, 3, 4, 5] : List Int).all (fun b => decide (b.natAbs.log2 < 1920)) = true := by decide +kernel
  exact ⟨i, rfl, of_decide_eq_true (List.all_eq_true.mp this i hi)⟩
theorem bands_len (n : Int) : ((bandsI n).map PV.int).length ≤ 6 := by rw [List.length_map]; exact List.length_filter_le _ _
theorem bitAnd_comm {m n : Int} (hm : 0 ≤ m ∧ m < 64) (hn : 0 ≤ n ∧ n < 64) : Builtin.bitAnd m n = Builtin.bitAnd n m := all2 (p := fun m n => Builtin.bitAnd m n = Builtin.bitAnd n m) (by decide +kernel) hm hn
end Pw
/-! # signs that the text's own classes answer: a + b, ~a, a == b, a in b, len(a), a tested -/
namespace Pw
open PySem PySem.Spec PyProof.Rows L2
theorem relv_ni {v : V} (h : RelV v .notImplemented) : False := by
  cases v <;> first | (obtain ⟨_, h⟩ := h; cases h) | cases h
theorem back_of {X : Cx} {pins : List (Addr × Obj)} {σ : L2.St} {Q : VK} {u : Value} {s' : Shared} (h : EP X pins σ Q u s') : PySem.W.CmpBack (EP X pins σ Q) u s' := by
  cases u
  case notImplemented =>
    obtain ⟨v, H', J, r, _⟩ := h
    exact relv_ni r
  all_goals exact h
def dOwn (tab : Cl → Option Ct) (da db : DE) : DE := fun ρ q x => da ρ (fun p => db ρ (fun r => ∃ c fs gs ct, p = .obj c fs ∧ r = .obj c gs ∧ tab c = some ct ∧ ct [p, r] q x) x) x
def dOwnU (tab : Cl → Option Ct) (da : DE) : DE := fun ρ q x => da ρ (fun p => ∃ c fs ct, p = .obj c fs ∧ tab c = some ct ∧ ct [p] q x) x
/-- what may stand at the right of an own == -/
def rightOk (hs : List Cl) (c : Cl) : PV → Bool
  | .obj d _ => decide (d ∈ hs) && (decide (d = c) || !subCl d c)
  | .int _ => true
  | .bl _ => true
  | .str _ => true
  | .tup _ => true
  | .lst _ => true
  | .non => true
  | _ => false
def dOwnEq (hs : List Cl) (tab : Cl → Option Ct) (da db : DE) : DE := fun ρ q x => da ρ (fun p => db ρ (fun r => ∃ c fs ct, p = .obj c fs ∧ rightOk hs c r = true ∧ tab c = some ct ∧ ct [p, r] q x) x) x
section
variable {X : Cx} {W : WX} {hot : Bool} {k : Nat} {m : Str} {pos : Pos} {a b : Expr} {da db : DE} {tab : Cl → Option Ct}
theorem inst_at {pins : List (Addr × Obj)} {σ : L2.St} {H : Hp} {s : Shared} {p C dx : Addr} {fs : List (Str × V)} (J : Inv X pins σ H s) (e : H p = some (.ins C dx fs)) : ∃ od, PySem.W.InstAt s.heap p (PySem.W.instObj C dx) C (some od) := by
  obtain ⟨mA, O, _⟩ := ins_get J.hok e
  obtain ⟨od, I, _⟩ := O.look
  exact ⟨od, I⟩
theorem e_own {op : Operator} (T : MTab hot X k m tab) (sf : ∀ c ct, tab c = some ct → PySem.W.selfFirst X.K (ca X.K c) = true) (md : Md X hot) (hr : L2H.RoomH k X.A) (tk : L2N.Takes X W) (ha : EJ X W a da) (hb : EJ X W b db) (hop : PySem.dunder op.info.2 = m := by rfl) : EJ X W (.BinOp a op b pos) (dOwn tab da db) := by
  refine ⟨fun pins s σ H Q J ⟨F, ρ, G, q, z, R, h, gv, gx⟩ => ?_⟩
  refine wpAny_BinOp (thn (ha.run pins s σ H (fun v H1 => ∃ G1 p, Go F G H G1 H1 ∧ Rep X.K F.b G1 p v ∧ db ρ (fun r => ∃ c fs gs ct, p = .obj c fs ∧ r = .obj c gs ∧ tab c = some ct ∧ ct [p, r] q z) z) J
    ⟨F, ρ, G, _, z, R, h, fun p v G1 H1 h1 g1 r1 => ⟨G1, p, g1, r1, h1⟩, gx⟩) fun u s1 ⟨v, H1, J1, rv, G1, p, g1, r1, h1⟩ => ?_)
  refine thn (hb.run pins s1 σ H1 (fun w H2 => ∃ G2 r, Go F G H G2 H2 ∧ Rep X.K F.b G2 p v ∧ Rep X.K F.b G2 r w ∧ ∃ c fs gs ct, p = .obj c fs ∧ r = .obj c gs ∧ tab c = some ct ∧ ct [p, r] q z) J1
    ⟨F, ρ, G1, _, z, R.go g1, h1, fun r w G2 H2 h2 g2 r2 => ⟨G2, r, g1.trans g2, r1.mono g2.gx, r2, h2⟩, gx.go g1⟩) fun u2 s2 ⟨w, H2, J2, rw2, G2, r, g2, rp, rr, c, fs, gs, ct, ep, er, et, hc⟩ => ?_
  subst ep er
  obtain ⟨x, dx, vs, rfl, ex, _⟩ := rp.obj_inv
  obtain ⟨y, dy, ws, rfl, ey, _⟩ := rr.obj_inv
  obtain rfl : u = Value.ref x := rv
  obtain rfl : u2 = Value.ref y := rw2
  obtain ⟨_, f, _, me, Fn⟩ := T c ct et
  obtain ⟨od, I1⟩ := inst_at J2 (g2.ok.sub _ _ ex)
  obtain ⟨od2, I2⟩ := inst_at J2 (g2.ok.sub _ _ ey)
  obtain ⟨mm, fr⟩ := J2.fr
  refine PySem.W.binop_K fr J2.ok.mod.kin I1 I2.type (sf c ct et) (by rw [hop]; exact me.at_) me.fn (wpAny_mono (run_s (us := [.ref x, .ref y]) (ws := []) (vs := [.ref x, .ref y]) (Q := Q) Fn md hr tk J2 rfl (by rw [List.append_nil]; exact .cons rfl (.cons rfl .nil)) (spP_of (R.go g2) (.cons rp (.cons rr .nil)) hc (gv.go g2) (gx.go g2))) (fun _ _ z => back_of z) fun _ _ z => z)
theorem e_ownInv (T : MTab hot X k "__invert__" tab) (md : Md X hot) (hr : L2H.RoomH k X.A) (tk : L2N.Takes X W) (ha : EJ X W a da) : EJ X W (.UnaryOp .Invert a pos) (dOwnU tab da) := by
  refine ⟨fun pins s σ H Q J ⟨F, ρ, G, q, z, R, h, gv, gx⟩ => ?_⟩
  refine UnaryOp_ (thn (ha.run pins s σ H (fun v H1 => ∃ G1 p, Go F G H G1 H1 ∧ Rep X.K F.b G1 p v ∧ ∃ c fs ct, p = .obj c fs ∧ tab c = some ct ∧ ct [p] q z) J
    ⟨F, ρ, G, _, z, R, h, fun p v G1 H1 h1 g1 r1 => ⟨G1, p, g1, r1, h1⟩, gx⟩) fun u s1 ⟨v, H1, J1, rv, G1, p, g1, rp, c, fs, ct, ep, et, hc⟩ => ?_)
  subst ep
  obtain ⟨x, dx, vs, rfl, ex, _⟩ := rp.obj_inv
  obtain rfl : u = Value.ref x := rv
  obtain ⟨_, f, _, me, Fn⟩ := T c ct et
  obtain ⟨od, I1⟩ := inst_at J1 (g1.ok.sub _ _ ex)
  obtain ⟨mm, fr⟩ := J1.fr
  exact PySem.W.ksp_inv fr J1.ok.mod.kin I1 me.at_ me.fn (run_s (us := [.ref x]) (ws := []) (vs := [.ref x]) (Q := Q) Fn md hr tk J1 rfl (by rw [List.append_nil]; exact .cons rfl .nil) (spP_of (R.go g1) (.cons rp .nil) hc (gv.go g1) (gx.go g1)))
end
end Pw
/-! # own ==, in, len, bool, str, repr: defs that raise nothing -/
namespace Pw
open PySem PySem.Spec PyProof.Rows L2
section
open PySem.Calls PySem.W
theorem bool_own {prog : Program} {w : World} {A : Around} {E : Value → Shared → Prop} {s : Shared} {K : Frag} {x C f : Addr} {ox : Obj} {od : Option Obj} {Q : Value → Shared → Prop} {h₀ : Heap} {L : Addr} {m : Str → Option Value} (FF : Fr h₀ L s.heap m) (X₀ : K.In h₀) (I : InstAt s.heap x ox C od) (hs : findIn K (.ref C) "__bool__" = some (some (.ref f))) (hf : isFn K (.ref f) = true)
    (h : wpAny (model prog w) A.in1.in1 (call (.ref f) [.ref x]) (PySem.W.BoolBack fun b s' => Q (.bool b) s') E s) : wpAny (model prog w) A (call (.type "bool") [.ref x]) Q E s := by
  refine callType_codes (T := "bool") (Bi := Builtin.«object.__init__») (Q₁ := fun r s₁ => ∃ y, r = .bool y ∧ Q r s₁) PySem.F.called_bool (PySem.F.typeCall_bool_1 _) PySem.F.entry_object_init ?_ ?_
  · refine codeAny_of_tree ?_
    show wpAny _ A.in1.in1 (do checkBuiltinCall "bool.__new__" ⟨[.type "bool", .ref x], []⟩; again (.builtin "bool.__new__" ⟨[.type "bool", .ref x], []⟩)) _ _ s
    refine wpAny_bind (wpAny_of_eq (PySem.F.newCall_bool_1 _) (wpAny_pure ⟨plainId_quiet (by decide +kernel) _, codeAny_builtin PySem.F.entry_bool_new ?_⟩))
    rw [Around.under_plainId (by decide +kernel) _]
    obtain ⟨hp, g, d, tk, os⟩ := s
    have f1 := PySem.F.conv_sub_bool
    repeat (any_goals (first | assumption | (with_reducible refine PySem.W.truthy_K FF X₀ I hs hf (wpAny_mono h (fun u s' hu => ?_) fun _ _ z => z)) | wp_step))
    cases u <;> first | exact hu.elim | skip
    rename_i b
    show wpAny _ _ (ret (Value.bool b)) _ _ _
    exact wpAny_pure ⟨b, rfl, hu⟩
  · rintro obj s₁ ⟨y, rfl, hq⟩
    exact ⟨PySem.typeIs_bool _ _, PySem.F.args_object_init_2 _ _, object_init_meets PySem.F.called_bool.init.lookup PySem.F.called_bool.made (by decide) prog w A.in1 _ s₁ ⟨PySem.typeIs_bool _ _, rfl, hq⟩⟩
end
section
variable {X : Cx} {hot : Bool} {k : Nat}
/-- a def called from within a builtin -/
theorem run_in {A' : Around} {pins : List (Addr × Obj)} {σ : L2.St} {H : Hp} {s : Shared} {Q : VK} {f : Addr} {sp : Sp} {us : List Value} {vs : List V} (Fn : FnS hot X.prog X.w X.K X.mg X.base k f [] sp) (hc : X.calm = true) (hf : A'.frames = X.A.frames) (hh : A'.handled = X.A.handled) (hr : L2H.RoomH k A') (J : Inv X pins σ H s)
    (r : Vals vs us) (h : sp vs H Q (fun _ _ _ => False)) : wpAny (model X.prog X.w) A' (call (.ref f) us) (EP X pins σ Q) X.xe s := by
  have e := J.env0
  have e0 : Env0 X.prog X.w X.K X.mg X.base A' X.stack s H := ⟨by rw [hf]; exact e.frames, e.mod, e.bs, e.bsz, e.funs, e.frf, e.hok, e.bare⟩
  refine wpAny_call (codeAny_mono (Fn A' X.stack s H us [] vs Q _ (.inl (by rw [hh]; exact J.ok.hd hc)) hr e0 rfl (by rw [List.append_nil]; exact r) h) fun rr s' hq => ?_)
  cases rr with
  | error er => exact takes_no er s' (L2N.XE.of_call J (fun _ _ _ z => z) hq)
  | ok fl =>
    cases fl with
    | ret u => exact J.after hq
    | next => exact False.elim hq
    | brk => exact False.elim hq
    | cont => exact False.elim hq
theorem room_in {k n : Nat} {A : Around} (h : L2H.RoomH (k + 1) A) (hn : n ≤ 16) : L2H.RoomH k { A with units := A.units + n } := ⟨by have := h.dp; show A.depth + 3 * k + 5 < _; omega, by have := h.un; show A.units + n + 16 * k + 200 < _; omega⟩
/-- what a builtin does with an own object: the def's promise, its value in ok -/
def rOwn1 (K : Frg) (tab : Cl → Option Ct) (ok : V → Prop) : List V → Hp → VK → Prop := fun vs H Q => ∃ c ct x dx ws, tab c = some ct ∧ vs = [.ref x] ∧ H x = some (.ins (ca K c) dx ws) ∧ spP K ct vs H (fun v H' => ok v ∧ Q v H') (fun _ _ _ => False)
def fOwn1 (tab : Cl → Option Ct) (ok : PV → Prop) : List PV → (PV → Prop) → Prop := fun ps q => ∃ c fs ct, ps = [.obj c fs] ∧ tab c = some ct ∧ ct ps (fun v => ok v ∧ q v) (fun _ => False)
theorem spP_ok {K : Frg} {ct : Ct} {F : Fx} {G H : Hp} {ps : List PV} {vs : List V} {q : PV → Prop} {Q : VK} (o : Ok F G H) (r : Reps K F.b G ps vs) (h : ct ps q (fun _ => False)) (gv : GoodV K F G H q Q) : spP K ct vs H Q (fun _ _ _ => False) :=
  ⟨F.call G H, G, ps, q, fun _ => False, rfl, rfl, rfl, o.enter, r, h, fun p v G' H' hp o' rr => gv p v G' H' hp (o.leave o') rr, fun _ _ _ _ z => z.elim⟩
theorem pcl_own {K : Frg} {tab : Cl → Option Ct} {ok : PV → Prop} {okv : V → Prop} (h1 : ∀ (bx : Option Addr) (G : Hp) p v, ok p → Rep K bx G p v → okv v) : PCl K (rOwn1 K tab okv) (fOwn1 tab ok) := fun F G H ps vs q Q o rs ⟨c, fs, ct, e, et, hc⟩ gv => by
  subst e
  obtain ⟨v, ws, rfl, r1, rn⟩ := rs.cons_inv
  obtain rfl := rn.nil_inv
  obtain ⟨x, dx, ys, rfl, ex, _⟩ := r1.obj_inv
  exact ⟨c, ct, x, dx, _, et, rfl, o.sub _ _ ex, spP_ok o rs hc fun p v G' H' hp g rr => ⟨h1 _ _ p v hp.1 rr, gv p v G' H' hp.2 g rr⟩⟩
def okLen (p : PV) : Prop := ∃ n : Int, p = .int n ∧ 0 ≤ n ∧ n < 2 ^ 63
def okStr (p : PV) : Prop := ∃ z : Str, p = .str z
def okBl (p : PV) : Prop := ∃ b : Bool, p = .bl b
theorem ow_len {K : Frg} (bx : Option Addr) (G : Hp) (p : PV) (v : V) (h : okLen p) (r : Rep K bx G p v) : ∃ n : Int, v = .int n ∧ 0 ≤ n ∧ n < 2 ^ 63 := by
  obtain ⟨n, rfl, h⟩ := h
  exact ⟨n, r.int_inv, h⟩
theorem ow_str {K : Frg} (bx : Option Addr) (G : Hp) (p : PV) (v : V) (h : okStr p) (r : Rep K bx G p v) : ∃ z : Str, v = .str z := by
  obtain ⟨n, rfl⟩ := h
  exact ⟨n, r.str_inv⟩
theorem ow_bl {K : Frg} (bx : Option Addr) (G : Hp) (p : PV) (v : V) (h : okBl p) (r : Rep K bx G p v) : ∃ z : Bool, v = .bl z := by
  obtain ⟨n, rfl⟩ := h
  exact ⟨n, r.bl_inv⟩
variable {tab : Cl → Option Ct}
theorem cr_len (T : MTab hot X k "__len__" tab) (hc : X.calm = true) (hr : L2H.RoomH (k + 1) X.A) : CallR X (.builtin "len") (rOwn1 X.K tab fun v => ∃ n : Int, v = .int n ∧ 0 ≤ n ∧ n < 2 ^ 63) := by
  intro pins s σ H xs us Q J r h
  obtain ⟨c, ct, x, dx, ws, et, rfl, ex, hs⟩ := h
  obtain ⟨_, f, _, me, Fn⟩ := T c ct et
  cases r with
  | cons r0 rn =>
    cases rn
    cases r0
    obtain ⟨od, I⟩ := inst_at J ex
    obtain ⟨mm, fr⟩ := J.fr
    refine PySem.W.len_K fr J.ok.mod.kin I me.at_ me.fn (wpAny_mono (run_in (A' := X.A.in1) (vs := [.ref x]) Fn hc rfl rfl (room_in hr (n := 1) (by decide)) J (.cons rfl .nil) hs) (fun u s' hu => ?_) fun _ _ z => z)
    obtain ⟨v, H', J', rv, ⟨n, rfl, n0, n1⟩, hQ⟩ := hu
    obtain ⟨t, rfl⟩ := rv
    exact ⟨⟨n0, n1⟩, .int n, H', J'.tok _, ⟨_, rfl⟩, hQ⟩
theorem cr_repr (T : MTab hot X k "__repr__" tab) (hc : X.calm = true) (hr : L2H.RoomH (k + 1) X.A) : CallR X (.builtin "repr") (rOwn1 X.K tab fun v => ∃ z : Str, v = .str z) := by
  intro pins s σ H xs us Q J r h
  obtain ⟨c, ct, x, dx, ws, et, rfl, ex, hs⟩ := h
  obtain ⟨_, f, _, me, Fn⟩ := T c ct et
  cases r with
  | cons r0 rn =>
    cases rn
    cases r0
    obtain ⟨od, I⟩ := inst_at J ex
    obtain ⟨mm, fr⟩ := J.fr
    refine PySem.W.repr_K (by have := hr.un; show X.A.units + 1 < _; omega) fr J.ok.mod.kin I me.at_ me.fn (wpAny_mono (run_in (A' := X.A.in1) (vs := [.ref x]) Fn hc rfl rfl (room_in hr (n := 1) (by decide)) J (.cons rfl .nil) hs) (fun u s' hu => ?_) fun _ _ z => z)
    obtain ⟨v, H', J', rv, ⟨z, rfl⟩, hQ⟩ := hu
    obtain ⟨t, rfl⟩ := rv
    exact ⟨.str z, H', J', ⟨_, rfl⟩, hQ⟩
theorem cr_str (T : MTab hot X k "__str__" tab) (hc : X.calm = true) (hr : L2H.RoomH (k + 1) X.A) : CallR X (.type "str") (rOwn1 X.K tab fun v => ∃ z : Str, v = .str z) := by
  intro pins s σ H xs us Q J r h
  obtain ⟨c, ct, x, dx, ws, et, rfl, ex, hs⟩ := h
  obtain ⟨_, f, _, me, Fn⟩ := T c ct et
  cases r with
  | cons r0 rn =>
    cases rn
    cases r0
    obtain ⟨od, I⟩ := inst_at J ex
    refine PySem.W.kso_call (by have := hr.un; show X.A.units + 1 + 1 < _; omega) J.kIn I me.at_ me.fn (wpAny_mono (run_in (A' := X.A.in1.in1) (vs := [.ref x]) Fn hc rfl rfl (room_in hr (n := 2) (by decide)) J (.cons rfl .nil) hs) (fun u s' hu => ?_) fun _ _ z => z)
    obtain ⟨v, H', J', rv, ⟨z, rfl⟩, hQ⟩ := hu
    obtain ⟨t, rfl⟩ := rv
    exact ⟨.str z, H', J', ⟨_, rfl⟩, hQ⟩
theorem cr_bool (T : MTab hot X k "__bool__" tab) (hc : X.calm = true) (hr : L2H.RoomH (k + 1) X.A) : CallR X (.type "bool") (rOwn1 X.K tab fun v => ∃ z : Bool, v = .bl z) := by
  intro pins s σ H xs us Q J r h
  obtain ⟨c, ct, x, dx, ws, et, rfl, ex, hs⟩ := h
  obtain ⟨_, f, _, me, Fn⟩ := T c ct et
  cases r with
  | cons r0 rn =>
    cases rn
    cases r0
    obtain ⟨od, I⟩ := inst_at J ex
    obtain ⟨mm, fr⟩ := J.fr
    refine bool_own fr J.ok.mod.kin I me.at_ me.fn (wpAny_mono (run_in (A' := X.A.in1.in1) (vs := [.ref x]) Fn hc rfl rfl (room_in hr (n := 2) (by decide)) J (.cons rfl .nil) hs) (fun u s' hu => ?_) fun _ _ z => z)
    obtain ⟨v, H', J', rv, ⟨z, rfl⟩, hQ⟩ := hu
    cases rv
    exact ⟨.bl z, H', J', rfl, hQ⟩
/-! == and in -/
def eqB (K : Frg) (hs : List Cl) (c : Cl) : Bool := (("NoneType" :: tys).all fun t => PySem.W.notFirst K (ca K c) (.type t)) && hs.all fun d => decide (PySem.W.notFirst K (ca K c) (.ref (ca K d)) = (decide (d = c) || !subCl d c))
structure EqC (K : Frg) (hs : List Cl) (c : Cl) : Prop where
  ty : ∀ t ∈ ("NoneType" :: tys), PySem.W.notFirst K (ca K c) (.type t) = true
  ob : ∀ d ∈ hs, PySem.W.notFirst K (ca K c) (.ref (ca K d)) = (decide (d = c) || !subCl d c)
theorem eqB_ok {K : Frg} {hs : List Cl} {c : Cl} (h : eqB K hs c = true) : EqC K hs c := by
  obtain ⟨h1, h2⟩ := He.ba h
  exact ⟨fun t ht => List.all_eq_true.mp h1 t ht, fun d hd => of_decide_eq_true (List.all_eq_true.mp h2 d hd)⟩
def rOwnEq (K : Frg) (tab : Cl → Option Ct) : R2 := fun x y H Q => ∃ c ct a dx ws t, tab c = some ct ∧ x = .ref a ∧ H a = some (.ins (ca K c) dx ws) ∧ TyX K H y t ∧ PySem.W.notFirst K (ca K c) t = true ∧ spP K ct [x, y] H Q (fun _ _ _ => False)
def fOwnEq (hs : List Cl) (tab : Cl → Option Ct) : PV → PV → (PV → Prop) → Prop := fun p r q => ∃ c fs ct, p = .obj c fs ∧ rightOk hs c r = true ∧ tab c = some ct ∧ ct [p, r] q (fun _ => False)
theorem pop_ownEq {K : Frg} {hs : List Cl} (ki : KI K hs) (ke : ∀ c ct, tab c = some ct → EqC K hs c) : POp K (rOwnEq K tab) (fOwnEq hs tab) := fun F G H p r va vb q Q o ra rb ⟨c, fs, ct, e, er, et, hc⟩ gv => by
  subst e
  obtain ⟨a, dx, ys, rfl, ea, _⟩ := ra.obj_inv
  have k := ke c ct et
  have fin : ∀ {t : Value}, TyX K H vb t → PySem.W.notFirst K (ca K c) t = true → rOwnEq K tab (.ref a) vb H Q := fun t1 n1 => ⟨c, ct, a, dx, _, _, et, rfl, o.sub _ _ ea, t1, n1, spP_ok o (.cons ra (.cons rb .nil)) hc gv⟩
  obtain ⟨tb, tob⟩ := tyX_of ki o rb
  cases r with
  | obj d gs =>
    obtain ⟨e1, e2⟩ := He.ba er
    have hd : d ∈ hs := of_decide_eq_true e1
    exact fin (tob d gs rfl hd) (by rw [k.ob d hd]; exact e2)
  | int i => exact fin (tb _ rfl) (k.ty _ (by decide))
  | bl i => exact fin (tb _ rfl) (k.ty _ (by decide))
  | str i => exact fin (tb _ rfl) (k.ty _ (by decide))
  | tup i => exact fin (tb _ rfl) (k.ty _ (by decide))
  | lst i => exact fin (tb _ rfl) (k.ty _ (by decide))
  | non => exact fin (tb _ rfl) (k.ty _ (by decide))
  | cls c => cases er
  | ty c => cases er
  | box => cases er
  | exc a d c xs => cases er
theorem op_ownEq (T : MTab hot X k "__eq__" tab) (hc : X.calm = true) (hr : L2H.RoomH k X.A) : OpR X (compareOp .Eq) (rOwnEq X.K tab) := by
  intro pins s σ H x y u v Q J rx ry h
  obtain ⟨c, ct, a, dx, ws, t, et, rfl, ea, ty, nf, hs⟩ := h
  obtain ⟨_, f, _, me, Fn⟩ := T c ct et
  cases rx
  obtain ⟨od, I⟩ := inst_at J ea
  obtain ⟨mm, fr⟩ := J.fr
  obtain ⟨P, kx, hP, _⟩ := kit_of J ry ty
  refine PySem.W.cmp_K (op := .Eq) (by have := hr.un; omega) fr J.ok.mod.kin I (kx.ty _ _ J.kIn hP) nf me.at_ me.fn (wpAny_mono (run_in (A' := X.A) (vs := [.ref a, y]) Fn hc rfl rfl hr J (.cons rfl (.cons ry .nil)) hs) (fun _ _ z => back_of z) fun _ _ z => z)
def rOwnIn (K : Frg) (tab : Cl → Option Ct) : R2 := fun y x H Q => ∃ c ct a dx ws, tab c = some ct ∧ x = .ref a ∧ H a = some (.ins (ca K c) dx ws) ∧ spP K ct [x, y] H (fun v H' => ∃ b, v = .bl b ∧ Q (.bl b) H') (fun _ _ _ => False)
def fOwnIn (tab : Cl → Option Ct) : PV → PV → (PV → Prop) → Prop := fun r p q => ∃ c fs ct, p = .obj c fs ∧ tab c = some ct ∧ ct [p, r] (fun v => ∃ b, v = .bl b ∧ q (.bl b)) (fun _ => False)
theorem pop_ownIn {K : Frg} : POp K (rOwnIn K tab) (fOwnIn tab) := fun F G H r p vb va q Q o rb ra ⟨c, fs, ct, e, et, hc⟩ gv => by
  subst e
  obtain ⟨a, dx, ys, rfl, ea, _⟩ := ra.obj_inv
  exact ⟨c, ct, a, dx, _, et, rfl, o.sub _ _ ea, spP_ok o (.cons ra (.cons rb .nil)) hc fun p v G' H' ⟨b, e, hq⟩ g rr => by
    subst e
    obtain rfl := rr.bl_inv
    exact ⟨b, rfl, gv _ _ _ _ hq g (rep_bl b)⟩⟩
theorem op_ownIn (T : MTab hot X k "__contains__" tab) (hc : X.calm = true) (hr : L2H.RoomH k X.A) : OpR X (compareOp .In) (rOwnIn X.K tab) := by
  intro pins s σ H y x v u Q J ry rx h
  obtain ⟨c, ct, a, dx, ws, et, rfl, ea, hs⟩ := h
  obtain ⟨_, f, _, me, Fn⟩ := T c ct et
  cases rx
  obtain ⟨od, I⟩ := inst_at J ea
  obtain ⟨mm, fr⟩ := J.fr
  refine PySem.W.in_K fr J.ok.mod.kin I me.at_ me.fn (wpAny_mono (run_in (A' := X.A) (vs := [.ref a, y]) Fn hc rfl rfl hr J (.cons rfl (.cons ry .nil)) hs) (fun w s' hw => ?_) fun _ _ z => z)
  obtain ⟨z, H', J', rz, b, rfl, hQ⟩ := hw
  cases rz
  exact wpAny_truthy_bool ⟨.bl b, H', J', rfl, hQ⟩
end
end Pw
/-! # texts: str(int), sep.join(..), a + b, f'..', x is False -/
namespace Pw
open PySem PySem.Spec PyProof.Rows L2
def fStrI : List PV → (PV → Prop) → Prop := fun ps q => ∃ i : Int, ps = [.int i] ∧ i.natAbs.log2 < 1920 ∧ q (.str (toString i))
theorem pcl_strI {K : Frg} : PCl K (fun xs H Q => ∃ i, xs = [.int i] ∧ i.natAbs.log2 < 1920 ∧ Q (.str (toString i)) H) fStrI := fun F G H ps vs q Q o rs ⟨i, e, hi, hq⟩ gv => by
  subst e
  obtain ⟨v, ws, rfl, r1, rn⟩ := rs.cons_inv
  obtain rfl := rn.nil_inv
  exact ⟨i, by rw [r1.int_inv], hi, gv _ _ _ _ hq (.refl o) (rep_str _)⟩
def fAddS : PV → PV → (PV → Prop) → Prop
  | .str a, .str b, q => a.length + b.length ≤ sizeLine ∧ q (.str (a ++ b))
  | _, _, _ => False
theorem pop_addS {K : Frg} : POp K (fun x y H Q => ∃ i j, x = .str i ∧ y = .str j ∧ i.length + j.length ≤ sizeLine ∧ Q (.str (i ++ j)) H) fAddS := fun F G H a b va vb q Q o ra rb h gv => by
  cases a <;> cases b <;> first | exact h.elim | skip
  exact ⟨_, _, ra.str_inv, rb.str_inv, h.1, gv _ _ _ _ h.2 (.refl o) (rep_str _)⟩
def fIsB (neg : Bool) : PV → PV → (PV → Prop) → Prop
  | .bl a, .bl b, q => q (.bl (if neg = true then !decide (a = b) else decide (a = b)))
  | _, _, _ => False
section
variable {X : Cx} {W : WX} {pos : Pos} {a b : Expr} {da db : DE}
theorem op_isB : OpR X (compareOp .Is) (fun x y H Q => ∃ i j : Bool, x = .bl i ∧ y = .bl j ∧ Q (.bl (decide (i = j))) H) := by
  intro pins s σ H x y v u Q I rx ry h
  obtain ⟨i, j, rfl, rfl, q⟩ := h
  cases rx
  cases ry
  cases i <;> cases j <;> exact wpAny_pure (fin_bl I q (by decide))
theorem op_isnotB : OpR X (compareOp .IsNot) (fun x y H Q => ∃ i j : Bool, x = .bl i ∧ y = .bl j ∧ Q (.bl (!decide (i = j))) H) := by
  intro pins s σ H x y v u Q I rx ry h
  obtain ⟨i, j, rfl, rfl, q⟩ := h
  cases rx
  cases ry
  cases i <;> cases j <;> exact wpAny_pure (fin_bl I q (by decide))
theorem pop_isB {K : Frg} : POp K (fun x y H Q => ∃ i j : Bool, x = .bl i ∧ y = .bl j ∧ Q (.bl (decide (i = j))) H) (fIsB false) := fun F G H a b va vb q Q o ra rb h gv => by
  cases a <;> cases b <;> first | exact h.elim | skip
  exact ⟨_, _, ra.bl_inv, rb.bl_inv, gv _ _ _ _ h (.refl o) (rep_bl _)⟩
theorem pop_isnotB {K : Frg} : POp K (fun x y H Q => ∃ i j : Bool, x = .bl i ∧ y = .bl j ∧ Q (.bl (!decide (i = j))) H) (fIsB true) := fun F G H a b va vb q Q o ra rb h gv => by
  cases a <;> cases b <;> first | exact h.elim | skip
  exact ⟨_, _, ra.bl_inv, rb.bl_inv, gv _ _ _ _ h (.refl o) (rep_bl _)⟩
/-- sep.join(xs) -/
def dJoin (da db : DE) : DE := fun ρ q x => da ρ (fun p => ∃ a, p = .str a ∧ db ρ (fun r => ∃ ys : List Str, (r = .lst (ys.map .str) ∨ r = .tup (ys.map .str)) ∧ (ys.map (·.length)).sum + ys.length * a.length ≤ 16777216 ∧ q (.str (Txt.join a ys))) x) x
theorem Reps.strs {K : Frg} {bx : Option Addr} {G : Hp} : ∀ {ys : List Str} {vs : List V}, Reps K bx G (ys.map .str) vs → vs = ys.map V.str
  | [], vs, h => h.nil_inv
  | y :: ys, vs, h => by
    obtain ⟨v, ws, rfl, r, rs⟩ := Reps.cons_inv h
    rw [r.str_inv, Reps.strs rs] <;> rfl
theorem e_join {apos : Pos} (ha : EJ X W a da) (hb : EJ X W b db) (hs : starEach [b] X.env = [(false, eval b X.env)] := by rfl) (hbase : attributeBase a "join" X.env (eval a X.env) = eval a X.env := by rfl) (hline : (apos.endLine == pos.line) = true := by rfl) :
    EJ X W (.Call (.Attribute a "join" apos) [b] [] pos) (dJoin da db) := pe_imp (pe_join ha hb hs hbase hline) fun σ H Q ⟨F, ρ, G, q, x, R, h, gv, gx⟩ =>
  ⟨F, ρ, G, _, x, R, h, fun p v G1 H1 ⟨z, e, h1⟩ g1 r1 => by
    subst e
    obtain rfl := r1.str_inv
    refine ⟨⟨z, rfl⟩, F, ρ, G1, _, x, R.go g1, h1, fun r w G2 H2 ⟨ys, e, hl, hq⟩ g2 r2 => ?_, gx.go g1⟩
    rcases e with rfl | rfl
    · obtain ⟨p, vs, rfl, sq, rs⟩ := r2.lst_inv
      rw [rs.strs] at sq
      exact ⟨z, p, ys, rfl, rfl, .inl (g2.ok.sub.l sq), hl, gv _ _ _ _ hq (g1.trans g2) (rep_str _)⟩
    · obtain ⟨p, vs, rfl, sq, rs⟩ := r2.tup_inv
      rw [rs.strs] at sq
      exact ⟨z, p, ys, rfl, rfl, .inr (g2.ok.sub.t sq), hl, gv _ _ _ _ hq (g1.trans g2) (rep_str _)⟩, gx⟩
/-- {x} of a text or an int -/
def dFmt (d : DE) : DE := fun ρ q x => d ρ (fun p => (∃ z : Str, p = .str z ∧ z.length ≤ sizeLine ∧ q (.str z)) ∨ ∃ i : Int, p = .int i ∧ i.natAbs.log2 < 1920 ∧ q (.str (toString i))) x
theorem e_fmt (ha : EJ X W a da) : EJ X W (.FormattedValue a (-1) none pos) (dFmt da) := pe_imp (pe_fmt ha) fun σ H Q ⟨F, ρ, G, q, x, R, h, gv, gx⟩ =>
  ⟨F, ρ, G, _, x, R, h, fun p v G1 H1 h1 g1 r1 => by
    rcases h1 with ⟨z, e, hz, hq⟩ | ⟨i, e, hi, hq⟩
    · subst e
      exact .inl ⟨z, r1.str_inv, hz, gv _ _ _ _ hq g1 (rep_str _)⟩
    · subst e
      exact .inr ⟨i, r1.int_inv, hi, gv _ _ _ _ hq g1 (rep_str _)⟩, gx⟩
/-- the parts of an f-string, one behind the other -/
def dParts : List DE → Str → DE
  | [], acc => fun _ q _ => q (.str acc)
  | d :: ds, acc => fun ρ q x => d ρ (fun p => ∃ y : Str, p = .str y ∧ (acc ++ y).length ≤ sizeLine ∧ dParts ds (acc ++ y) ρ q x) x
inductive FJ (X : Cx) (W : WX) : List Expr → List DE → Prop where
  | nil : FJ X W [] []
  | cons {e : Expr} {d : DE} {es : List Expr} {ds : List DE} (h : EJ X W e d) (r : FJ X W es ds) : FJ X W (e :: es) (d :: ds)
theorem FJ.pj : ∀ {es : List Expr} {ds : List DE}, FJ X W es ds → PJ X es (ds.map (tE X.K W))
  | _, _, .nil => .nil
  | _, _, .cons h r => .cons h r.pj
theorem tjs_of {K : Frg} {W : WX} {σ : L2.St} {Q : VK} : ∀ (ds : List DE) (acc : Str) (H : Hp) (F : Fx) (ρ : En) (G : Hp) (q : PV → Prop) (x : XV → Prop), Rel K F ρ σ G H → dParts ds acc ρ q x → GoodV K F G H q Q → GoodX K W F G H σ x → tJs (ds.map (tE K W)) acc σ H fun out H1 => Q (.str out) H1
  | [], acc, H, F, ρ, G, q, x, R, h, gv, gx => gv _ _ _ _ h (.refl R.ok) (rep_str _)
  | d :: ds, acc, H, F, ρ, G, q, x, R, h, gv, gx => ⟨F, ρ, G, _, x, R, h, fun p v G1 H1 ⟨y, e, hl, h1⟩ g1 r1 => by
      subst e
      exact ⟨y, r1.str_inv, hl, tjs_of ds (acc ++ y) H1 F ρ G1 q x (R.go g1) h1 (gv.go g1) (gx.go g1)⟩, gx⟩
theorem e_fstr {v1 v2 : Expr} {rest : List Expr} {ds : List DE} (h : FJ X W (v1 :: v2 :: rest) ds) : EJ X W (.JoinedStr (v1 :: v2 :: rest) pos) (dParts ds Str.empty) := pe_imp (pe_joined h.pj) fun σ H Q ⟨F, ρ, G, q, x, R, h, gv, gx⟩ => tjs_of ds _ H F ρ G q x R h gv gx
end
end Pw
namespace K04
open PySem PySem.Spec PyProof.Rows L2 Pw
abbrev TP : Program := PySem.Challenge.pw_laidink_k04_light_questions
def top (i : Nat) : Stmt := TP.main.body.getD i (.Pass ⟨0, 0, 0, 0⟩)
def inC (i j : Nat) : Stmt := match top i with
  | .ClassDef (body := b) .. => b.getD j (.Pass ⟨0, 0, 0, 0⟩)
  | _ => .Pass ⟨0, 0, 0, 0⟩
def hs : List Cl := [Cl.Light]
def xs : List Cl := [Cl.InvalidBand]
abbrev st__law_box : Stmt := top 7
abbrev n__law_box : List Str := ["_law_script", "_law_cell"]
theorem sc__law_box : FnScope n__law_box ["_law_script"] (defScope st__law_box) := ⟨rfl, rfl, rfl, by decide +kernel, rfl, by decide +kernel, by decide +kernel⟩
abbrev st__law_draw : Stmt := top 8
abbrev n__law_draw : List Str := ["_law_box_here", "_law_size", "_law_cells", "_law_place", "_law_cell", "_law_state", "_law_power"]
theorem sc__law_draw : FnScope n__law_draw ["_law_box_here", "_law_size"] (defScope st__law_draw) := ⟨rfl, rfl, rfl, by decide +kernel, rfl, by decide +kernel, by decide +kernel⟩
abbrev st_Light___init__ : Stmt := inC 5 1
abbrev n_Light___init__ : List Str := ["self", "bands", "number", "band"]
theorem sc_Light___init__ : FnScope n_Light___init__ ["self", "bands"] (defScope st_Light___init__) := ⟨rfl, rfl, rfl, by decide +kernel, rfl, by decide +kernel, by decide +kernel⟩
abbrev st_Light_numbered : Stmt := inC 5 2
abbrev n_Light_numbered : List Str := ["cls", "number", "bands", "band"]
theorem sc_Light_numbered : FnScope n_Light_numbered ["cls", "number"] (defScope st_Light_numbered) := ⟨rfl, rfl, rfl, by decide +kernel, rfl, by decide +kernel, by decide +kernel⟩
abbrev st__law_bands : Stmt := top 9
abbrev n__law_bands : List Str := ["_law_number", "_law_k"]
theorem sc__law_bands : FnScope n__law_bands ["_law_number"] (defScope st__law_bands) := ⟨rfl, rfl, rfl, by decide +kernel, rfl, by decide +kernel, by decide +kernel⟩
abbrev st__law_is : Stmt := top 10
abbrev n__law_is : List Str := ["_law_actual", "_law_expected"]
theorem sc__law_is : FnScope n__law_is ["_law_actual", "_law_expected"] (defScope st__law_is) := ⟨rfl, rfl, rfl, by decide +kernel, rfl, by decide +kernel, by decide +kernel⟩
abbrev st_Light___contains__ : Stmt := inC 5 10
abbrev n_Light___contains__ : List Str := ["self", "band"]
theorem sc_Light___contains__ : FnScope n_Light___contains__ ["self", "band"] (defScope st_Light___contains__) := ⟨rfl, rfl, rfl, by decide +kernel, rfl, by decide +kernel, by decide +kernel⟩
abbrev st__law_int : Stmt := top 11
abbrev n__law_int : List Str := ["_law_actual", "_law_expected"]
theorem sc__law_int : FnScope n__law_int ["_law_actual", "_law_expected"] (defScope st__law_int) := ⟨rfl, rfl, rfl, by decide +kernel, rfl, by decide +kernel, by decide +kernel⟩
abbrev st_Light___len__ : Stmt := inC 5 11
abbrev n_Light___len__ : List Str := ["self"]
theorem sc_Light___len__ : FnScope n_Light___len__ ["self"] (defScope st_Light___len__) := ⟨rfl, rfl, rfl, by decide +kernel, rfl, by decide +kernel, by decide +kernel⟩
abbrev st_Light___bool__ : Stmt := inC 5 12
abbrev n_Light___bool__ : List Str := ["self"]
theorem sc_Light___bool__ : FnScope n_Light___bool__ ["self"] (defScope st_Light___bool__) := ⟨rfl, rfl, rfl, by decide +kernel, rfl, by decide +kernel, by decide +kernel⟩
abbrev st_Light___eq__ : Stmt := inC 5 13
abbrev n_Light___eq__ : List Str := ["self", "other"]
theorem sc_Light___eq__ : FnScope n_Light___eq__ ["self", "other"] (defScope st_Light___eq__) := ⟨rfl, rfl, rfl, by decide +kernel, rfl, by decide +kernel, by decide +kernel⟩
abbrev st_Light_within : Stmt := inC 5 4
abbrev n_Light_within : List Str := ["self", "other"]
theorem sc_Light_within : FnScope n_Light_within ["self", "other"] (defScope st_Light_within) := ⟨rfl, rfl, rfl, by decide +kernel, rfl, by decide +kernel, by decide +kernel⟩
abbrev st__law_same_text : Stmt := top 12
abbrev n__law_same_text : List Str := ["_law_actual", "_law_expected"]
theorem sc__law_same_text : FnScope n__law_same_text ["_law_actual", "_law_expected"] (defScope st__law_same_text) := ⟨rfl, rfl, rfl, by decide +kernel, rfl, by decide +kernel, by decide +kernel⟩
abbrev st__law_word : Stmt := top 13
abbrev n__law_word : List Str := ["_law_number", "_law_band"]
theorem sc__law_word : FnScope n__law_word ["_law_number"] (defScope st__law_word) := ⟨rfl, rfl, rfl, by decide +kernel, rfl, by decide +kernel, by decide +kernel⟩
abbrev st_Light___str__ : Stmt := inC 5 14
abbrev n_Light___str__ : List Str := ["self", "band"]
theorem sc_Light___str__ : FnScope n_Light___str__ ["self"] (defScope st_Light___str__) := ⟨rfl, rfl, rfl, by decide +kernel, rfl, by decide +kernel, by decide +kernel⟩
abbrev st_Light___repr__ : Stmt := inC 5 15
abbrev n_Light___repr__ : List Str := ["self", "band"]
theorem sc_Light___repr__ : FnScope n_Light___repr__ ["self"] (defScope st_Light___repr__) := ⟨rfl, rfl, rfl, by decide +kernel, rfl, by decide +kernel, by decide +kernel⟩
abbrev st_Light___or__ : Stmt := inC 5 6
abbrev n_Light___or__ : List Str := ["self", "other"]
theorem sc_Light___or__ : FnScope n_Light___or__ ["self", "other"] (defScope st_Light___or__) := ⟨rfl, rfl, rfl, by decide +kernel, rfl, by decide +kernel, by decide +kernel⟩
abbrev st_law : Stmt := top 14
abbrev n_law : List Str := ["_law_script", "_law_box_here", "_law_one", "_law_two", "_law_way", "_law_a", "_law_b", "_law_band", "_law_bands_here", "_law_k", "_law_three", "_law_c"]
theorem sc_law : FnScope n_law ["_law_script"] (defScope st_law) := ⟨rfl, rfl, rfl, by decide +kernel, rfl, by decide +kernel, by decide +kernel⟩
abbrev st_InvalidBand : Stmt := inC 3 0
abbrev c__law_draw : Ct := cDraw
/-! ### Light.__init__ -/
def ci_Light : CtI := fun c fs as q x => c = .Light ∧ fs = [] ∧ ∃ ns : List Int, as = [.tup (ns.map .int)] ∧ match ns.find? badB with
  | some b => x (.InvalidBand, [.int b])
  | none => q [("number", .int (numOf ns)), ("bands", .tup ((bandsI (numOf ns)).map .int))]
abbrev co_Light : CtI := fun c fs as q z => as.length ≤ sizeLine ∧ ci_Light c fs [.tup as] q z
def p_Light___init___3 : DS := (dAttrSet hs 0 "bands" (dB1 fTuple (dCons (dLst (lComp (.one 3) [3] (iR1 (dCons (dC (.int 6)) dNil)) (dB (dOp fEqS (dOp fAndI (dOp fShrI (dVar 2) (dVar 3)) (dC (.int 1))) (dC (.int 1)))) (dVar 3))) dNil)))
def d_Light___init___3 : DS := p_Light___init___3
def p_Light___init___2 : DS := (dAttrSet hs 0 "number" (dVar 2))
def d_Light___init___2 : DS := dSeq p_Light___init___2 d_Light___init___3
def p_Light___init___1 : DS := (dFor (.one 3) (iTupl (dVar 1)) (dSeq (dIfS (dNot (dB (dChain fLe fLt (dC (.int 0)) (dVar 3) (dC (.int 6))))) (dRaise Cl.InvalidBand (dCons (dVar 3) dNil)) dNext) (dSet 2 (dOp fOrI (dVar 2) (dOp fShlI (dC (.int 1)) (dVar 3))))))
def d_Light___init___1 : DS := dSeq p_Light___init___1 d_Light___init___2
def p_Light___init___0 : DS := (dSet 2 (dC (.int 0)))
def d_Light___init__ : DS := dSeq p_Light___init___0 d_Light___init___1

theorem init_loop {t : List PV} {z : XV → Prop} {P : DEn} (hx : P.xc = fun xv _ => z xv) : ∀ (ns : List Int) (a : Int) (o : Option Slot), (∀ o, (∀ b ∈ ns, badB b = false) → P.nx [some (.ownO true .Light []), some (.val (.tup t)), some (.val (.int (ns.foldl orB a))), o]) → (∀ b, ns.find? badB = some b → z (.InvalidBand, [.int b])) →
    forD (.one 3) (dSeq (dIfS (dNot (dB (dChain fLe fLt (dC (.int 0)) (dVar 3) (dC (.int 6))))) (dRaise Cl.InvalidBand (dCons (dVar 3) dNil)) dNext) (dSet 2 (dOp fOrI (dVar 2) (dOp fShlI (dC (.int 1)) (dVar 3))))) (ns.map .int) P [some (.ownO true .Light []), some (.val (.tup t)), some (.val (.int a)), o]
  | [], a, o, h1, h2 => h1 o (fun _ h => nomatch h)
  | b :: ns, a, o, h1, h2 => by
    have hz : badB b = true → z (.InvalidBand, [.int b]) := fun hb => h2 b (List.find?_cons_of_pos hb)
    have raise : badB b = true → (dRaise Cl.InvalidBand (dCons (dVar 3) dNil)) { P with nx := fun ρ' => dSet 2 (dOp fOrI (dVar 2) (dOp fShlI (dC (.int 1)) (dVar 3))) { P with nx := fun ρ'' => forD (.one 3) (dSeq (dIfS (dNot (dB (dChain fLe fLt (dC (.int 0)) (dVar 3) (dC (.int 6))))) (dRaise Cl.InvalidBand (dCons (dVar 3) dNil)) dNext) (dSet 2 (dOp fOrI (dVar 2) (dOp fShlI (dC (.int 1)) (dVar 3))))) (ns.map .int) P ρ'', ct := fun ρ'' => forD (.one 3) (dSeq (dIfS (dNot (dB (dChain fLe fLt (dC (.int 0)) (dVar 3) (dC (.int 6))))) (dRaise Cl.InvalidBand (dCons (dVar 3) dNil)) dNext) (dSet 2 (dOp fOrI (dVar 2) (dOp fShlI (dC (.int 1)) (dVar 3))))) (ns.map .int) P ρ'', bk := P.nx } ρ', ct := fun ρ'' => forD (.one 3) (dSeq (dIfS (dNot (dB (dChain fLe fLt (dC (.int 0)) (dVar 3) (dC (.int 6))))) (dRaise Cl.InvalidBand (dCons (dVar 3) dNil)) dNext) (dSet 2 (dOp fOrI (dVar 2) (dOp fShlI (dC (.int 1)) (dVar 3))))) (ns.map .int) P ρ'', bk := P.nx } [some (.ownO true .Light []), some (.val (.tup t)), some (.val (.int a)), some (.val (.int b))] := fun hb => by
      refine ⟨_, rfl, _, rfl, ?_⟩
      show P.xc _ _
      rw [hx]
      exact hz hb
    refine ⟨.int b, rfl, _, rfl, ?_⟩
    refine ite2 (fun e1 => ?_) fun e1 => ?_
    · refine ⟨_, rfl, ?_⟩
      refine ite2 (fun e2 => ?_) fun e2 => ?_
      · refine raise ?_
        unfold badB
        simp at e1 e2
        simp [e1]; omega
      · have e1 := of_decide_eq_true e1
        have e2 : b < 6 := by simpa using e2
        have nb : badB b = false := by unfold badB; simp; omega
        refine ⟨_, rfl, _, rfl, ⟨e1, by omega, by decide⟩, ?_⟩
        refine init_loop hx ns (orB a b) _ (fun o h => h1 o fun x hx => ?_) (fun x hx => h2 x ?_)
        · rcases List.mem_cons.mp hx with rfl | hx
          · exact nb
          · exact h x hx
        · rw [List.find?_cons_of_neg (by simp [nb])]; exact hx
    · refine ⟨_, rfl, ?_⟩
      refine iteT ?_
      refine raise ?_
      unfold badB
      simp at e1
      simp; omega
theorem pure_Light___init__ : ∀ c fs as q z, ci_Light c fs as q z → d_Light___init__ (endsI c q z) (startI 4 c fs as) := by
  rintro c fs as q z ⟨rfl, rfl, ns, rfl, h⟩
  refine ⟨_, rfl, _, rfl, ?_⟩
  refine init_loop rfl ns 0 none (fun o hg => ?_) (fun b hb => by rw [hb] at h; exact h)
  rw [find_none hg] at h
  obtain ⟨n0, n1⟩ := numOf_lt ns 0 (by decide) (by decide) hg
  refine ⟨_, rfl, true, .Light, [], rfl, by decide, by decide, by decide, ?_⟩
  refine ⟨6, rfl, by decide, by decide, by decide, ?_⟩
  rw [rng6_eq]
  refine lcD_one (fun p => match p with | .int k => decide (((ns.foldl orB 0) / 2 ^ k.toNat) % 2 = 1) | _ => false) id _ _ (fun x hx k hk => ?_) (fun x hx _ k hk => ⟨x, rfl, hk⟩) ?_
  · simp only [rng6, List.mem_cons, List.not_mem_nil, or_false] at hx
    rcases hx with rfl | rfl | rfl | rfl | rfl | rfl <;> exact ⟨_, rfl, _, rfl, (show (0 : Int) ≤ _ from by decide), _, rfl, _, rfl, by rw [bit_and n0 n1 (by decide)]; exact hk⟩
  · rw [List.nil_append, rng6_map (fun k => decide (((ns.foldl orB 0) / 2 ^ k.toNat) % 2 = 1)) _ fun _ => rfl]
    exact ⟨true, .Light, _, rfl, by decide, by decide, (show 1 < 1000 by decide), _, rfl, h⟩
/-! ### Light.numbered -/
def c_Light_numbered : Ct := fun as q x => ∃ n : Int, as = [.cls .Light, .int n] ∧ if 0 ≤ n ∧ n < 64 then q (lt n) else x (.InvalidBand, [.int n])
theorem len_Light_numbered : ∀ as q z, c_Light_numbered as q z → as.length = 2 := fun as q z ⟨n, e, _⟩ => by rw [e] <;> rfl
def d_Light_numbered : DS := (dSeq (dIfS (dNot (dB (dChain fLe fLt (dC (.int 0)) (dVar 1) (dC (.int 64))))) (dRaise Cl.InvalidBand (dCons (dVar 1) dNil)) dNext) (dSeq (dSet 2 (dLst (lComp (.one 3) [3] (iR1 (dCons (dC (.int 6)) dNil)) (dB (dOp fEqS (dOp fAndI (dOp fShrI (dVar 1) (dVar 3)) (dC (.int 1))) (dC (.int 1)))) (dVar 3)))) (dRet (dMkVS co_Light Cl.Light (dVar 0) (dVar 2)))))

theorem pure_Light_numbered : ∀ as q z, c_Light_numbered as q z → d_Light_numbered (endsOf q z) (startE 4 as) := by
  rintro as q z ⟨n, rfl, h⟩
  repeat (first | refine ⟨_, rfl, ?_⟩ | refine ⟨_, _, rfl, rfl, ?_⟩ | refine ⟨_, _, _, rfl, rfl, ?_⟩ | refine ⟨_, _, _, rfl, by decide, rfl, ?_⟩ | refine ⟨_, _, rfl, rfl, rfl, ?_⟩ | refine iteT ?_ | refine iteF ?_ | refine ⟨show (0 : Int) < _ from by decide, ?_⟩ | refine ⟨show (0 : Int) ≤ _ from by decide, ?_⟩ | refine ⟨⟨by decide, by decide, by decide⟩, ?_⟩ | refine ⟨rfl, ?_⟩ | refine ⟨Nat.le_of_ble_eq_true rfl, ?_⟩ | refine ⟨_, _, rfl, ?_⟩ | refine ⟨_, _, _, _, rfl, rfl, rfl, ?_⟩ | refine ⟨by assumption, ?_⟩ | refine ⟨by decide, by decide, ?_⟩ | refine ⟨_, _, _, rfl, rfl, rfl, ?_⟩ | refine ⟨⟨_, rfl⟩, ?_⟩ | refine .inl ⟨_, _, rfl, ?_⟩ | refine .inr ⟨_, _, rfl, rfl, ?_⟩ | refine iteNS rfl ?_ | refine iteS rfl ?_)
  refine ite2 (fun e1 => ?_) fun e1 => ?_
  · have e1 := of_decide_eq_true e1
    repeat (first | refine ⟨_, rfl, ?_⟩ | refine ⟨_, _, rfl, rfl, ?_⟩ | refine ⟨_, _, _, rfl, rfl, ?_⟩ | refine ⟨_, _, _, rfl, by decide, rfl, ?_⟩ | refine ⟨_, _, rfl, rfl, rfl, ?_⟩ | refine iteT ?_ | refine iteF ?_ | refine ⟨show (0 : Int) < _ from by decide, ?_⟩ | refine ⟨show (0 : Int) ≤ _ from by decide, ?_⟩ | refine ⟨⟨by decide, by decide, by decide⟩, ?_⟩ | refine ⟨rfl, ?_⟩ | refine ⟨Nat.le_of_ble_eq_true rfl, ?_⟩ | refine ⟨_, _, rfl, ?_⟩ | refine ⟨_, _, _, _, rfl, rfl, rfl, ?_⟩ | refine ⟨by assumption, ?_⟩ | refine ⟨by decide, by decide, ?_⟩ | refine ⟨_, _, _, rfl, rfl, rfl, ?_⟩ | refine ⟨⟨_, rfl⟩, ?_⟩ | refine .inl ⟨_, _, rfl, ?_⟩ | refine .inr ⟨_, _, rfl, rfl, ?_⟩ | refine iteNS rfl ?_ | refine iteS rfl ?_)
    refine ite2 (fun e2 => ?_) fun e2 => ?_
    · rw [if_neg (by simp at e2; omega)] at h
      exact ⟨_, rfl, _, rfl, h⟩
    · have e2 : n < 64 := by simpa using e2
      rw [if_pos ⟨e1, e2⟩] at h
      refine ⟨6, rfl, by decide, by decide, by decide, ?_⟩
      rw [rng6_eq]
      refine lcD_one (fun p => match p with | .int k => decide ((n / 2 ^ k.toNat) % 2 = 1) | _ => false) id _ _ (fun x hx k hk => ?_) (fun x hx _ k hk => ⟨x, rfl, hk⟩) ?_
      · simp only [rng6, List.mem_cons, List.not_mem_nil, or_false] at hx
        rcases hx with rfl | rfl | rfl | rfl | rfl | rfl <;> exact ⟨_, rfl, _, rfl, (show (0 : Int) ≤ _ from by decide), _, rfl, _, rfl, by rw [bit_and e1 e2 (by decide)]; exact hk⟩
      · rw [List.nil_append, rng6_map (fun k => decide ((n / 2 ^ k.toNat) % 2 = 1)) _ fun _ => rfl]
        refine ⟨_, rfl, rfl, _, rfl, _, .inr rfl, ?_, rfl, rfl, bandsI n, rfl, ?_⟩
        · rw [List.length_map, sizeLine_eq]
          exact Nat.le_trans (List.length_filter_le _ _) (by decide)
        · rw [find_none (bands_good n), numOf_bands e1 e2]
          exact ⟨_, rfl, rfl, h⟩
  · repeat (first | refine ⟨_, rfl, ?_⟩ | refine ⟨_, _, rfl, rfl, ?_⟩ | refine ⟨_, _, _, rfl, rfl, ?_⟩ | refine ⟨_, _, _, rfl, by decide, rfl, ?_⟩ | refine ⟨_, _, rfl, rfl, rfl, ?_⟩ | refine iteT ?_ | refine iteF ?_ | refine ⟨show (0 : Int) < _ from by decide, ?_⟩ | refine ⟨show (0 : Int) ≤ _ from by decide, ?_⟩ | refine ⟨⟨by decide, by decide, by decide⟩, ?_⟩ | refine ⟨rfl, ?_⟩ | refine ⟨Nat.le_of_ble_eq_true rfl, ?_⟩ | refine ⟨_, _, rfl, ?_⟩ | refine ⟨_, _, _, _, rfl, rfl, rfl, ?_⟩ | refine ⟨by assumption, ?_⟩ | refine ⟨by decide, by decide, ?_⟩ | refine ⟨_, _, _, rfl, rfl, rfl, ?_⟩ | refine ⟨⟨_, rfl⟩, ?_⟩ | refine .inl ⟨_, _, rfl, ?_⟩ | refine .inr ⟨_, _, rfl, rfl, ?_⟩ | refine iteNS rfl ?_ | refine iteS rfl ?_)
    have e1 : n < 0 := by simpa using e1
    rw [if_neg (by omega)] at h
    exact h
/-! ### _law_bands -/
def c__law_bands : Ct := fun as q _ => ∃ n : Int, as = [.int n] ∧ q (.lst ((bandsI n).map .int))
theorem len__law_bands : ∀ as q z, c__law_bands as q z → as.length = 1 := fun as q z ⟨n, e, _⟩ => by rw [e] <;> rfl
def d__law_bands : DS := (dRet (dLst (lComp (.one 1) [1] (iR1 (dCons (dC (.int 6)) dNil)) (dB (dOp fEqS (dOp fModI (dB1 fInt (dCons (dOp fShrI (dVar 0) (dVar 1)) dNil)) (dC (.int 2))) (dC (.int 1)))) (dVar 1))))

theorem pure__law_bands : ∀ as q z, c__law_bands as q z → d__law_bands (endsOf q z) (startE 2 as) := by
  rintro as q z ⟨n, rfl, h⟩
  refine ⟨6, rfl, by decide, by decide, by decide, ?_⟩
  rw [rng6_eq]
  refine lcD_one (fun p => match p with | .int k => decide ((n / 2 ^ k.toNat) % 2 = 1) | _ => false) id _ _ (fun x hx k hk => ?_) (fun x hx _ k hk => ⟨x, rfl, hk⟩) ?_
  · simp only [rng6, List.mem_cons, List.not_mem_nil, or_false] at hx
    rcases hx with rfl | rfl | rfl | rfl | rfl | rfl <;> exact ⟨_, rfl, _, rfl, (show (0 : Int) ≤ _ from by decide), (show (0 : Int) < _ from by decide), _, rfl, _, rfl, hk⟩
  · rw [List.nil_append, rng6_map (fun k => decide ((n / 2 ^ k.toNat) % 2 = 1)) _ fun _ => rfl]
    exact h
/-! ### _law_is -/
def isBl : PV → Bool → Bool
  | .bl a, b => decide (a = b)
  | _, _ => false
def c__law_is : Ct := fun as q _ => ∃ (p : PV) (n : Bool), as = [p, .bl n] ∧ (isiP hs p (.ty "bool")).isSome = true ∧ q (.bl (isBl p n))
theorem len__law_is : ∀ as q z, c__law_is as q z → as.length = 2 := fun as q z ⟨p, n, e, _⟩ => by rw [e] <;> rfl
def d__law_is : DS := (dRet (dAndV (dB1 (fIsi hs) (dCons (dVar 0) (dCons (dC (.ty "bool")) dNil))) (dOp fEqS (dVar 0) (dVar 1))))

theorem pure__law_is : ∀ as q z, c__law_is as q z → d__law_is (endsOf q z) (startE 2 as) := by
  rintro as q z ⟨p, n, rfl, h2, h⟩
  cases e2 : isiP hs p (.ty "bool") with
  | none => rw [e2] at h2; cases h2
  | some b2 =>
    refine ⟨_, rfl, _, _, _, rfl, e2, b2, rfl, ?_⟩
    cases p with
    | bl i =>
      cases e2
      exact ⟨_, rfl, _, rfl, _, rfl, h⟩
    | int i => cases e2; exact h
    | non => cases e2; exact h
    | str z => cases e2; exact h
    | tup xs => cases e2; exact h
    | lst xs => cases e2; exact h
    | obj c xs =>
      have : b2 = false := by
        have e1 : (if c ∈ hs ∧ "bool" ∈ tys then some false else none) = some b2 := e2
        split at e1
        · cases e1; rfl
        · cases e1
      subst this
      exact h
    | cls c => cases e2
    | ty c => cases e2
    | box => cases e2
    | exc a d c xs => cases e2
/-! ### Light.__contains__ -/
def c_Light___contains__ : Ct := fun as q _ => ∃ m b : Int, as = [lt m, .int b] ∧ q (.bl (inP (.int b) ((bandsI m).map .int)))
theorem len_Light___contains__ : ∀ as q z, c_Light___contains__ as q z → as.length = 2 := fun as q z ⟨m, b, e, _⟩ => by rw [e] <;> rfl
def d_Light___contains__ : DS := (dRet (dOp (fIn false) (dVar 1) (dUn (fAttr hs "bands") (dVar 0))))

theorem flat_bands (m : Int) : ((bandsI m).map PV.int).all flatP = true := by
  rw [List.all_eq_true]
  intro x hx
  obtain ⟨i, _, rfl⟩ := List.mem_map.mp hx
  rfl
theorem pure_Light___contains__ : ∀ as q z, c_Light___contains__ as q z → d_Light___contains__ (endsOf q z) (startE 2 as) := by
  rintro as q z ⟨m, b, rfl, h⟩
  exact ⟨_, rfl, _, rfl, _, _, _, rfl, by decide, rfl, _, rfl, rfl, flat_bands m, h⟩
def tab_Light___contains__ : Cl → Option Ct
  | .Light => some c_Light___contains__
  | _ => none
/-! ### _law_int -/
/-- the value is that int -/
def isI : PV → Int → Bool
  | .int i, n => decide (i = n)
  | _, _ => false
def c__law_int : Ct := fun as q _ => ∃ (p : PV) (n : Int), as = [p, .int n] ∧ (isiP hs p (.ty "int")).isSome = true ∧ (isiP hs p (.ty "bool")).isSome = true ∧ q (.bl (isI p n))
theorem len__law_int : ∀ as q z, c__law_int as q z → as.length = 2 := fun as q z ⟨p, n, e, _⟩ => by rw [e] <;> rfl
def d__law_int : DS := (dRet (dAndV (dB1 (fIsi hs) (dCons (dVar 0) (dCons (dC (.ty "int")) dNil))) (dAndV (dNotV (dB1 (fIsi hs) (dCons (dVar 0) (dCons (dC (.ty "bool")) dNil)))) (dOp fEqS (dVar 0) (dVar 1)))))

theorem pure__law_int : ∀ as q z, c__law_int as q z → d__law_int (endsOf q z) (startE 2 as) := by
  rintro as q z ⟨p, n, rfl, h1, h2, h⟩
  cases e1 : isiP hs p (.ty "int") with
  | none => rw [e1] at h1; cases h1
  | some b1 =>
    refine ⟨_, rfl, _, _, _, rfl, e1, b1, rfl, ?_⟩
    cases e2 : isiP hs p (.ty "bool") with
    | none => rw [e2] at h2; cases h2
    | some b2 =>
      cases p with
      | int i =>
        cases e1
        cases e2
        refine ⟨_, rfl, _, _, _, rfl, rfl, _, rfl, _, rfl, ?_⟩
        exact ⟨_, rfl, _, rfl, _, rfl, h⟩
      | bl i =>
        cases e1
        cases e2
        exact ⟨_, rfl, _, _, _, rfl, rfl, _, rfl, _, rfl, h⟩
      | non => cases e1; exact h
      | str z => cases e1; exact h
      | tup xs => cases e1; exact h
      | lst xs => cases e1; exact h
      | obj c xs =>
        have : b1 = false := by
          have e1 : (if c ∈ hs ∧ "int" ∈ tys then some false else none) = some b1 := e1
          split at e1
          · cases e1; rfl
          · cases e1
        subst this
        exact h
      | cls c => cases e1
      | ty c => cases e1
      | box => cases e1
      | exc a d c xs => cases e1
/-! ### Light.__len__ -/
def c_Light___len__ : Ct := fun as q _ => ∃ m : Int, as = [lt m] ∧ q (.int (((bandsI m).map PV.int).length : Nat))
theorem len_Light___len__ : ∀ as q z, c_Light___len__ as q z → as.length = 1 := fun as q z ⟨m, e, _⟩ => by rw [e] <;> rfl
def d_Light___len__ : DS := (dRet (dB1 fLen (dCons (dUn (fAttr hs "bands") (dVar 0)) dNil)))

theorem pure_Light___len__ : ∀ as q z, c_Light___len__ as q z → d_Light___len__ (endsOf q z) (startE 1 as) := by
  rintro as q z ⟨m, rfl, h⟩
  exact ⟨_, rfl, _, _, _, rfl, by decide, rfl, _, _, rfl, rfl, h⟩
def tab_Light___len__ : Cl → Option Ct
  | .Light => some c_Light___len__
  | _ => none
/-! ### Light.__bool__ -/
def c_Light___bool__ : Ct := fun as q _ => ∃ m : Int, as = [lt m] ∧ q (.bl (decide (0 < m)))
theorem len_Light___bool__ : ∀ as q z, c_Light___bool__ as q z → as.length = 1 := fun as q z ⟨m, e, _⟩ => by rw [e] <;> rfl
def d_Light___bool__ : DS := (dRet (dB1 fBool (dCons (dOp fGt (dUn (fAttr hs "number") (dVar 0)) (dC (.int 0))) dNil)))

theorem pure_Light___bool__ : ∀ as q z, c_Light___bool__ as q z → d_Light___bool__ (endsOf q z) (startE 1 as) := by
  rintro as q z ⟨m, rfl, h⟩
  exact ⟨_, rfl, _, _, _, rfl, by decide, rfl, h⟩
def tab_Light___bool__ : Cl → Option Ct
  | .Light => some c_Light___bool__
  | _ => none
/-! ### Light.__eq__ -/
def c_Light___eq__ : Ct := fun as q _ => (∃ m n : Int, as = [lt m, lt n] ∧ q (.bl (decide (m = n)))) ∨ ∃ (m : Int) (r : PV), as = [lt m, r] ∧ isiP hs r (.cls .Light) = some false ∧ q (.bl false)
theorem len_Light___eq__ : ∀ as q z, c_Light___eq__ as q z → as.length = 2 := fun as q z h => by
  rcases h with ⟨m, n, e, _⟩ | ⟨m, r, e, _⟩ <;> rw [e] <;> rfl
def d_Light___eq__ : DS := (dRet (dAndV (dB1 (fIsi hs) (dCons (dVar 1) (dCons (dC (.cls Cl.Light)) dNil))) (dOp fEqS (dUn (fAttr hs "number") (dVar 0)) (dUn (fAttr hs "number") (dVar 1)))))

theorem pure_Light___eq__ : ∀ as q z, c_Light___eq__ as q z → d_Light___eq__ (endsOf q z) (startE 2 as) := by
  rintro as q z (⟨m, n, rfl, h⟩ | ⟨m, r, rfl, e, h⟩)
  · repeat (first | refine ⟨_, rfl, ?_⟩ | refine ⟨_, _, rfl, rfl, ?_⟩ | refine ⟨_, _, _, rfl, rfl, ?_⟩ | refine ⟨_, _, _, rfl, by decide, rfl, ?_⟩ | refine ⟨_, _, rfl, rfl, rfl, ?_⟩ | refine iteT ?_ | refine iteF ?_ | refine ⟨show (0 : Int) < _ from by decide, ?_⟩ | refine ⟨show (0 : Int) ≤ _ from by decide, ?_⟩ | refine ⟨⟨by decide, by decide, by decide⟩, ?_⟩ | refine ⟨rfl, ?_⟩ | refine ⟨Nat.le_of_ble_eq_true rfl, ?_⟩ | refine ⟨_, _, rfl, ?_⟩ | refine ⟨_, _, _, _, rfl, rfl, rfl, ?_⟩ | refine ⟨by assumption, ?_⟩ | refine ⟨by decide, by decide, ?_⟩ | refine ⟨_, _, _, rfl, rfl, rfl, ?_⟩ | refine ⟨⟨_, rfl⟩, ?_⟩ | refine .inl ⟨_, _, rfl, ?_⟩ | refine .inr ⟨_, _, rfl, rfl, ?_⟩ | refine iteNS rfl ?_ | refine iteS rfl ?_)
    exact h
  · exact ⟨_, rfl, _, _, _, rfl, e, _, rfl, h⟩
def tab_Light___eq__ : Cl → Option Ct
  | .Light => some c_Light___eq__
  | _ => none
/-! ### Light.within -/
def c_Light_within : Ct := fun as q _ => ∃ m n : Int, as = [lt m, lt n] ∧ q (.bl (decide (Builtin.bitAnd m n = m)))
theorem len_Light_within : ∀ as q z, c_Light_within as q z → as.length = 2 := fun as q z ⟨m, n, e, _⟩ => by rw [e] <;> rfl
def d_Light_within : DS := (dRet (dOp fEqS (dOp fAndI (dUn (fAttr hs "number") (dVar 0)) (dUn (fAttr hs "number") (dVar 1))) (dUn (fAttr hs "number") (dVar 0))))

theorem pure_Light_within : ∀ as q z, c_Light_within as q z → d_Light_within (endsOf q z) (startE 2 as) := by
  rintro as q z ⟨m, n, rfl, h⟩
  repeat (first | refine ⟨_, rfl, ?_⟩ | refine ⟨_, _, rfl, rfl, ?_⟩ | refine ⟨_, _, _, rfl, rfl, ?_⟩ | refine ⟨_, _, _, rfl, by decide, rfl, ?_⟩ | refine ⟨_, _, rfl, rfl, rfl, ?_⟩ | refine iteT ?_ | refine iteF ?_ | refine ⟨show (0 : Int) < _ from by decide, ?_⟩ | refine ⟨show (0 : Int) ≤ _ from by decide, ?_⟩ | refine ⟨⟨by decide, by decide, by decide⟩, ?_⟩ | refine ⟨rfl, ?_⟩ | refine ⟨Nat.le_of_ble_eq_true rfl, ?_⟩ | refine ⟨_, _, rfl, ?_⟩ | refine ⟨_, _, _, _, rfl, rfl, rfl, ?_⟩ | refine ⟨by assumption, ?_⟩ | refine ⟨by decide, by decide, ?_⟩ | refine ⟨_, _, _, rfl, rfl, rfl, ?_⟩ | refine ⟨⟨_, rfl⟩, ?_⟩ | refine .inl ⟨_, _, rfl, ?_⟩ | refine .inr ⟨_, _, rfl, rfl, ?_⟩ | refine iteNS rfl ?_ | refine iteS rfl ?_)
  exact h
def tab_Light_within : Cl → Option Ct
  | .Light => some c_Light_within
  | _ => none
/-! ### _law_same_text -/
def isT : PV → Str → Bool
  | .str a, b => decide (a = b)
  | _, _ => false
def c__law_same_text : Ct := fun as q _ => ∃ (p : PV) (n : Str), as = [p, .str n] ∧ (isiP hs p (.ty "str")).isSome = true ∧ q (.bl (isT p n))
theorem len__law_same_text : ∀ as q z, c__law_same_text as q z → as.length = 2 := fun as q z ⟨p, n, e, _⟩ => by rw [e] <;> rfl
def d__law_same_text : DS := (dRet (dAndV (dB1 (fIsi hs) (dCons (dVar 0) (dCons (dC (.ty "str")) dNil))) (dOp fEqS (dVar 0) (dVar 1))))

theorem pure__law_same_text : ∀ as q z, c__law_same_text as q z → d__law_same_text (endsOf q z) (startE 2 as) := by
  rintro as q z ⟨p, n, rfl, h2, h⟩
  cases e2 : isiP hs p (.ty "str") with
  | none => rw [e2] at h2; cases h2
  | some b2 =>
    refine ⟨_, rfl, _, _, _, rfl, e2, b2, rfl, ?_⟩
    cases p with
    | str i =>
      cases e2
      exact ⟨_, rfl, _, rfl, _, rfl, h⟩
    | int i => cases e2; exact h
    | non => cases e2; exact h
    | bl z => cases e2; exact h
    | tup xs => cases e2; exact h
    | lst xs => cases e2; exact h
    | obj c xs =>
      have : b2 = false := by
        have e1 : (if c ∈ hs ∧ "str" ∈ tys then some false else none) = some b2 := e2
        split at e1
        · cases e1; rfl
        · cases e1
      subst this
      exact h
    | cls c => cases e2
    | ty c => cases e2
    | box => cases e2
    | exc a d c xs => cases e2
/-! ### _law_word -/
def c__law_word : Ct := fun as q _ => ∃ n : Int, as = [.int n] ∧ (0 ≤ n ∧ n < 64) ∧ q (.str (wordT n))
theorem len__law_word : ∀ as q z, c__law_word as q z → as.length = 1 := fun as q z ⟨n, e, _⟩ => by rw [e] <;> rfl
def d__law_word : DS := (dSeq (dIfS (dB (dOp fEqS (dVar 0) (dC (.int 0)))) (dRet (dC (.str "-"))) dNext) (dRet (dJoin (dC (.str ".")) (dLst (lComp (.one 1) [1] (iLst (dCall c__law_bands (dCons (dVar 0) dNil))) dYes (dB1 fStrI (dCons (dVar 1) dNil)))))))

theorem pure__law_word : ∀ as q z, c__law_word as q z → d__law_word (endsOf q z) (startE 2 as) := by
  rintro as q z ⟨n, rfl, hn, h⟩
  repeat (first | refine ⟨_, rfl, ?_⟩ | refine ⟨_, _, rfl, rfl, ?_⟩ | refine ⟨_, _, _, rfl, rfl, ?_⟩ | refine ⟨_, _, _, rfl, by decide, rfl, ?_⟩ | refine ⟨_, _, rfl, rfl, rfl, ?_⟩ | refine iteT ?_ | refine iteF ?_ | refine ⟨show (0 : Int) < _ from by decide, ?_⟩ | refine ⟨show (0 : Int) ≤ _ from by decide, ?_⟩ | refine ⟨⟨by decide, by decide, by decide⟩, ?_⟩ | refine ⟨rfl, ?_⟩ | refine ⟨Nat.le_of_ble_eq_true rfl, ?_⟩ | refine ⟨_, _, rfl, ?_⟩ | refine ⟨_, _, _, _, rfl, rfl, rfl, ?_⟩ | refine ⟨by assumption, ?_⟩ | refine ⟨by decide, by decide, ?_⟩ | refine ⟨_, _, _, rfl, rfl, rfl, ?_⟩ | refine ⟨⟨_, rfl⟩, ?_⟩ | refine .inl ⟨_, _, rfl, ?_⟩ | refine .inr ⟨_, _, rfl, rfl, ?_⟩ | refine iteNS rfl ?_ | refine iteS rfl ?_)
  refine ite2 (fun e => ?_) fun e => ?_
  · have e := of_decide_eq_true e
    unfold wordT at h
    rw [if_pos e] at h
    exact h
  · have e : ¬ n = 0 := by simpa using e
    unfold wordT at h
    rw [if_neg e] at h
    refine ⟨_, rfl, _, rfl, _, rfl, _, rfl, ?_, ?_⟩
    · exact Nat.le_trans (bands_len n) (by decide)
    · refine lcD_map strG _ _ (fun x hx k hk => ?_) ?_
      · obtain ⟨i, rfl, hi⟩ := bands_log hx
        exact ⟨_, rfl, i, rfl, hi, hk⟩
      · rw [List.nil_append, strG_map]
        exact ⟨_, .inl rfl, okJ_le (okJ_dot hn), h⟩
/-! ### Light.__str__ -/
def c_Light___str__ : Ct := fun as q _ => ∃ n : Int, as = [lt n] ∧ (0 ≤ n ∧ n < 64) ∧ q (.str (wordT n))
theorem len_Light___str__ : ∀ as q z, c_Light___str__ as q z → as.length = 1 := fun as q z ⟨n, e, _⟩ => by rw [e] <;> rfl
def d_Light___str__ : DS := (dSeq (dIfS (dB (dOp fEqS (dUn (fAttr hs "number") (dVar 0)) (dC (.int 0)))) (dRet (dC (.str "-"))) dNext) (dRet (dJoin (dC (.str ".")) (dLst (lComp (.one 1) [1] (iTupl (dUn (fAttr hs "bands") (dVar 0))) dYes (dB1 fStrI (dCons (dVar 1) dNil)))))))

theorem pure_Light___str__ : ∀ as q z, c_Light___str__ as q z → d_Light___str__ (endsOf q z) (startE 2 as) := by
  rintro as q z ⟨n, rfl, hn, h⟩
  repeat (first | refine ⟨_, rfl, ?_⟩ | refine ⟨_, _, rfl, rfl, ?_⟩ | refine ⟨_, _, _, rfl, rfl, ?_⟩ | refine ⟨_, _, _, rfl, by decide, rfl, ?_⟩ | refine ⟨_, _, rfl, rfl, rfl, ?_⟩ | refine iteT ?_ | refine iteF ?_ | refine ⟨show (0 : Int) < _ from by decide, ?_⟩ | refine ⟨show (0 : Int) ≤ _ from by decide, ?_⟩ | refine ⟨⟨by decide, by decide, by decide⟩, ?_⟩ | refine ⟨rfl, ?_⟩ | refine ⟨Nat.le_of_ble_eq_true rfl, ?_⟩ | refine ⟨_, _, rfl, ?_⟩ | refine ⟨_, _, _, _, rfl, rfl, rfl, ?_⟩ | refine ⟨by assumption, ?_⟩ | refine ⟨by decide, by decide, ?_⟩ | refine ⟨_, _, _, rfl, rfl, rfl, ?_⟩ | refine ⟨⟨_, rfl⟩, ?_⟩ | refine .inl ⟨_, _, rfl, ?_⟩ | refine .inr ⟨_, _, rfl, rfl, ?_⟩ | refine iteNS rfl ?_ | refine iteS rfl ?_)
  refine ite2 (fun e => ?_) fun e => ?_
  · have e := of_decide_eq_true e
    unfold wordT at h
    rw [if_pos e] at h
    exact h
  · have e : ¬ n = 0 := by simpa using e
    unfold wordT at h
    rw [if_neg e] at h
    refine ⟨_, rfl, _, rfl, _, _, _, rfl, by decide, rfl, _, rfl, ?_, ?_⟩
    · exact Nat.le_trans (bands_len n) (by decide)
    · refine lcD_map strG _ _ (fun x hx k hk => ?_) ?_
      · obtain ⟨i, rfl, hi⟩ := bands_log hx
        exact ⟨_, rfl, i, rfl, hi, hk⟩
      · rw [List.nil_append, strG_map]
        exact ⟨_, .inl rfl, okJ_le (okJ_dot hn), h⟩
def tab_Light___str__ : Cl → Option Ct
  | .Light => some c_Light___str__
  | _ => none
/-! ### Light.__repr__ -/
def c_Light___repr__ : Ct := fun as q _ => ∃ n : Int, as = [lt n] ∧ (0 ≤ n ∧ n < 64) ∧ q (.str (Str.empty ++ "Light(" ++ joinB ", " n ++ ")"))
theorem len_Light___repr__ : ∀ as q z, c_Light___repr__ as q z → as.length = 1 := fun as q z ⟨n, e, _⟩ => by rw [e] <;> rfl
def d_Light___repr__ : DS := (dRet (dParts [(dC (.str "Light(")), (dFmt (dJoin (dC (.str ", ")) (dLst (lComp (.one 1) [1] (iTupl (dUn (fAttr hs "bands") (dVar 0))) dYes (dB1 fStrI (dCons (dVar 1) dNil)))))), (dC (.str ")"))] Str.empty))

theorem len_app (a b : Str) : (a ++ b).length = a.length + b.length := by
  show (a.cps ++ b.cps).size = a.cps.size + b.cps.size
  exact Array.size_append
theorem pure_Light___repr__ : ∀ as q z, c_Light___repr__ as q z → d_Light___repr__ (endsOf q z) (startE 2 as) := by
  rintro as q z ⟨n, rfl, hn, h⟩
  refine ⟨_, rfl, by decide, ?_⟩
  refine ⟨_, rfl, _, rfl, _, _, _, rfl, by decide, rfl, _, rfl, ?_, ?_⟩
  · exact Nat.le_trans (bands_len n) (by decide)
  · refine lcD_map strG _ _ (fun x hx k hk => ?_) ?_
    · obtain ⟨i, rfl, hi⟩ := bands_log hx
      exact ⟨_, rfl, i, rfl, hi, hk⟩
    · rw [List.nil_append, strG_map]
      have l := okR_all hn
      have l1 : (Str.empty ++ ("Light(" : Str)).length = 6 := by decide
      have l2 : (")" : Str).length = 1 := by decide
      refine ⟨_, .inl rfl, okJ_le (okJ_com hn), .inl ⟨_, rfl, Nat.le_trans l (by decide), _, rfl, ?_, _, rfl, ?_, h⟩⟩
      · rw [len_app, l1, sizeLine_eq]
        have : (Txt.join ", " ((bandsI n).map toS)).length ≤ 100 := l
        omega
      · rw [len_app, len_app, l1, l2, sizeLine_eq]
        have : (Txt.join ", " ((bandsI n).map toS)).length ≤ 100 := l
        omega
def tab_Light___repr__ : Cl → Option Ct
  | .Light => some c_Light___repr__
  | _ => none
/-! ### Light.__or__ -/
def c_Light___or__ : Ct := fun as q _ => ∃ m n : Int, as = [lt m, lt n] ∧ (0 ≤ m ∧ m < 64) ∧ (0 ≤ n ∧ n < 64) ∧ q (lt (Builtin.bitOr m n))
theorem len_Light___or__ : ∀ as q z, c_Light___or__ as q z → as.length = 2 := fun as q z ⟨m, n, e, _⟩ => by rw [e] <;> rfl
def d_Light___or__ : DS := (dRet (dCm Cl.Light c_Light_numbered (dC (.cls Cl.Light)) (dCons (dOp fOrI (dUn (fAttr hs "number") (dVar 0)) (dUn (fAttr hs "number") (dVar 1))) dNil)))

theorem pure_Light___or__ : ∀ as q z, c_Light___or__ as q z → d_Light___or__ (endsOf q z) (startE 2 as) := by
  rintro as q z ⟨m, n, rfl, hm, hn, h⟩
  repeat (first | refine ⟨_, rfl, ?_⟩ | refine ⟨_, _, rfl, rfl, ?_⟩ | refine ⟨_, _, _, rfl, rfl, ?_⟩ | refine ⟨_, _, _, rfl, by decide, rfl, ?_⟩ | refine ⟨_, _, rfl, rfl, rfl, ?_⟩ | refine iteT ?_ | refine iteF ?_ | refine ⟨show (0 : Int) < _ from by decide, ?_⟩ | refine ⟨show (0 : Int) ≤ _ from by decide, ?_⟩ | refine ⟨⟨by decide, by decide, by decide⟩, ?_⟩ | refine ⟨rfl, ?_⟩ | refine ⟨Nat.le_of_ble_eq_true rfl, ?_⟩ | refine ⟨_, _, rfl, ?_⟩ | refine ⟨_, _, _, _, rfl, rfl, rfl, ?_⟩ | refine ⟨by assumption, ?_⟩ | refine ⟨by decide, by decide, ?_⟩ | refine ⟨_, _, _, rfl, rfl, rfl, ?_⟩ | refine ⟨⟨_, rfl⟩, ?_⟩ | refine .inl ⟨_, _, rfl, ?_⟩ | refine .inr ⟨_, _, rfl, rfl, ?_⟩ | refine iteNS rfl ?_ | refine iteS rfl ?_)
  rw [if_pos (all2 (p := fun m n => (0 ≤ Builtin.bitOr m n ∧ Builtin.bitOr m n < 64)) (by decide +kernel) hm hn)]
  exact h
def tab_Light___or__ : Cl → Option Ct
  | .Light => some c_Light___or__
  | _ => none
/-! ### law -/

def p_law_19 : DS := (dRet (dAndV (dCall c__law_is (dCons (dMeth tab_Light_within (dVar 5) (dCons (dVar 6) dNil)) (dCons (dOp fEqS (dOp fAndI (dVar 2) (dVar 3)) (dVar 2)) dNil))) (dCall c__law_is (dCons (dOp (fOwnEq hs tab_Light___eq__) (dOwn tab_Light___or__ (dVar 5) (dVar 11)) (dVar 11)) (dCons (dOp fEqS (dOp fAndI (dVar 2) (dVar 10)) (dVar 2)) dNil)))))
def d_law_19 : DS := p_law_19
def p_law_18 : DS := (dIfS (dOr (dNot (dB (dCall c__law_is (dCons (dMeth tab_Light_within (dVar 5) (dCons (dVar 11) dNil)) (dCons (dOp fEqS (dOp fAndI (dVar 2) (dVar 10)) (dVar 2)) dNil))))) (dNot (dB (dCall c__law_is (dCons (dOp (fOwnEq hs tab_Light___eq__) (dVar 5) (dVar 11)) (dCons (dOp fEqS (dVar 2) (dVar 10)) dNil)))))) (dRet (dC (.bl false))) dNext)
def d_law_18 : DS := dSeq p_law_18 d_law_19
def p_law_17 : DS := (dSet 11 (dCm Cl.Light c_Light_numbered (dC (.cls Cl.Light)) (dCons (dVar 10) dNil)))
def d_law_17 : DS := dSeq p_law_17 d_law_18
def p_law_16 : DS := (dSet 10 (dOp fOrI (dCall c__law_draw (dCons (dVar 1) (dCons (dC (.int 64)) dNil))) (dOp fAndI (dVar 3) (dVar 2))))
def d_law_16 : DS := dSeq p_law_16 d_law_17
def p_law_15 : DS := (dIfS (dNot (dB (dCall c__law_same_text (dCons (dB1 (fOwn1 tab_Light___repr__ okStr) (dCons (dVar 5) dNil)) (dCons (dOp fAddS (dOp fAddS (dC (.str "Light(")) (dJoin (dC (.str ", ")) (dLst (lComp (.one 9) [9] (iLst (dVar 8)) dYes (dB1 fStrI (dCons (dVar 9) dNil)))))) (dC (.str ")"))) dNil))))) (dRet (dC (.bl false))) dNext)
def d_law_15 : DS := dSeq p_law_15 d_law_16
def p_law_14 : DS := (dIfS (dNot (dB (dCall c__law_same_text (dCons (dB1 (fOwn1 tab_Light___str__ okStr) (dCons (dVar 5) dNil)) (dCons (dCall c__law_word (dCons (dVar 2) dNil)) dNil))))) (dRet (dC (.bl false))) dNext)
def d_law_14 : DS := dSeq p_law_14 d_law_15
def p_law_13 : DS := (dIfS (dOr (dB (dOp (fIsB true) (dOp (fOwnEq hs tab_Light___eq__) (dVar 5) (dUn (fAttr hs "bands") (dVar 5))) (dC (.bl false)))) (dOr (dB (dOp (fIsB true) (dOp (fOwnEq hs tab_Light___eq__) (dVar 5) (dC (.str "0"))) (dC (.bl false)))) (dB (dOp (fOwnEq hs tab_Light___eq__) (dVar 5) (dVar 2))))) (dRet (dC (.bl false))) dNext)
def d_law_13 : DS := dSeq p_law_13 d_law_14
def p_law_12 : DS := (dIfS (dOr (dNot (dB (dCall c__law_is (dCons (dMeth tab_Light_within (dVar 5) (dCons (dVar 6) dNil)) (dCons (dOp fEqS (dOp fAndI (dVar 2) (dVar 3)) (dVar 2)) dNil))))) (dNot (dB (dCall c__law_is (dCons (dMeth tab_Light_within (dVar 6) (dCons (dVar 5) dNil)) (dCons (dOp fEqS (dOp fAndI (dVar 2) (dVar 3)) (dVar 3)) dNil)))))) (dRet (dC (.bl false))) dNext)
def d_law_12 : DS := dSeq p_law_12 d_law_13
def p_law_11 : DS := (dIfS (dOr (dNot (dB (dCall c__law_is (dCons (dB1 (fOwn1 tab_Light___bool__ okBl) (dCons (dVar 5) dNil)) (dCons (dOp fGt (dVar 2) (dC (.int 0))) dNil))))) (dOr (dNot (dB (dCall c__law_is (dCons (dOp (fOwnEq hs tab_Light___eq__) (dVar 5) (dVar 6)) (dCons (dOp fEqS (dVar 2) (dVar 3)) dNil))))) (dNot (dB (dCall c__law_is (dCons (dOp (fOwnEq hs tab_Light___eq__) (dVar 6) (dVar 5)) (dCons (dOp fEqS (dVar 2) (dVar 3)) dNil))))))) (dRet (dC (.bl false))) dNext)
def d_law_11 : DS := dSeq p_law_11 d_law_12
def p_law_10 : DS := (dIfS (dOr (dNot (dB (dCall c__law_is (dCons (dOp (fOwnIn tab_Light___contains__) (dVar 7) (dVar 5)) (dCons (dOp (fIn false) (dVar 7) (dVar 8)) dNil))))) (dNot (dB (dCall c__law_int (dCons (dB1 (fOwn1 tab_Light___len__ okLen) (dCons (dVar 5) dNil)) (dCons (dB1 fLen (dCons (dVar 8) dNil)) dNil)))))) (dRet (dC (.bl false))) dNext)
def d_law_10 : DS := dSeq p_law_10 d_law_11
def p_law_9 : DS := (dSet 8 (dCall c__law_bands (dCons (dVar 2) dNil)))
def d_law_9 : DS := dSeq p_law_9 d_law_10
def p_law_8 : DS := (dIfS (dB (dOp fEqS (dCall c__law_draw (dCons (dVar 1) (dCons (dC (.int 5)) dNil))) (dC (.int 4)))) (dSet 7 (dCall c__law_draw (dCons (dVar 1) (dCons (dOp fPowI (dC (.int 10)) (dC (.int 20))) dNil)))) dNext)
def d_law_8 : DS := dSeq p_law_8 d_law_9
def p_law_7 : DS := (dSet 7 (dOp fSubI (dCall c__law_draw (dCons (dVar 1) (dCons (dC (.int 11)) dNil))) (dC (.int 2))))
def d_law_7 : DS := dSeq p_law_7 d_law_8
def p_law_6 : DS := (dSet 6 (dCm Cl.Light c_Light_numbered (dC (.cls Cl.Light)) (dCons (dVar 3) dNil)))
def d_law_6 : DS := dSeq p_law_6 d_law_7
def p_law_5 : DS := (dSet 5 (dCm Cl.Light c_Light_numbered (dC (.cls Cl.Light)) (dCons (dVar 2) dNil)))
def d_law_5 : DS := dSeq p_law_5 d_law_6
def p_law_4 : DS := (dIfS (dB (dOp fEqS (dVar 4) (dC (.int 2)))) (dSet 3 (dOp fAndI (dVar 3) (dVar 2))) dNext)
def d_law_4 : DS := dSeq p_law_4 d_law_5
def p_law_3 : DS := (dIfS (dB (dOp fEqS (dVar 4) (dC (.int 1)))) (dSet 3 (dVar 2)) dNext)
def d_law_3 : DS := dSeq p_law_3 d_law_4
def p_law_2 : DS := (dSet 4 (dCall c__law_draw (dCons (dVar 1) (dCons (dC (.int 4)) dNil))))
def d_law_2 : DS := dSeq p_law_2 d_law_3
def p_law_1 : DS := (dSet 3 (dCall c__law_draw (dCons (dVar 1) (dCons (dC (.int 64)) dNil))))
def d_law_1 : DS := dSeq p_law_1 d_law_2
def p_law_0 : DS := (dSet 2 (dCall c__law_draw (dCons (dVar 1) (dCons (dC (.int 64)) dNil))))
def d_law : DS := dSeq p_law_0 d_law_1

theorem bl_comm (m n : Int) : isBl (.bl (decide (n = m))) (decide (m = n)) = true := by
  unfold isBl
  by_cases h : m = n
  · subst h; simp
  · have h2 : ¬ n = m := fun z => h z.symm
    simp [h, h2]
theorem bl_and {m n : Int} (hm : 0 ≤ m ∧ m < 64) (hn : 0 ≤ n ∧ n < 64) : isBl (.bl (decide (Builtin.bitAnd n m = n))) (decide (Builtin.bitAnd m n = n)) = true := by
  rw [bitAnd_comm hm hn]
  exact decide_eq_true rfl
theorem or_and {m n : Int} (hm : 0 ≤ m ∧ m < 64) (hn : 0 ≤ n ∧ n < 64) : isBl (.bl (decide (Builtin.bitOr m n = n))) (decide (Builtin.bitAnd m n = m)) = true := all2 (p := fun m n => isBl (.bl (decide (Builtin.bitOr m n = n))) (decide (Builtin.bitAnd m n = m)) = true) (by decide +kernel) hm hn
theorem iteNB {c : Bool} {A B : Prop} (hc : c = true) (h : B) : if (!c) = true then A else B := by subst hc; exact h
theorem tail9 {m n : Int} (hm : 0 ≤ m ∧ m < 64) (hn : 0 ≤ n ∧ n < 64) (b : Int) (w : Option Slot) : d_law_9 lawEnds [none, some (.val .box), some (.val (.int m)), some (.val (.int n)), w, some (.val (lt m)), some (.val (lt n)), some (.val (.int b)), none, none, none, none] := by
  repeat (first | refine ⟨_, rfl, ?_⟩ | refine ⟨_, _, rfl, rfl, ?_⟩ | refine ⟨_, _, _, rfl, rfl, ?_⟩ | refine ⟨_, _, _, rfl, by decide, rfl, ?_⟩ | refine ⟨_, _, rfl, rfl, rfl, ?_⟩ | refine iteT ?_ | refine iteF ?_ | refine ⟨show (0 : Int) < _ from by decide, ?_⟩ | refine ⟨show (0 : Int) ≤ _ from by decide, ?_⟩ | refine ⟨⟨by decide, by decide, by decide⟩, ?_⟩ | refine ⟨rfl, ?_⟩ | refine ⟨Nat.le_of_ble_eq_true rfl, ?_⟩ | refine ⟨_, _, rfl, ?_⟩ | refine ⟨_, _, _, _, rfl, rfl, rfl, ?_⟩ | refine ⟨by assumption, ?_⟩ | refine ⟨by decide, by decide, ?_⟩ | refine ⟨_, _, _, rfl, rfl, rfl, ?_⟩ | refine ⟨⟨_, rfl⟩, ?_⟩ | refine .inl ⟨_, _, rfl, ?_⟩ | refine .inr ⟨_, _, rfl, rfl, ?_⟩ | refine iteNS rfl ?_ | refine iteS rfl ?_)
  refine ⟨flat_bands m, ?_⟩
  repeat (first | refine ⟨_, rfl, ?_⟩ | refine ⟨_, _, rfl, rfl, ?_⟩ | refine ⟨_, _, _, rfl, rfl, ?_⟩ | refine ⟨_, _, _, rfl, by decide, rfl, ?_⟩ | refine ⟨_, _, rfl, rfl, rfl, ?_⟩ | refine iteT ?_ | refine iteF ?_ | refine ⟨show (0 : Int) < _ from by decide, ?_⟩ | refine ⟨show (0 : Int) ≤ _ from by decide, ?_⟩ | refine ⟨⟨by decide, by decide, by decide⟩, ?_⟩ | refine ⟨rfl, ?_⟩ | refine ⟨Nat.le_of_ble_eq_true rfl, ?_⟩ | refine ⟨_, _, rfl, ?_⟩ | refine ⟨_, _, _, _, rfl, rfl, rfl, ?_⟩ | refine ⟨by assumption, ?_⟩ | refine ⟨by decide, by decide, ?_⟩ | refine ⟨_, _, _, rfl, rfl, rfl, ?_⟩ | refine ⟨⟨_, rfl⟩, ?_⟩ | refine .inl ⟨_, _, rfl, ?_⟩ | refine .inr ⟨_, _, rfl, rfl, ?_⟩ | refine iteNS rfl ?_ | refine iteS rfl ?_)
  refine ⟨⟨_, rfl, by omega, by have := bands_len m; omega⟩, ?_⟩
  repeat (first | refine ⟨_, rfl, ?_⟩ | refine ⟨_, _, rfl, rfl, ?_⟩ | refine ⟨_, _, _, rfl, rfl, ?_⟩ | refine ⟨_, _, _, rfl, by decide, rfl, ?_⟩ | refine ⟨_, _, rfl, rfl, rfl, ?_⟩ | refine iteT ?_ | refine iteF ?_ | refine ⟨show (0 : Int) < _ from by decide, ?_⟩ | refine ⟨show (0 : Int) ≤ _ from by decide, ?_⟩ | refine ⟨⟨by decide, by decide, by decide⟩, ?_⟩ | refine ⟨rfl, ?_⟩ | refine ⟨Nat.le_of_ble_eq_true rfl, ?_⟩ | refine ⟨_, _, rfl, ?_⟩ | refine ⟨_, _, _, _, rfl, rfl, rfl, ?_⟩ | refine ⟨by assumption, ?_⟩ | refine ⟨by decide, by decide, ?_⟩ | refine ⟨_, _, _, rfl, rfl, rfl, ?_⟩ | refine ⟨⟨_, rfl⟩, ?_⟩ | refine .inl ⟨_, _, rfl, ?_⟩ | refine .inr ⟨_, _, rfl, rfl, ?_⟩ | refine iteNS rfl ?_ | refine iteS rfl ?_)
  refine iteNB (bl_comm m n) ?_
  repeat (first | refine ⟨_, rfl, ?_⟩ | refine ⟨_, _, rfl, rfl, ?_⟩ | refine ⟨_, _, _, rfl, rfl, ?_⟩ | refine ⟨_, _, _, rfl, by decide, rfl, ?_⟩ | refine ⟨_, _, rfl, rfl, rfl, ?_⟩ | refine iteT ?_ | refine iteF ?_ | refine ⟨show (0 : Int) < _ from by decide, ?_⟩ | refine ⟨show (0 : Int) ≤ _ from by decide, ?_⟩ | refine ⟨⟨by decide, by decide, by decide⟩, ?_⟩ | refine ⟨rfl, ?_⟩ | refine ⟨Nat.le_of_ble_eq_true rfl, ?_⟩ | refine ⟨_, _, rfl, ?_⟩ | refine ⟨_, _, _, _, rfl, rfl, rfl, ?_⟩ | refine ⟨by assumption, ?_⟩ | refine ⟨by decide, by decide, ?_⟩ | refine ⟨_, _, _, rfl, rfl, rfl, ?_⟩ | refine ⟨⟨_, rfl⟩, ?_⟩ | refine .inl ⟨_, _, rfl, ?_⟩ | refine .inr ⟨_, _, rfl, rfl, ?_⟩ | refine iteNS rfl ?_ | refine iteS rfl ?_)
  refine iteNB (bl_and hm hn) ?_
  repeat (first | refine ⟨_, rfl, ?_⟩ | refine ⟨_, _, rfl, rfl, ?_⟩ | refine ⟨_, _, _, rfl, rfl, ?_⟩ | refine ⟨_, _, _, rfl, by decide, rfl, ?_⟩ | refine ⟨_, _, rfl, rfl, rfl, ?_⟩ | refine iteT ?_ | refine iteF ?_ | refine ⟨show (0 : Int) < _ from by decide, ?_⟩ | refine ⟨show (0 : Int) ≤ _ from by decide, ?_⟩ | refine ⟨⟨by decide, by decide, by decide⟩, ?_⟩ | refine ⟨rfl, ?_⟩ | refine ⟨Nat.le_of_ble_eq_true rfl, ?_⟩ | refine ⟨_, _, rfl, ?_⟩ | refine ⟨_, _, _, _, rfl, rfl, rfl, ?_⟩ | refine ⟨by assumption, ?_⟩ | refine ⟨by decide, by decide, ?_⟩ | refine ⟨_, _, _, rfl, rfl, rfl, ?_⟩ | refine ⟨⟨_, rfl⟩, ?_⟩ | refine .inl ⟨_, _, rfl, ?_⟩ | refine .inr ⟨_, _, rfl, rfl, ?_⟩ | refine iteNS rfl ?_ | refine iteS rfl ?_)
  refine ⟨Nat.le_trans (bands_len m) (by decide), ?_⟩
  refine lcD_map strG _ _ (fun x hx k hk => ?_) ?_
  · obtain ⟨i, rfl, hi⟩ := bands_log hx
    exact ⟨_, rfl, i, rfl, hi, hk⟩
  · rw [List.nil_append, strG_map]
    have l := okR_all hm
    have l1 : ("Light(" : Str).length = 6 := by decide
    have l2 : (")" : Str).length = 1 := by decide
    refine ⟨_, .inl rfl, okJ_le (okJ_com hm), ?_, ?_, ?_⟩
    · rw [l1, sizeLine_eq]
      have : (Txt.join ", " ((bandsI m).map toS)).length ≤ 100 := l
      omega
    · rw [len_app, l1, l2, sizeLine_eq]
      have : (Txt.join ", " ((bandsI m).map toS)).length ≤ 100 := l
      omega
    · refine ⟨_, _, rfl, rfl, _, rfl, iteNB (decide_eq_true (congrArg (fun x : Str => x ++ joinB ", " m ++ (")" : Str)) (by decide))) ?_⟩
      repeat (first | refine ⟨_, rfl, ?_⟩ | refine ⟨_, _, rfl, rfl, ?_⟩ | refine ⟨_, _, _, rfl, rfl, ?_⟩ | refine ⟨_, _, _, rfl, by decide, rfl, ?_⟩ | refine ⟨_, _, rfl, rfl, rfl, ?_⟩ | refine iteT ?_ | refine iteF ?_ | refine ⟨show (0 : Int) < _ from by decide, ?_⟩ | refine ⟨show (0 : Int) ≤ _ from by decide, ?_⟩ | refine ⟨⟨by decide, by decide, by decide⟩, ?_⟩ | refine ⟨rfl, ?_⟩ | refine ⟨Nat.le_of_ble_eq_true rfl, ?_⟩ | refine ⟨_, _, rfl, ?_⟩ | refine ⟨_, _, _, _, rfl, rfl, rfl, ?_⟩ | refine ⟨by assumption, ?_⟩ | refine ⟨by decide, by decide, ?_⟩ | refine ⟨_, _, _, rfl, rfl, rfl, ?_⟩ | refine ⟨⟨_, rfl⟩, ?_⟩ | refine .inl ⟨_, _, rfl, ?_⟩ | refine .inr ⟨_, _, rfl, rfl, ?_⟩ | refine iteNS rfl ?_ | refine iteS rfl ?_)
      intro r r0 r1
      repeat (first | refine ⟨_, rfl, ?_⟩ | refine ⟨_, _, rfl, rfl, ?_⟩ | refine ⟨_, _, _, rfl, rfl, ?_⟩ | refine ⟨_, _, _, rfl, by decide, rfl, ?_⟩ | refine ⟨_, _, rfl, rfl, rfl, ?_⟩ | refine iteT ?_ | refine iteF ?_ | refine ⟨show (0 : Int) < _ from by decide, ?_⟩ | refine ⟨show (0 : Int) ≤ _ from by decide, ?_⟩ | refine ⟨⟨by decide, by decide, by decide⟩, ?_⟩ | refine ⟨rfl, ?_⟩ | refine ⟨Nat.le_of_ble_eq_true rfl, ?_⟩ | refine ⟨_, _, rfl, ?_⟩ | refine ⟨_, _, _, _, rfl, rfl, rfl, ?_⟩ | refine ⟨by assumption, ?_⟩ | refine ⟨by decide, by decide, ?_⟩ | refine ⟨_, _, _, rfl, rfl, rfl, ?_⟩ | refine ⟨⟨_, rfl⟩, ?_⟩ | refine .inl ⟨_, _, rfl, ?_⟩ | refine .inr ⟨_, _, rfl, rfl, ?_⟩ | refine iteNS rfl ?_ | refine iteS rfl ?_)
      have ha : 0 ≤ Builtin.bitAnd n m ∧ Builtin.bitAnd n m < 64 := all2 (p := fun m n => 0 ≤ Builtin.bitAnd m n ∧ Builtin.bitAnd m n < 64) (by decide +kernel) hn hm
      have h3 : 0 ≤ Builtin.bitOr r (Builtin.bitAnd n m) ∧ Builtin.bitOr r (Builtin.bitAnd n m) < 64 := all2 (p := fun m n => 0 ≤ Builtin.bitOr m n ∧ Builtin.bitOr m n < 64) (by decide +kernel) ⟨r0, r1⟩ ha
      rw [if_pos h3]
      repeat (first | refine ⟨_, rfl, ?_⟩ | refine ⟨_, _, rfl, rfl, ?_⟩ | refine ⟨_, _, _, rfl, rfl, ?_⟩ | refine ⟨_, _, _, rfl, by decide, rfl, ?_⟩ | refine ⟨_, _, rfl, rfl, rfl, ?_⟩ | refine iteT ?_ | refine iteF ?_ | refine ⟨show (0 : Int) < _ from by decide, ?_⟩ | refine ⟨show (0 : Int) ≤ _ from by decide, ?_⟩ | refine ⟨⟨by decide, by decide, by decide⟩, ?_⟩ | refine ⟨rfl, ?_⟩ | refine ⟨Nat.le_of_ble_eq_true rfl, ?_⟩ | refine ⟨_, _, rfl, ?_⟩ | refine ⟨_, _, _, _, rfl, rfl, rfl, ?_⟩ | refine ⟨by assumption, ?_⟩ | refine ⟨by decide, by decide, ?_⟩ | refine ⟨_, _, _, rfl, rfl, rfl, ?_⟩ | refine ⟨⟨_, rfl⟩, ?_⟩ | refine .inl ⟨_, _, rfl, ?_⟩ | refine .inr ⟨_, _, rfl, rfl, ?_⟩ | refine iteNS rfl ?_ | refine iteS rfl ?_)
      exact congrArg PV.bl (or_and hm h3)
theorem mid7 {m n : Int} (hm : 0 ≤ m ∧ m < 64) (hn : 0 ≤ n ∧ n < 64) (w : Option Slot) : d_law_7 lawEnds [none, some (.val .box), some (.val (.int m)), some (.val (.int n)), w, some (.val (lt m)), some (.val (lt n)), none, none, none, none, none] := by
  repeat (first | refine ⟨_, rfl, ?_⟩ | refine ⟨_, _, rfl, rfl, ?_⟩ | refine ⟨_, _, _, rfl, rfl, ?_⟩ | refine ⟨_, _, _, rfl, by decide, rfl, ?_⟩ | refine ⟨_, _, rfl, rfl, rfl, ?_⟩ | refine iteT ?_ | refine iteF ?_ | refine ⟨show (0 : Int) < _ from by decide, ?_⟩ | refine ⟨show (0 : Int) ≤ _ from by decide, ?_⟩ | refine ⟨⟨by decide, by decide, by decide⟩, ?_⟩ | refine ⟨rfl, ?_⟩ | refine ⟨Nat.le_of_ble_eq_true rfl, ?_⟩ | refine ⟨_, _, rfl, ?_⟩ | refine ⟨_, _, _, _, rfl, rfl, rfl, ?_⟩ | refine ⟨by assumption, ?_⟩ | refine ⟨by decide, by decide, ?_⟩ | refine ⟨_, _, _, rfl, rfl, rfl, ?_⟩ | refine ⟨⟨_, rfl⟩, ?_⟩ | refine .inl ⟨_, _, rfl, ?_⟩ | refine .inr ⟨_, _, rfl, rfl, ?_⟩ | refine iteNS rfl ?_ | refine iteS rfl ?_)
  intro r r0 r1
  repeat (first | refine ⟨_, rfl, ?_⟩ | refine ⟨_, _, rfl, rfl, ?_⟩ | refine ⟨_, _, _, rfl, rfl, ?_⟩ | refine ⟨_, _, _, rfl, by decide, rfl, ?_⟩ | refine ⟨_, _, rfl, rfl, rfl, ?_⟩ | refine iteT ?_ | refine iteF ?_ | refine ⟨show (0 : Int) < _ from by decide, ?_⟩ | refine ⟨show (0 : Int) ≤ _ from by decide, ?_⟩ | refine ⟨⟨by decide, by decide, by decide⟩, ?_⟩ | refine ⟨rfl, ?_⟩ | refine ⟨Nat.le_of_ble_eq_true rfl, ?_⟩ | refine ⟨_, _, rfl, ?_⟩ | refine ⟨_, _, _, _, rfl, rfl, rfl, ?_⟩ | refine ⟨by assumption, ?_⟩ | refine ⟨by decide, by decide, ?_⟩ | refine ⟨_, _, _, rfl, rfl, rfl, ?_⟩ | refine ⟨⟨_, rfl⟩, ?_⟩ | refine .inl ⟨_, _, rfl, ?_⟩ | refine .inr ⟨_, _, rfl, rfl, ?_⟩ | refine iteNS rfl ?_ | refine iteS rfl ?_)
  intro r2 r3 r4
  repeat (first | refine ⟨_, rfl, ?_⟩ | refine ⟨_, _, rfl, rfl, ?_⟩ | refine ⟨_, _, _, rfl, rfl, ?_⟩ | refine ⟨_, _, _, rfl, by decide, rfl, ?_⟩ | refine ⟨_, _, rfl, rfl, rfl, ?_⟩ | refine iteT ?_ | refine iteF ?_ | refine ⟨show (0 : Int) < _ from by decide, ?_⟩ | refine ⟨show (0 : Int) ≤ _ from by decide, ?_⟩ | refine ⟨⟨by decide, by decide, by decide⟩, ?_⟩ | refine ⟨rfl, ?_⟩ | refine ⟨Nat.le_of_ble_eq_true rfl, ?_⟩ | refine ⟨_, _, rfl, ?_⟩ | refine ⟨_, _, _, _, rfl, rfl, rfl, ?_⟩ | refine ⟨by assumption, ?_⟩ | refine ⟨by decide, by decide, ?_⟩ | refine ⟨_, _, _, rfl, rfl, rfl, ?_⟩ | refine ⟨⟨_, rfl⟩, ?_⟩ | refine .inl ⟨_, _, rfl, ?_⟩ | refine .inr ⟨_, _, rfl, rfl, ?_⟩ | refine iteNS rfl ?_ | refine iteS rfl ?_)
  refine ite2 (fun e => ?_) fun e => ?_
  · repeat (first | refine ⟨_, rfl, ?_⟩ | refine ⟨_, _, rfl, rfl, ?_⟩ | refine ⟨_, _, _, rfl, rfl, ?_⟩ | refine ⟨_, _, _, rfl, by decide, rfl, ?_⟩ | refine ⟨_, _, rfl, rfl, rfl, ?_⟩ | refine iteT ?_ | refine iteF ?_ | refine ⟨show (0 : Int) < _ from by decide, ?_⟩ | refine ⟨show (0 : Int) ≤ _ from by decide, ?_⟩ | refine ⟨⟨by decide, by decide, by decide⟩, ?_⟩ | refine ⟨rfl, ?_⟩ | refine ⟨Nat.le_of_ble_eq_true rfl, ?_⟩ | refine ⟨_, _, rfl, ?_⟩ | refine ⟨_, _, _, _, rfl, rfl, rfl, ?_⟩ | refine ⟨by assumption, ?_⟩ | refine ⟨by decide, by decide, ?_⟩ | refine ⟨_, _, _, rfl, rfl, rfl, ?_⟩ | refine ⟨⟨_, rfl⟩, ?_⟩ | refine .inl ⟨_, _, rfl, ?_⟩ | refine .inr ⟨_, _, rfl, rfl, ?_⟩ | refine iteNS rfl ?_ | refine iteS rfl ?_)
    intro b _ _
    exact tail9 hm hn b w
  · exact tail9 hm hn _ w
theorem pure_law : d_law lawEnds (lawE 10) := by
  refine ⟨_, rfl, 64, rfl, by decide, by decide, fun m m0 m1 => ?_⟩
  refine ⟨_, rfl, 64, rfl, by decide, by decide, fun n n0 n1 => ?_⟩
  have hm : 0 ≤ m ∧ m < 64 := ⟨m0, m1⟩
  have hn : 0 ≤ n ∧ n < 64 := ⟨n0, n1⟩
  have ha : 0 ≤ Builtin.bitAnd n m ∧ Builtin.bitAnd n m < 64 := all2 (p := fun m n => 0 ≤ Builtin.bitAnd m n ∧ Builtin.bitAnd m n < 64) (by decide +kernel) hn hm
  refine ⟨_, rfl, 4, rfl, by decide, by decide, fun way w0 w1 => ?_⟩
  repeat (first | refine ⟨_, rfl, ?_⟩ | refine ⟨_, _, rfl, rfl, ?_⟩ | refine ⟨_, _, _, rfl, rfl, ?_⟩ | refine ⟨_, _, _, rfl, by decide, rfl, ?_⟩ | refine ⟨_, _, rfl, rfl, rfl, ?_⟩ | refine iteT ?_ | refine iteF ?_ | refine ⟨show (0 : Int) < _ from by decide, ?_⟩ | refine ⟨show (0 : Int) ≤ _ from by decide, ?_⟩ | refine ⟨⟨by decide, by decide, by decide⟩, ?_⟩ | refine ⟨rfl, ?_⟩ | refine ⟨Nat.le_of_ble_eq_true rfl, ?_⟩ | refine ⟨_, _, rfl, ?_⟩ | refine ⟨_, _, _, _, rfl, rfl, rfl, ?_⟩ | refine ⟨by assumption, ?_⟩ | refine ⟨by decide, by decide, ?_⟩ | refine ⟨_, _, _, rfl, rfl, rfl, ?_⟩ | refine ⟨⟨_, rfl⟩, ?_⟩ | refine .inl ⟨_, _, rfl, ?_⟩ | refine .inr ⟨_, _, rfl, rfl, ?_⟩ | refine iteNS rfl ?_ | refine iteS rfl ?_)
  refine ite2 (fun e => ?_) fun e => ?_
  · have e := of_decide_eq_true e
    subst e
    repeat (first | refine ⟨_, rfl, ?_⟩ | refine ⟨_, _, rfl, rfl, ?_⟩ | refine ⟨_, _, _, rfl, rfl, ?_⟩ | refine ⟨_, _, _, rfl, by decide, rfl, ?_⟩ | refine ⟨_, _, rfl, rfl, rfl, ?_⟩ | refine iteT ?_ | refine iteF ?_ | refine ⟨show (0 : Int) < _ from by decide, ?_⟩ | refine ⟨show (0 : Int) ≤ _ from by decide, ?_⟩ | refine ⟨⟨by decide, by decide, by decide⟩, ?_⟩ | refine ⟨rfl, ?_⟩ | refine ⟨Nat.le_of_ble_eq_true rfl, ?_⟩ | refine ⟨_, _, rfl, ?_⟩ | refine ⟨_, _, _, _, rfl, rfl, rfl, ?_⟩ | refine ⟨by assumption, ?_⟩ | refine ⟨by decide, by decide, ?_⟩ | refine ⟨_, _, _, rfl, rfl, rfl, ?_⟩ | refine ⟨⟨_, rfl⟩, ?_⟩ | refine .inl ⟨_, _, rfl, ?_⟩ | refine .inr ⟨_, _, rfl, rfl, ?_⟩ | refine iteNS rfl ?_ | refine iteS rfl ?_)
    rw [if_pos hm]
    repeat (first | refine ⟨_, rfl, ?_⟩ | refine ⟨_, _, rfl, rfl, ?_⟩ | refine ⟨_, _, _, rfl, rfl, ?_⟩ | refine ⟨_, _, _, rfl, by decide, rfl, ?_⟩ | refine ⟨_, _, rfl, rfl, rfl, ?_⟩ | refine iteT ?_ | refine iteF ?_ | refine ⟨show (0 : Int) < _ from by decide, ?_⟩ | refine ⟨show (0 : Int) ≤ _ from by decide, ?_⟩ | refine ⟨⟨by decide, by decide, by decide⟩, ?_⟩ | refine ⟨rfl, ?_⟩ | refine ⟨Nat.le_of_ble_eq_true rfl, ?_⟩ | refine ⟨_, _, rfl, ?_⟩ | refine ⟨_, _, _, _, rfl, rfl, rfl, ?_⟩ | refine ⟨by assumption, ?_⟩ | refine ⟨by decide, by decide, ?_⟩ | refine ⟨_, _, _, rfl, rfl, rfl, ?_⟩ | refine ⟨⟨_, rfl⟩, ?_⟩ | refine .inl ⟨_, _, rfl, ?_⟩ | refine .inr ⟨_, _, rfl, rfl, ?_⟩ | refine iteNS rfl ?_ | refine iteS rfl ?_)
    rw [if_pos hm]
    exact mid7 hm hm _
  · repeat (first | refine ⟨_, rfl, ?_⟩ | refine ⟨_, _, rfl, rfl, ?_⟩ | refine ⟨_, _, _, rfl, rfl, ?_⟩ | refine ⟨_, _, _, rfl, by decide, rfl, ?_⟩ | refine ⟨_, _, rfl, rfl, rfl, ?_⟩ | refine iteT ?_ | refine iteF ?_ | refine ⟨show (0 : Int) < _ from by decide, ?_⟩ | refine ⟨show (0 : Int) ≤ _ from by decide, ?_⟩ | refine ⟨⟨by decide, by decide, by decide⟩, ?_⟩ | refine ⟨rfl, ?_⟩ | refine ⟨Nat.le_of_ble_eq_true rfl, ?_⟩ | refine ⟨_, _, rfl, ?_⟩ | refine ⟨_, _, _, _, rfl, rfl, rfl, ?_⟩ | refine ⟨by assumption, ?_⟩ | refine ⟨by decide, by decide, ?_⟩ | refine ⟨_, _, _, rfl, rfl, rfl, ?_⟩ | refine ⟨⟨_, rfl⟩, ?_⟩ | refine .inl ⟨_, _, rfl, ?_⟩ | refine .inr ⟨_, _, rfl, rfl, ?_⟩ | refine iteNS rfl ?_ | refine iteS rfl ?_)
    refine ite2 (fun e2 => ?_) fun e2 => ?_
    · repeat (first | refine ⟨_, rfl, ?_⟩ | refine ⟨_, _, rfl, rfl, ?_⟩ | refine ⟨_, _, _, rfl, rfl, ?_⟩ | refine ⟨_, _, _, rfl, by decide, rfl, ?_⟩ | refine ⟨_, _, rfl, rfl, rfl, ?_⟩ | refine iteT ?_ | refine iteF ?_ | refine ⟨show (0 : Int) < _ from by decide, ?_⟩ | refine ⟨show (0 : Int) ≤ _ from by decide, ?_⟩ | refine ⟨⟨by decide, by decide, by decide⟩, ?_⟩ | refine ⟨rfl, ?_⟩ | refine ⟨Nat.le_of_ble_eq_true rfl, ?_⟩ | refine ⟨_, _, rfl, ?_⟩ | refine ⟨_, _, _, _, rfl, rfl, rfl, ?_⟩ | refine ⟨by assumption, ?_⟩ | refine ⟨by decide, by decide, ?_⟩ | refine ⟨_, _, _, rfl, rfl, rfl, ?_⟩ | refine ⟨⟨_, rfl⟩, ?_⟩ | refine .inl ⟨_, _, rfl, ?_⟩ | refine .inr ⟨_, _, rfl, rfl, ?_⟩ | refine iteNS rfl ?_ | refine iteS rfl ?_)
      rw [if_pos hm]
      repeat (first | refine ⟨_, rfl, ?_⟩ | refine ⟨_, _, rfl, rfl, ?_⟩ | refine ⟨_, _, _, rfl, rfl, ?_⟩ | refine ⟨_, _, _, rfl, by decide, rfl, ?_⟩ | refine ⟨_, _, rfl, rfl, rfl, ?_⟩ | refine iteT ?_ | refine iteF ?_ | refine ⟨show (0 : Int) < _ from by decide, ?_⟩ | refine ⟨show (0 : Int) ≤ _ from by decide, ?_⟩ | refine ⟨⟨by decide, by decide, by decide⟩, ?_⟩ | refine ⟨rfl, ?_⟩ | refine ⟨Nat.le_of_ble_eq_true rfl, ?_⟩ | refine ⟨_, _, rfl, ?_⟩ | refine ⟨_, _, _, _, rfl, rfl, rfl, ?_⟩ | refine ⟨by assumption, ?_⟩ | refine ⟨by decide, by decide, ?_⟩ | refine ⟨_, _, _, rfl, rfl, rfl, ?_⟩ | refine ⟨⟨_, rfl⟩, ?_⟩ | refine .inl ⟨_, _, rfl, ?_⟩ | refine .inr ⟨_, _, rfl, rfl, ?_⟩ | refine iteNS rfl ?_ | refine iteS rfl ?_)
      rw [if_pos ha]
      exact mid7 hm ha _
    · repeat (first | refine ⟨_, rfl, ?_⟩ | refine ⟨_, _, rfl, rfl, ?_⟩ | refine ⟨_, _, _, rfl, rfl, ?_⟩ | refine ⟨_, _, _, rfl, by decide, rfl, ?_⟩ | refine ⟨_, _, rfl, rfl, rfl, ?_⟩ | refine iteT ?_ | refine iteF ?_ | refine ⟨show (0 : Int) < _ from by decide, ?_⟩ | refine ⟨show (0 : Int) ≤ _ from by decide, ?_⟩ | refine ⟨⟨by decide, by decide, by decide⟩, ?_⟩ | refine ⟨rfl, ?_⟩ | refine ⟨Nat.le_of_ble_eq_true rfl, ?_⟩ | refine ⟨_, _, rfl, ?_⟩ | refine ⟨_, _, _, _, rfl, rfl, rfl, ?_⟩ | refine ⟨by assumption, ?_⟩ | refine ⟨by decide, by decide, ?_⟩ | refine ⟨_, _, _, rfl, rfl, rfl, ?_⟩ | refine ⟨⟨_, rfl⟩, ?_⟩ | refine .inl ⟨_, _, rfl, ?_⟩ | refine .inr ⟨_, _, rfl, rfl, ?_⟩ | refine iteNS rfl ?_ | refine iteS rfl ?_)
      rw [if_pos hm]
      repeat (first | refine ⟨_, rfl, ?_⟩ | refine ⟨_, _, rfl, rfl, ?_⟩ | refine ⟨_, _, _, rfl, rfl, ?_⟩ | refine ⟨_, _, _, rfl, by decide, rfl, ?_⟩ | refine ⟨_, _, rfl, rfl, rfl, ?_⟩ | refine iteT ?_ | refine iteF ?_ | refine ⟨show (0 : Int) < _ from by decide, ?_⟩ | refine ⟨show (0 : Int) ≤ _ from by decide, ?_⟩ | refine ⟨⟨by decide, by decide, by decide⟩, ?_⟩ | refine ⟨rfl, ?_⟩ | refine ⟨Nat.le_of_ble_eq_true rfl, ?_⟩ | refine ⟨_, _, rfl, ?_⟩ | refine ⟨_, _, _, _, rfl, rfl, rfl, ?_⟩ | refine ⟨by assumption, ?_⟩ | refine ⟨by decide, by decide, ?_⟩ | refine ⟨_, _, _, rfl, rfl, rfl, ?_⟩ | refine ⟨⟨_, rfl⟩, ?_⟩ | refine .inl ⟨_, _, rfl, ?_⟩ | refine .inr ⟨_, _, rfl, rfl, ?_⟩ | refine iteNS rfl ?_ | refine iteS rfl ?_)
      rw [if_pos hn]
      exact mid7 hm hn _
/-! ### facts -/
def fa : List He.Fa := [.glo "InvalidBand", .glo "Light", .glo "_law_bands", .glo "_law_box", .glo "_law_draw", .glo "_law_int", .glo "_law_is", .glo "_law_same_text", .glo "_law_word", .glo "law", .free "bool", .free "int", .free "isinstance", .free "len", .free "range", .free "repr", .free "str", .free "super", .free "tuple", .mkr "Light", .meth "Light" "__contains__", .meth "Light" "__len__", .meth "Light" "__bool__", .meth "Light" "__eq__", .meth "Light" "within", .meth "Light" "__str__", .meth "Light" "__repr__", .meth "Light" "__or__", .keep "_law_bands", .keep "_law_box", .keep "_law_draw", .keep "_law_int", .keep "_law_is", .keep "_law_same_text", .keep "_law_word", .keep "law"]
def dp__law_box : DefP := { at_ := .glo "_law_box", name := "_law_box", qual := "_law_box", params := defArgs st__law_box, body := defBody st__law_box, scope := defScope st__law_box }
def dp__law_draw : DefP := { at_ := .glo "_law_draw", name := "_law_draw", qual := "_law_draw", params := defArgs st__law_draw, body := defBody st__law_draw, scope := defScope st__law_draw }
def dp_Light___init__ : DefP := { at_ := .meth "Light" "__init__", name := "__init__", qual := "Light.__init__", params := defArgs st_Light___init__, body := defBody st_Light___init__, scope := defScope st_Light___init__ }
def dp_Light_numbered : DefP := { at_ := .cm "Light" "numbered", name := "numbered", qual := "Light.numbered", params := defArgs st_Light_numbered, body := defBody st_Light_numbered, scope := defScope st_Light_numbered }
def dp__law_bands : DefP := { at_ := .glo "_law_bands", name := "_law_bands", qual := "_law_bands", params := defArgs st__law_bands, body := defBody st__law_bands, scope := defScope st__law_bands }
def dp__law_is : DefP := { at_ := .glo "_law_is", name := "_law_is", qual := "_law_is", params := defArgs st__law_is, body := defBody st__law_is, scope := defScope st__law_is }
def dp_Light___contains__ : DefP := { at_ := .meth "Light" "__contains__", name := "__contains__", qual := "Light.__contains__", params := defArgs st_Light___contains__, body := defBody st_Light___contains__, scope := defScope st_Light___contains__ }
def dp__law_int : DefP := { at_ := .glo "_law_int", name := "_law_int", qual := "_law_int", params := defArgs st__law_int, body := defBody st__law_int, scope := defScope st__law_int }
def dp_Light___len__ : DefP := { at_ := .meth "Light" "__len__", name := "__len__", qual := "Light.__len__", params := defArgs st_Light___len__, body := defBody st_Light___len__, scope := defScope st_Light___len__ }
def dp_Light___bool__ : DefP := { at_ := .meth "Light" "__bool__", name := "__bool__", qual := "Light.__bool__", params := defArgs st_Light___bool__, body := defBody st_Light___bool__, scope := defScope st_Light___bool__ }
def dp_Light___eq__ : DefP := { at_ := .meth "Light" "__eq__", name := "__eq__", qual := "Light.__eq__", params := defArgs st_Light___eq__, body := defBody st_Light___eq__, scope := defScope st_Light___eq__ }
def dp_Light_within : DefP := { at_ := .meth "Light" "within", name := "within", qual := "Light.within", params := defArgs st_Light_within, body := defBody st_Light_within, scope := defScope st_Light_within }
def dp__law_same_text : DefP := { at_ := .glo "_law_same_text", name := "_law_same_text", qual := "_law_same_text", params := defArgs st__law_same_text, body := defBody st__law_same_text, scope := defScope st__law_same_text }
def dp__law_word : DefP := { at_ := .glo "_law_word", name := "_law_word", qual := "_law_word", params := defArgs st__law_word, body := defBody st__law_word, scope := defScope st__law_word }
def dp_Light___str__ : DefP := { at_ := .meth "Light" "__str__", name := "__str__", qual := "Light.__str__", params := defArgs st_Light___str__, body := defBody st_Light___str__, scope := defScope st_Light___str__ }
def dp_Light___repr__ : DefP := { at_ := .meth "Light" "__repr__", name := "__repr__", qual := "Light.__repr__", params := defArgs st_Light___repr__, body := defBody st_Light___repr__, scope := defScope st_Light___repr__ }
def dp_Light___or__ : DefP := { at_ := .meth "Light" "__or__", name := "__or__", qual := "Light.__or__", params := defArgs st_Light___or__, body := defBody st_Light___or__, scope := defScope st_Light___or__ }
def dp_law : DefP := { at_ := .glo "law", name := "law", qual := "law", params := defArgs st_law, body := defBody st_law, scope := defScope st_law }
def de_InvalidBand : ErrD := { c := Cl.InvalidBand, f := "band", qual := "InvalidBand.__init__", params := defArgs st_InvalidBand, body := defBody st_InvalidBand, scope := defScope st_InvalidBand }
def moreB (K : Frg) : Bool := cmB K Cl.Light "numbered" && PySem.W.selfFirst K (ca K Cl.Light) && eqB K hs Cl.Light
def want : Want := { n := 5, file := TP.main.file, fa := fa, hs := hs, xs := xs, more := moreB, fn := [dp__law_box, dp__law_draw, dp_Light___init__, dp_Light_numbered, dp__law_bands, dp__law_is, dp_Light___contains__, dp__law_int, dp_Light___len__, dp_Light___bool__, dp_Light___eq__, dp_Light_within, dp__law_same_text, dp__law_word, dp_Light___str__, dp_Light___repr__, dp_Light___or__, dp_law], er := [de_InvalidBand] }
structure Tt (K : Frg) (mg : Str → Option Value) (base : Heap) : Prop where
  says : Says want K
  kin : K.In base
  ns : base.Ns mainGlobals mg
section
variable {w : World} {K : Frg} {mg : Str → Option Value} {base : Heap}
theorem ki_ (T : Tt K mg base) : KI K hs := T.says.ki
theorem kx_ (T : Tt K mg base) : KX K xs := T.says.kx
theorem g_InvalidBand (T : Tt K mg base) : mg "InvalidBand" = some (.ref (He.ga K "InvalidBand")) := He.glo_ok T.kin T.ns (T.says.fact 0)
theorem g_Light (T : Tt K mg base) : mg "Light" = some (.ref (He.ga K "Light")) := He.glo_ok T.kin T.ns (T.says.fact 1)
theorem g__law_bands (T : Tt K mg base) : mg "_law_bands" = some (.ref (He.ga K "_law_bands")) := He.glo_ok T.kin T.ns (T.says.fact 2)
theorem g__law_box (T : Tt K mg base) : mg "_law_box" = some (.ref (He.ga K "_law_box")) := He.glo_ok T.kin T.ns (T.says.fact 3)
theorem g__law_draw (T : Tt K mg base) : mg "_law_draw" = some (.ref (He.ga K "_law_draw")) := He.glo_ok T.kin T.ns (T.says.fact 4)
theorem g__law_int (T : Tt K mg base) : mg "_law_int" = some (.ref (He.ga K "_law_int")) := He.glo_ok T.kin T.ns (T.says.fact 5)
theorem g__law_is (T : Tt K mg base) : mg "_law_is" = some (.ref (He.ga K "_law_is")) := He.glo_ok T.kin T.ns (T.says.fact 6)
theorem g__law_same_text (T : Tt K mg base) : mg "_law_same_text" = some (.ref (He.ga K "_law_same_text")) := He.glo_ok T.kin T.ns (T.says.fact 7)
theorem g__law_word (T : Tt K mg base) : mg "_law_word" = some (.ref (He.ga K "_law_word")) := He.glo_ok T.kin T.ns (T.says.fact 8)
theorem g_law (T : Tt K mg base) : mg "law" = some (.ref (He.ga K "law")) := He.glo_ok T.kin T.ns (T.says.fact 9)
theorem f_bool (T : Tt K mg base) : mg "bool" = none := He.free_ok T.kin T.ns (T.says.fact 10)
theorem f_int (T : Tt K mg base) : mg "int" = none := He.free_ok T.kin T.ns (T.says.fact 11)
theorem f_isinstance (T : Tt K mg base) : mg "isinstance" = none := He.free_ok T.kin T.ns (T.says.fact 12)
theorem f_len (T : Tt K mg base) : mg "len" = none := He.free_ok T.kin T.ns (T.says.fact 13)
theorem f_range (T : Tt K mg base) : mg "range" = none := He.free_ok T.kin T.ns (T.says.fact 14)
theorem f_repr (T : Tt K mg base) : mg "repr" = none := He.free_ok T.kin T.ns (T.says.fact 15)
theorem f_str (T : Tt K mg base) : mg "str" = none := He.free_ok T.kin T.ns (T.says.fact 16)
theorem f_super (T : Tt K mg base) : mg "super" = none := He.free_ok T.kin T.ns (T.says.fact 17)
theorem f_tuple (T : Tt K mg base) : mg "tuple" = none := He.free_ok T.kin T.ns (T.says.fact 18)
theorem mk_Light (T : Tt K mg base) : Mk K (ca K Cl.Light) (He.ma K (ca K Cl.Light) "__init__") := He.mkr_ok (x := "Light") (T.says.fact 19)
theorem k__law_bands (T : Tt K mg base) : PySem.W.keepIn K (.ref (He.ga K "_law_bands")) = true := T.says.fact 28 (f := .keep "_law_bands")
theorem k__law_box (T : Tt K mg base) : PySem.W.keepIn K (.ref (He.ga K "_law_box")) = true := T.says.fact 29 (f := .keep "_law_box")
theorem k__law_draw (T : Tt K mg base) : PySem.W.keepIn K (.ref (He.ga K "_law_draw")) = true := T.says.fact 30 (f := .keep "_law_draw")
theorem k__law_int (T : Tt K mg base) : PySem.W.keepIn K (.ref (He.ga K "_law_int")) = true := T.says.fact 31 (f := .keep "_law_int")
theorem k__law_is (T : Tt K mg base) : PySem.W.keepIn K (.ref (He.ga K "_law_is")) = true := T.says.fact 32 (f := .keep "_law_is")
theorem k__law_same_text (T : Tt K mg base) : PySem.W.keepIn K (.ref (He.ga K "_law_same_text")) = true := T.says.fact 33 (f := .keep "_law_same_text")
theorem k__law_word (T : Tt K mg base) : PySem.W.keepIn K (.ref (He.ga K "_law_word")) = true := T.says.fact 34 (f := .keep "_law_word")
theorem k_law (T : Tt K mg base) : PySem.W.keepIn K (.ref (He.ga K "law")) = true := T.says.fact 35 (f := .keep "law")
theorem me_Light___contains__ (T : Tt K mg base) : Meth K (ca K Cl.Light) "__contains__" (He.ma K (ca K Cl.Light) "__contains__") := He.meth_ok (x := "Light") (T.says.fact 20)
theorem me_Light___len__ (T : Tt K mg base) : Meth K (ca K Cl.Light) "__len__" (He.ma K (ca K Cl.Light) "__len__") := He.meth_ok (x := "Light") (T.says.fact 21)
theorem me_Light___bool__ (T : Tt K mg base) : Meth K (ca K Cl.Light) "__bool__" (He.ma K (ca K Cl.Light) "__bool__") := He.meth_ok (x := "Light") (T.says.fact 22)
theorem me_Light___eq__ (T : Tt K mg base) : Meth K (ca K Cl.Light) "__eq__" (He.ma K (ca K Cl.Light) "__eq__") := He.meth_ok (x := "Light") (T.says.fact 23)
theorem me_Light_within (T : Tt K mg base) : Meth K (ca K Cl.Light) "within" (He.ma K (ca K Cl.Light) "within") := He.meth_ok (x := "Light") (T.says.fact 24)
theorem me_Light___str__ (T : Tt K mg base) : Meth K (ca K Cl.Light) "__str__" (He.ma K (ca K Cl.Light) "__str__") := He.meth_ok (x := "Light") (T.says.fact 25)
theorem me_Light___repr__ (T : Tt K mg base) : Meth K (ca K Cl.Light) "__repr__" (He.ma K (ca K Cl.Light) "__repr__") := He.meth_ok (x := "Light") (T.says.fact 26)
theorem me_Light___or__ (T : Tt K mg base) : Meth K (ca K Cl.Light) "__or__" (He.ma K (ca K Cl.Light) "__or__") := He.meth_ok (x := "Light") (T.says.fact 27)
theorem cm_Light_numbered (T : Tt K mg base) : ClX.CRead K (ca K Cl.Light) (.type "type") ∧ ClX.CMet K (ca K Cl.Light) (.type "type") "numbered" (cmRec K (ca K Cl.Light) "numbered") (cmFn K (ca K Cl.Light) "numbered") := cmB_ok ((He.ba (He.ba T.says.more).1).1)
theorem sff_Light (T : Tt K mg base) : PySem.W.selfFirst K (ca K Cl.Light) = true := (He.ba (He.ba T.says.more).1).2
theorem sf_Light___contains__ (T : Tt K mg base) : ∀ c ct, tab_Light___contains__ c = some ct → PySem.W.selfFirst K (ca K c) = true := fun c ct h => by
  cases c <;> first | exact sff_Light T | cases h
theorem sf_Light___len__ (T : Tt K mg base) : ∀ c ct, tab_Light___len__ c = some ct → PySem.W.selfFirst K (ca K c) = true := fun c ct h => by
  cases c <;> first | exact sff_Light T | cases h
theorem sf_Light___bool__ (T : Tt K mg base) : ∀ c ct, tab_Light___bool__ c = some ct → PySem.W.selfFirst K (ca K c) = true := fun c ct h => by
  cases c <;> first | exact sff_Light T | cases h
theorem sf_Light___eq__ (T : Tt K mg base) : ∀ c ct, tab_Light___eq__ c = some ct → PySem.W.selfFirst K (ca K c) = true := fun c ct h => by
  cases c <;> first | exact sff_Light T | cases h
theorem sf_Light_within (T : Tt K mg base) : ∀ c ct, tab_Light_within c = some ct → PySem.W.selfFirst K (ca K c) = true := fun c ct h => by
  cases c <;> first | exact sff_Light T | cases h
theorem sf_Light___str__ (T : Tt K mg base) : ∀ c ct, tab_Light___str__ c = some ct → PySem.W.selfFirst K (ca K c) = true := fun c ct h => by
  cases c <;> first | exact sff_Light T | cases h
theorem sf_Light___repr__ (T : Tt K mg base) : ∀ c ct, tab_Light___repr__ c = some ct → PySem.W.selfFirst K (ca K c) = true := fun c ct h => by
  cases c <;> first | exact sff_Light T | cases h
theorem sf_Light___or__ (T : Tt K mg base) : ∀ c ct, tab_Light___or__ c = some ct → PySem.W.selfFirst K (ca K c) = true := fun c ct h => by
  cases c <;> first | exact sff_Light T | cases h
theorem eqc_Light (T : Tt K mg base) : EqC K hs Cl.Light := eqB_ok ((He.ba T.says.more).2)
theorem ke_Light (T : Tt K mg base) : ∀ c ct, tab_Light___eq__ c = some ct → EqC K hs c := fun c ct h => by
  cases c <;> first | cases h | skip
  · exact eqc_Light T

theorem er_InvalidBand (T : Tt K mg base) : ErrF TP K (ca K Cl.InvalidBand) (errAd K de_InvalidBand) "band" := by
  obtain ⟨v, o⟩ := T.says.err 0 (d := de_InvalidBand) rfl
  exact ErrD.errF v o (by kernel_rfl) (by kernel_rfl) ⟨by decide, by decide, by decide, by decide⟩ ⟨_, _, _, _, _, _, _, _, _, _, _, _, _, _, rfl, rfl, rfl, fun _ _ _ _ _ _ _ _ _ => rfl, fun _ => ⟨_, rfl⟩⟩
theorem fs__law_box (T : Tt K mg base) : FnS false TP w K mg base 1 (He.ga K "_law_box") [] (spBox K) := by
  obtain ⟨fd, Fn⟩ := T.says.def_ 0 (d := dp__law_box) rfl
  refine (fn_box Fn sc__law_box rfl rfl fun pn cd A outer s H E => ?_).s (FunD.bindsN (ps := ["_law_script"]) Fn fun _ _ _ _ _ _ us hl => match us, hl with | [_], _ => rfl)
  exact pss_one (ps_ret (pe_lst (pa_cons (pe_lc (own := [("_law_cell", 1)]) (g := gName 1) (tt := tYes) rfl sc__law_box.nd (pi_list (pe_slice sl_list (pv 0) po_none (po_some pe_int))) (blkOk_by (N := n__law_box) (sc := defScope st__law_box) (by decide +kernel)) (fun _ _ _ _ _ => pg_name (i := 1) sc__law_box.nd rfl (Or.inl rfl)) (fun _ _ _ _ _ => pts_nil) (fun _ _ _ _ _ => pe_callTy call_int1 rfl (f_int T) boot_int (pa_cons (pv 1) pa_nil))) (pa_cons pe_int (pa_cons pe_int pa_nil)))))
theorem fs__law_draw (T : Tt K mg base) : FnS false TP w K mg base 1 (He.ga K "_law_draw") [] (spP K cDraw) := by
  obtain ⟨fd, Fn⟩ := T.says.def_ 1 (d := dp__law_draw) rfl
  refine (fn_draw Fn sc__law_draw rfl rfl fun pn cd A outer s H E => ?_).s (FunD.bindsN (ps := ["_law_box_here", "_law_size"]) Fn fun _ _ _ _ _ _ us hl => match us, hl with | [_, _], _ => rfl)
  have len2 : ∀ {p0 p1 p2 : Pos}, PE (cxG true pn TP w K mg base n__law_draw dp__law_draw.qual dp__law_draw.scope (dp__law_draw.at_.ad K) cd A outer s H E) (.Call (.Name "len" p0) [.Name "_law_cells" p1] [] p2) (tLen K (tVar 2)) := fun {_ _ _} => pe_callB call_len rfl (f_len T) boot_len (pa_cons (pv 2) pa_nil)
  have cel : ∀ {p0 p1 p2 : Pos}, PE (cxG true pn TP w K mg base n__law_draw dp__law_draw.qual dp__law_draw.scope (dp__law_draw.at_.ad K) cd A outer s H E) (.Subscript (.Name "_law_cells" p0) (.Name "_law_place" p1) p2) (tCel K) := fun {_ _ _} => pe_ix ix_seq (pv 2) (pv 3) fun _ _ => rfl
  exact pss_cons (ps_set (i := 2) sc__law_draw.nd rfl (Or.inl rfl) (pe_ix ix_seq (pv 0) pe_int fun _ _ => rfl))
    (pss_cons (ps_set (i := 3) sc__law_draw.nd rfl (Or.inl rfl) (pe_ix ix_seq (pv 0) pe_int fun _ _ => rfl))
    (pss_cons (ps_if (pt_cmpR op_eq len2 pe_int (nomark _)) (pss_one (ps_ret pe_int)) pss_nil)
    (pss_cons (ps_if (pw_and (pt_cmpR op_lt (pv 3) len2 (nomark _)) (pw_and1 (pt_cmpR op_ge cel (pe_op op_pow pe_int pe_int) (nomark _)))).pt
      (pss_cons (ps_set (i := 4) sc__law_draw.nd rfl (Or.inl rfl) cel) (pss_cons (ps_asg (pe_op op_fdivW (pv 4) (pv 1)) (pg_sub (pv 2) (pv 3) set_list)) (pss_one (ps_ret (pe_op op_mod (pe_callTy call_int1 rfl (f_int T) boot_int (pa_cons (pv 4) pa_nil)) (pv 1)))))) pss_nil)
    (pss_cons (ps_set (i := 4) sc__law_draw.nd rfl (Or.inl rfl) pe_int)
    (pss_cons (ps_if (pt_cmpR op_lt (pv 3) len2 (nomark _)) (pss_one (ps_set (i := 4) sc__law_draw.nd rfl (Or.inl rfl) cel)) pss_nil)
    (pss_cons (ps_asg (pe_op op_add (pv 3) pe_int) (pg_sub (pv 0) pe_int set_list))
    (pss_cons (ps_set (i := 5) sc__law_draw.nd rfl (Or.inl rfl) (pe_op op_mod (pe_callTy call_int1 rfl (f_int T) boot_int (pa_cons (pe_op op_add (pe_op op_add (pe_op op_add (pe_op op_mul (pe_ix ix_seq (pv 0) pe_int fun _ _ => rfl) pe_int) (pe_op op_mul (pe_op op_mod (pe_callTy call_int1 rfl (f_int T) boot_int (pa_cons (pv 4) pa_nil)) pe_int) pe_int)) (pv 3)) pe_int) pa_nil)) pe_int))
    (pss_cons (ps_asg (pv 5) (pg_sub (pv 0) pe_int set_list))
    (pss_cons (ps_set (i := 6) sc__law_draw.nd rfl (Or.inl rfl) (pe_op op_mod (pe_callTy call_int1 rfl (f_int T) boot_int (pa_cons (pe_op op_add (pe_op op_mul (pv 5) (pv 5)) (pe_op op_mul (pv 5) pe_int)) pa_nil)) pe_int))
    (pss_one (ps_ret (pe_op op_mod (pe_callTy call_int1 rfl (f_int T) boot_int (pa_cons (pe_op op_fdivW (pv 6) pe_int) pa_nil)) (pv 1)))))))))))))
theorem sj_Light___init___0 (T : Tt K mg base) {cm : Bool} {pn : List (Addr × Obj)} {cd : Value} {A : Around} {outer : List Env} {s : Shared} {H : Hp} {E : XK} (hcm : false = false → cm = true) (he : Here false (cxG cm pn TP w K mg base n_Light___init__ dp_Light___init__.qual dp_Light___init__.scope (dp_Light___init__.at_.ad K) cd A outer s H E) (fun cls dd _ H' => E cls dd H') 0) : SJ (cxG cm pn TP w K mg base n_Light___init__ dp_Light___init__.qual dp_Light___init__.scope (dp_Light___init__.at_.ad K) cd A outer s H E) (fun cls dd _ H' => E cls dd H') ((defBody st_Light___init__).getD 0 (.Pass ⟨0, 0, 0, 0⟩)) p_Light___init___0 :=
  (s_set 2 e_int sc_Light___init__.nd)
theorem sj_Light___init___1 (T : Tt K mg base) {cm : Bool} {pn : List (Addr × Obj)} {cd : Value} {A : Around} {outer : List Env} {s : Shared} {H : Hp} {E : XK} (hcm : false = false → cm = true) (he : Here false (cxG cm pn TP w K mg base n_Light___init__ dp_Light___init__.qual dp_Light___init__.scope (dp_Light___init__.at_.ad K) cd A outer s H E) (fun cls dd _ H' => E cls dd H') 0) : SJ (cxG cm pn TP w K mg base n_Light___init__ dp_Light___init__.qual dp_Light___init__.scope (dp_Light___init__.at_.ad K) cd A outer s H E) (fun cls dd _ H' => E cls dd H') ((defBody st_Light___init__).getD 1 (.Pass ⟨0, 0, 0, 0⟩)) p_Light___init___1 :=
  (s_for (t := (.one 3)) he.own (hcm rfl) (i_tup (e_var 1) (hcm rfl)) (g_one 3 sc_Light___init__.nd) (b_cons (s_if (t_not (t_chain op_le (pop_IB _) op_lt (pop_IB _) e_int (e_var 3) e_int)) (b_one (s_raise (c := Cl.InvalidBand) rfl (er_InvalidBand T) (g_InvalidBand T) (f_super T) he.rm (hcm rfl) he.tk (a_cons (e_var 3) a_nil))) b_nil)
      (b_one (s_set 2 (e_orI (e_var 2) (e_shlI e_int (e_var 3))) sc_Light___init__.nd))))
theorem sj_Light___init___2 (T : Tt K mg base) {cm : Bool} {pn : List (Addr × Obj)} {cd : Value} {A : Around} {outer : List Env} {s : Shared} {H : Hp} {E : XK} (hcm : false = false → cm = true) (he : Here false (cxG cm pn TP w K mg base n_Light___init__ dp_Light___init__.qual dp_Light___init__.scope (dp_Light___init__.at_.ad K) cd A outer s H E) (fun cls dd _ H' => E cls dd H') 0) : SJ (cxG cm pn TP w K mg base n_Light___init__ dp_Light___init__.qual dp_Light___init__.scope (dp_Light___init__.at_.ad K) cd A outer s H E) (fun cls dd _ H' => E cls dd H') ((defBody st_Light___init__).getD 2 (.Pass ⟨0, 0, 0, 0⟩)) p_Light___init___2 :=
  (s_attr (i := 0) (ki_ T) (e_var 2))
theorem sj_Light___init___3 (T : Tt K mg base) {cm : Bool} {pn : List (Addr × Obj)} {cd : Value} {A : Around} {outer : List Env} {s : Shared} {H : Hp} {E : XK} (hcm : false = false → cm = true) (he : Here false (cxG cm pn TP w K mg base n_Light___init__ dp_Light___init__.qual dp_Light___init__.scope (dp_Light___init__.at_.ad K) cd A outer s H E) (fun cls dd _ H' => E cls dd H') 0) : SJ (cxG cm pn TP w K mg base n_Light___init__ dp_Light___init__.qual dp_Light___init__.scope (dp_Light___init__.at_.ad K) cd A outer s H E) (fun cls dd _ H' => E cls dd H') ((defBody st_Light___init__).getD 3 (.Pass ⟨0, 0, 0, 0⟩)) p_Light___init___3 :=
  (s_attr (i := 0) (ki_ T) (e_bty call_tuple_of pcl_tuple (f_tuple T) boot_tuple (a_cons (e_new (l_comp (t := (.one 3)) (own := [("band", 3)]) (hcm rfl) sc_Light___init__.nd (i_range1 (f_range T) (a_cons e_int a_nil)) (blkOk_by (N := n_Light___init__) (sc := defScope st_Light___init__) (by decide +kernel)) (fun _ _ _ _ _ => g_one 3 sc_Light___init__.nd) (fun _ _ _ _ _ => (ts_one (t_eq (e_andI (e_shrI (e_var 2) (e_var 3)) e_int) e_int))) (fun _ _ _ _ _ => (e_var 3)))) a_nil)))
theorem fs_Light___init__ (T : Tt K mg base) : FnS false TP w K mg base 1 (He.ma K (ca K Cl.Light) "__init__") [] (spI K co_Light) := by
  obtain ⟨fd, Fn⟩ := T.says.def_ 2 (d := dp_Light___init__) rfl
  exact fn_starI (k := 0) Fn sc_Light___init__ ci_Light d_Light___init__ (fun _ _ _ _ _ _ _ rest => match rest with | [] => rfl | _ :: _ => rfl) (fun cm pn cd A outer s H E hcm he => (b_cons (sj_Light___init___0 T hcm he) (b_cons (sj_Light___init___1 T hcm he) (b_cons (sj_Light___init___2 T hcm he) (b_one (sj_Light___init___3 T hcm he)))))) pure_Light___init__
theorem fs_Light_numbered (T : Tt K mg base) : FnS false TP w K mg base 3 (cmFn K (ca K Cl.Light) "numbered") [] (spP K c_Light_numbered) := by
  obtain ⟨fd, Fn⟩ := T.says.def_ 3 (d := dp_Light_numbered) rfl
  exact (fn_p (k := 2) false Fn sc_Light_numbered c_Light_numbered d_Light_numbered len_Light_numbered (fun cm pn cd A outer s H E hcm he => (b_cons (s_if (t_not (t_chain op_le (pop_IB _) op_lt (pop_IB _) e_int (e_var 1) e_int)) (b_one (s_raise (c := Cl.InvalidBand) rfl (er_InvalidBand T) (g_InvalidBand T) (f_super T) he.rm (hcm rfl) he.tk (a_cons (e_var 1) a_nil))) b_nil)
      (b_cons (s_setLN 2 (t := (.one 3)) (own := [("band", 3)]) (hcm rfl) sc_Light_numbered.nd (sw_true rfl rfl rfl (by decide +kernel)) (i_range1 (f_range T) (a_cons e_int a_nil)) (blkOk_by (N := n_Light_numbered) (sc := defScope st_Light_numbered) (by decide +kernel)) (fun _ _ _ _ _ => g_one 3 sc_Light_numbered.nd) (fun _ _ _ _ _ => (ts_one (t_eq (e_andI (e_shrI (e_var 1) (e_var 3)) e_int) e_int))) (fun _ _ _ _ _ => (e_var 3)))
      (b_one (s_ret (e_mkVS (mk_Light T) (fs_Light___init__ T) (hcm rfl) (he.rm.mono (by decide)) he.tk (e_var 0) (e_var 2))))))) pure_Light_numbered).s (FunD.bindsN (ps := ["cls", "number"]) Fn fun _ _ _ _ _ _ us hl => match us, hl with | [_, _], _ => rfl)
theorem fs__law_bands (T : Tt K mg base) : FnS false TP w K mg base 1 (He.ga K "_law_bands") [] (spP K c__law_bands) := by
  obtain ⟨fd, Fn⟩ := T.says.def_ 4 (d := dp__law_bands) rfl
  exact (fn_p (k := 0) false Fn sc__law_bands c__law_bands d__law_bands len__law_bands (fun cm pn cd A outer s H E hcm he => (b_one (s_ret (e_new (l_comp (t := (.one 1)) (own := [("_law_k", 1)]) (hcm rfl) sc__law_bands.nd (i_range1 (f_range T) (a_cons e_int a_nil)) (blkOk_by (N := n__law_bands) (sc := defScope st__law_bands) (by decide +kernel)) (fun _ _ _ _ _ => g_one 1 sc__law_bands.nd) (fun _ _ _ _ _ => (ts_one (t_eq (e_modI (e_toInt (f_int T) (a_cons (e_shrI (e_var 0) (e_var 1)) a_nil)) e_int) e_int))) (fun _ _ _ _ _ => (e_var 1))))))) pure__law_bands).s (FunD.bindsN (ps := ["_law_number"]) Fn fun _ _ _ _ _ _ us hl => match us, hl with | [_], _ => rfl)
theorem fs__law_is (T : Tt K mg base) : FnS true TP w K mg base 1 (He.ga K "_law_is") [] (spP K c__law_is) := by
  obtain ⟨fd, Fn⟩ := T.says.def_ 5 (d := dp__law_is) rfl
  exact (fn_p (k := 0) true Fn sc__law_is c__law_is d__law_is len__law_is (fun cm pn cd A outer s H E hcm he => (b_one (s_ret (e_and (e_blt call_isi (pcl_isi (ki_ T)) (f_isinstance T) boot_isinstance (a_cons (e_var 0) (a_cons (e_ty "bool" (f_bool T) boot_bool) a_nil))) (e_one (e_eq (e_var 0) (e_var 1))))))) pure__law_is).s (FunD.bindsN (ps := ["_law_actual", "_law_expected"]) Fn fun _ _ _ _ _ _ us hl => match us, hl with | [_, _], _ => rfl)
theorem fs_Light___contains__ (T : Tt K mg base) : FnS false TP w K mg base 1 (He.ma K (ca K Cl.Light) "__contains__") [] (spP K c_Light___contains__) := by
  obtain ⟨fd, Fn⟩ := T.says.def_ 6 (d := dp_Light___contains__) rfl
  exact (fn_p (k := 0) false Fn sc_Light___contains__ c_Light___contains__ d_Light___contains__ len_Light___contains__ (fun cm pn cd A outer s H E hcm he => (b_one (s_ret (e_in (e_var 1) (e_attr (ki_ T) (e_var 0)))))) pure_Light___contains__).s (FunD.bindsN (ps := ["self", "band"]) Fn fun _ _ _ _ _ _ us hl => match us, hl with | [_, _], _ => rfl)
theorem mt_Light___contains__ (T : Tt K mg base) : ∀ c ct, tab_Light___contains__ c = some ct → ("__contains__" : Str) ∉ c.flds ∧ ∃ f, Cls K (ca K c) ∧ Meth K (ca K c) "__contains__" f ∧ FnS false TP w K mg base 1 f [] (spP K ct) := fun c ct h => by
  cases c <;> first | cases h | skip
  · exact ⟨by decide, _, ((ki_ T).kc _ (by decide)).cls, me_Light___contains__ T, (fs_Light___contains__ T).up (by decide)⟩

theorem fs__law_int (T : Tt K mg base) : FnS true TP w K mg base 1 (He.ga K "_law_int") [] (spP K c__law_int) := by
  obtain ⟨fd, Fn⟩ := T.says.def_ 7 (d := dp__law_int) rfl
  exact (fn_p (k := 0) true Fn sc__law_int c__law_int d__law_int len__law_int (fun cm pn cd A outer s H E hcm he => (b_one (s_ret (e_and (e_blt call_isi (pcl_isi (ki_ T)) (f_isinstance T) boot_isinstance (a_cons (e_var 0) (a_cons (e_ty "int" (f_int T) boot_int) a_nil))) (e_and (e_not (e_blt call_isi (pcl_isi (ki_ T)) (f_isinstance T) boot_isinstance (a_cons (e_var 0) (a_cons (e_ty "bool" (f_bool T) boot_bool) a_nil)))) (e_one (e_eq (e_var 0) (e_var 1)))))))) pure__law_int).s (FunD.bindsN (ps := ["_law_actual", "_law_expected"]) Fn fun _ _ _ _ _ _ us hl => match us, hl with | [_, _], _ => rfl)
theorem fs_Light___len__ (T : Tt K mg base) : FnS false TP w K mg base 1 (He.ma K (ca K Cl.Light) "__len__") [] (spP K c_Light___len__) := by
  obtain ⟨fd, Fn⟩ := T.says.def_ 8 (d := dp_Light___len__) rfl
  exact (fn_p (k := 0) false Fn sc_Light___len__ c_Light___len__ d_Light___len__ len_Light___len__ (fun cm pn cd A outer s H E hcm he => (b_one (s_ret (e_len (f_len T) (a_cons (e_attr (ki_ T) (e_var 0)) a_nil))))) pure_Light___len__).s (FunD.bindsN (ps := ["self"]) Fn fun _ _ _ _ _ _ us hl => match us, hl with | [_], _ => rfl)
theorem mt_Light___len__ (T : Tt K mg base) : ∀ c ct, tab_Light___len__ c = some ct → ("__len__" : Str) ∉ c.flds ∧ ∃ f, Cls K (ca K c) ∧ Meth K (ca K c) "__len__" f ∧ FnS false TP w K mg base 1 f [] (spP K ct) := fun c ct h => by
  cases c <;> first | cases h | skip
  · exact ⟨by decide, _, ((ki_ T).kc _ (by decide)).cls, me_Light___len__ T, (fs_Light___len__ T).up (by decide)⟩

theorem fs_Light___bool__ (T : Tt K mg base) : FnS false TP w K mg base 1 (He.ma K (ca K Cl.Light) "__bool__") [] (spP K c_Light___bool__) := by
  obtain ⟨fd, Fn⟩ := T.says.def_ 9 (d := dp_Light___bool__) rfl
  exact (fn_p (k := 0) false Fn sc_Light___bool__ c_Light___bool__ d_Light___bool__ len_Light___bool__ (fun cm pn cd A outer s H E hcm he => (b_one (s_ret (e_bty call_bool1 pcl_bool (f_bool T) boot_bool (a_cons (e_gt (e_attr (ki_ T) (e_var 0)) e_int) a_nil))))) pure_Light___bool__).s (FunD.bindsN (ps := ["self"]) Fn fun _ _ _ _ _ _ us hl => match us, hl with | [_], _ => rfl)
theorem mt_Light___bool__ (T : Tt K mg base) : ∀ c ct, tab_Light___bool__ c = some ct → ("__bool__" : Str) ∉ c.flds ∧ ∃ f, Cls K (ca K c) ∧ Meth K (ca K c) "__bool__" f ∧ FnS false TP w K mg base 1 f [] (spP K ct) := fun c ct h => by
  cases c <;> first | cases h | skip
  · exact ⟨by decide, _, ((ki_ T).kc _ (by decide)).cls, me_Light___bool__ T, (fs_Light___bool__ T).up (by decide)⟩

theorem fs_Light___eq__ (T : Tt K mg base) : FnS false TP w K mg base 1 (He.ma K (ca K Cl.Light) "__eq__") [] (spP K c_Light___eq__) := by
  obtain ⟨fd, Fn⟩ := T.says.def_ 10 (d := dp_Light___eq__) rfl
  exact (fn_p (k := 0) false Fn sc_Light___eq__ c_Light___eq__ d_Light___eq__ len_Light___eq__ (fun cm pn cd A outer s H E hcm he => (b_one (s_ret (e_and (e_blt call_isi (pcl_isi (ki_ T)) (f_isinstance T) boot_isinstance (a_cons (e_var 1) (a_cons (e_cls Cl.Light (g_Light T)) a_nil))) (e_one (e_eq (e_attr (ki_ T) (e_var 0)) (e_attr (ki_ T) (e_var 1)))))))) pure_Light___eq__).s (FunD.bindsN (ps := ["self", "other"]) Fn fun _ _ _ _ _ _ us hl => match us, hl with | [_, _], _ => rfl)
theorem mt_Light___eq__ (T : Tt K mg base) : ∀ c ct, tab_Light___eq__ c = some ct → ("__eq__" : Str) ∉ c.flds ∧ ∃ f, Cls K (ca K c) ∧ Meth K (ca K c) "__eq__" f ∧ FnS false TP w K mg base 1 f [] (spP K ct) := fun c ct h => by
  cases c <;> first | cases h | skip
  · exact ⟨by decide, _, ((ki_ T).kc _ (by decide)).cls, me_Light___eq__ T, (fs_Light___eq__ T).up (by decide)⟩

theorem fs_Light_within (T : Tt K mg base) : FnS false TP w K mg base 1 (He.ma K (ca K Cl.Light) "within") [] (spP K c_Light_within) := by
  obtain ⟨fd, Fn⟩ := T.says.def_ 11 (d := dp_Light_within) rfl
  exact (fn_p (k := 0) false Fn sc_Light_within c_Light_within d_Light_within len_Light_within (fun cm pn cd A outer s H E hcm he => (b_one (s_ret (e_eq (e_andI (e_attr (ki_ T) (e_var 0)) (e_attr (ki_ T) (e_var 1))) (e_attr (ki_ T) (e_var 0)))))) pure_Light_within).s (FunD.bindsN (ps := ["self", "other"]) Fn fun _ _ _ _ _ _ us hl => match us, hl with | [_, _], _ => rfl)
theorem mt_Light_within (T : Tt K mg base) : ∀ c ct, tab_Light_within c = some ct → ("within" : Str) ∉ c.flds ∧ ∃ f, Cls K (ca K c) ∧ Meth K (ca K c) "within" f ∧ FnS false TP w K mg base 1 f [] (spP K ct) := fun c ct h => by
  cases c <;> first | cases h | skip
  · exact ⟨by decide, _, ((ki_ T).kc _ (by decide)).cls, me_Light_within T, (fs_Light_within T).up (by decide)⟩

theorem fs__law_same_text (T : Tt K mg base) : FnS true TP w K mg base 1 (He.ga K "_law_same_text") [] (spP K c__law_same_text) := by
  obtain ⟨fd, Fn⟩ := T.says.def_ 12 (d := dp__law_same_text) rfl
  exact (fn_p (k := 0) true Fn sc__law_same_text c__law_same_text d__law_same_text len__law_same_text (fun cm pn cd A outer s H E hcm he => (b_one (s_ret (e_and (e_blt call_isi (pcl_isi (ki_ T)) (f_isinstance T) boot_isinstance (a_cons (e_var 0) (a_cons (e_ty "str" (f_str T) boot_str) a_nil))) (e_one (e_eq (e_var 0) (e_var 1))))))) pure__law_same_text).s (FunD.bindsN (ps := ["_law_actual", "_law_expected"]) Fn fun _ _ _ _ _ _ us hl => match us, hl with | [_, _], _ => rfl)
theorem fs__law_word (T : Tt K mg base) : FnS false TP w K mg base 2 (He.ga K "_law_word") [] (spP K c__law_word) := by
  obtain ⟨fd, Fn⟩ := T.says.def_ 13 (d := dp__law_word) rfl
  exact (fn_p (k := 1) false Fn sc__law_word c__law_word d__law_word len__law_word (fun cm pn cd A outer s H E hcm he => (b_cons (s_if (t_eq (e_var 0) e_int) (b_one (s_ret e_str)) b_nil)
      (b_one (s_ret (e_join e_str (e_new (l_comp (t := (.one 1)) (own := [("_law_band", 1)]) (hcm rfl) sc__law_word.nd (i_list (e_call (fs__law_bands T) (.inl (hcm rfl)) (he.rm.mono (by decide)) he.tk (g__law_bands T) (k__law_bands T) (a_cons (e_var 0) a_nil)) (hcm rfl)) (blkOk_by (N := n__law_word) (sc := defScope st__law_word) (by decide +kernel)) (fun _ _ _ _ _ => g_one 1 sc__law_word.nd) (fun _ _ _ _ _ => ts_nil) (fun _ _ _ _ _ => (e_bty call_str_int pcl_strI (f_str T) boot_str (a_cons (e_var 1) a_nil)))))))))) pure__law_word).s (FunD.bindsN (ps := ["_law_number"]) Fn fun _ _ _ _ _ _ us hl => match us, hl with | [_], _ => rfl)
theorem fs_Light___str__ (T : Tt K mg base) : FnS false TP w K mg base 1 (He.ma K (ca K Cl.Light) "__str__") [] (spP K c_Light___str__) := by
  obtain ⟨fd, Fn⟩ := T.says.def_ 14 (d := dp_Light___str__) rfl
  exact (fn_p (k := 0) false Fn sc_Light___str__ c_Light___str__ d_Light___str__ len_Light___str__ (fun cm pn cd A outer s H E hcm he => (b_cons (s_if (t_eq (e_attr (ki_ T) (e_var 0)) e_int) (b_one (s_ret e_str)) b_nil)
      (b_one (s_ret (e_join e_str (e_new (l_comp (t := (.one 1)) (own := [("band", 1)]) (hcm rfl) sc_Light___str__.nd (i_tup (e_attr (ki_ T) (e_var 0)) (hcm rfl)) (blkOk_by (N := n_Light___str__) (sc := defScope st_Light___str__) (by decide +kernel)) (fun _ _ _ _ _ => g_one 1 sc_Light___str__.nd) (fun _ _ _ _ _ => ts_nil) (fun _ _ _ _ _ => (e_bty call_str_int pcl_strI (f_str T) boot_str (a_cons (e_var 1) a_nil)))))))))) pure_Light___str__).s (FunD.bindsN (ps := ["self"]) Fn fun _ _ _ _ _ _ us hl => match us, hl with | [_], _ => rfl)
theorem mt_Light___str__ (T : Tt K mg base) : ∀ c ct, tab_Light___str__ c = some ct → ("__str__" : Str) ∉ c.flds ∧ ∃ f, Cls K (ca K c) ∧ Meth K (ca K c) "__str__" f ∧ FnS false TP w K mg base 1 f [] (spP K ct) := fun c ct h => by
  cases c <;> first | cases h | skip
  · exact ⟨by decide, _, ((ki_ T).kc _ (by decide)).cls, me_Light___str__ T, (fs_Light___str__ T).up (by decide)⟩

theorem fs_Light___repr__ (T : Tt K mg base) : FnS false TP w K mg base 1 (He.ma K (ca K Cl.Light) "__repr__") [] (spP K c_Light___repr__) := by
  obtain ⟨fd, Fn⟩ := T.says.def_ 15 (d := dp_Light___repr__) rfl
  exact (fn_p (k := 0) false Fn sc_Light___repr__ c_Light___repr__ d_Light___repr__ len_Light___repr__ (fun cm pn cd A outer s H E hcm he => (b_one (s_ret (e_fstr (.cons e_str (.cons (e_fmt (e_join e_str (e_new (l_comp (t := (.one 1)) (own := [("band", 1)]) (hcm rfl) sc_Light___repr__.nd (i_tup (e_attr (ki_ T) (e_var 0)) (hcm rfl)) (blkOk_by (N := n_Light___repr__) (sc := defScope st_Light___repr__) (by decide +kernel)) (fun _ _ _ _ _ => g_one 1 sc_Light___repr__.nd) (fun _ _ _ _ _ => ts_nil) (fun _ _ _ _ _ => (e_bty call_str_int pcl_strI (f_str T) boot_str (a_cons (e_var 1) a_nil))))))) (.cons e_str .nil))))))) pure_Light___repr__).s (FunD.bindsN (ps := ["self"]) Fn fun _ _ _ _ _ _ us hl => match us, hl with | [_], _ => rfl)
theorem mt_Light___repr__ (T : Tt K mg base) : ∀ c ct, tab_Light___repr__ c = some ct → ("__repr__" : Str) ∉ c.flds ∧ ∃ f, Cls K (ca K c) ∧ Meth K (ca K c) "__repr__" f ∧ FnS false TP w K mg base 1 f [] (spP K ct) := fun c ct h => by
  cases c <;> first | cases h | skip
  · exact ⟨by decide, _, ((ki_ T).kc _ (by decide)).cls, me_Light___repr__ T, (fs_Light___repr__ T).up (by decide)⟩

theorem fs_Light___or__ (T : Tt K mg base) : FnS false TP w K mg base 4 (He.ma K (ca K Cl.Light) "__or__") [] (spP K c_Light___or__) := by
  obtain ⟨fd, Fn⟩ := T.says.def_ 16 (d := dp_Light___or__) rfl
  exact (fn_p (k := 3) false Fn sc_Light___or__ c_Light___or__ d_Light___or__ len_Light___or__ (fun cm pn cd A outer s H E hcm he => (b_one (s_ret (e_cmeth (cm_Light_numbered T).1 (cm_Light_numbered T).2 (fs_Light_numbered T) (.inl (hcm rfl)) (he.rm.mono (by decide)) he.tk (e_cls Cl.Light (g_Light T)) (a_cons (e_orI (e_attr (ki_ T) (e_var 0)) (e_attr (ki_ T) (e_var 1))) a_nil))))) pure_Light___or__).s (FunD.bindsN (ps := ["self", "other"]) Fn fun _ _ _ _ _ _ us hl => match us, hl with | [_, _], _ => rfl)
theorem mt_Light___or__ (T : Tt K mg base) : ∀ c ct, tab_Light___or__ c = some ct → ("__or__" : Str) ∉ c.flds ∧ ∃ f, Cls K (ca K c) ∧ Meth K (ca K c) "__or__" f ∧ FnS false TP w K mg base 4 f [] (spP K ct) := fun c ct h => by
  cases c <;> first | cases h | skip
  · exact ⟨by decide, _, ((ki_ T).kc _ (by decide)).cls, me_Light___or__ T, (fs_Light___or__ T).up (by decide)⟩

theorem sj_law_0 (T : Tt K mg base) {cm : Bool} {pn : List (Addr × Obj)} {cd : Value} {A : Around} {outer : List Env} {s : Shared} {H : Hp} {E : XK} (hcm : false = false → cm = true) (he : Here false (cxG cm pn TP w K mg base n_law dp_law.qual dp_law.scope (dp_law.at_.ad K) cd A outer s H E) (fun cls dd _ H' => E cls dd H') 4) : SJ (cxG cm pn TP w K mg base n_law dp_law.qual dp_law.scope (dp_law.at_.ad K) cd A outer s H E) (fun cls dd _ H' => E cls dd H') ((defBody st_law).getD 1 (.Pass ⟨0, 0, 0, 0⟩)) p_law_0 :=
  (s_set 2 (e_call (fs__law_draw T) (.inl (hcm rfl)) (he.rm.mono (by decide)) he.tk (g__law_draw T) (k__law_draw T) (a_cons (e_var 1) (a_cons e_int a_nil))) sc_law.nd)
theorem sj_law_1 (T : Tt K mg base) {cm : Bool} {pn : List (Addr × Obj)} {cd : Value} {A : Around} {outer : List Env} {s : Shared} {H : Hp} {E : XK} (hcm : false = false → cm = true) (he : Here false (cxG cm pn TP w K mg base n_law dp_law.qual dp_law.scope (dp_law.at_.ad K) cd A outer s H E) (fun cls dd _ H' => E cls dd H') 4) : SJ (cxG cm pn TP w K mg base n_law dp_law.qual dp_law.scope (dp_law.at_.ad K) cd A outer s H E) (fun cls dd _ H' => E cls dd H') ((defBody st_law).getD 2 (.Pass ⟨0, 0, 0, 0⟩)) p_law_1 :=
  (s_set 3 (e_call (fs__law_draw T) (.inl (hcm rfl)) (he.rm.mono (by decide)) he.tk (g__law_draw T) (k__law_draw T) (a_cons (e_var 1) (a_cons e_int a_nil))) sc_law.nd)
theorem sj_law_2 (T : Tt K mg base) {cm : Bool} {pn : List (Addr × Obj)} {cd : Value} {A : Around} {outer : List Env} {s : Shared} {H : Hp} {E : XK} (hcm : false = false → cm = true) (he : Here false (cxG cm pn TP w K mg base n_law dp_law.qual dp_law.scope (dp_law.at_.ad K) cd A outer s H E) (fun cls dd _ H' => E cls dd H') 4) : SJ (cxG cm pn TP w K mg base n_law dp_law.qual dp_law.scope (dp_law.at_.ad K) cd A outer s H E) (fun cls dd _ H' => E cls dd H') ((defBody st_law).getD 3 (.Pass ⟨0, 0, 0, 0⟩)) p_law_2 :=
  (s_set 4 (e_call (fs__law_draw T) (.inl (hcm rfl)) (he.rm.mono (by decide)) he.tk (g__law_draw T) (k__law_draw T) (a_cons (e_var 1) (a_cons e_int a_nil))) sc_law.nd)
theorem sj_law_3 (T : Tt K mg base) {cm : Bool} {pn : List (Addr × Obj)} {cd : Value} {A : Around} {outer : List Env} {s : Shared} {H : Hp} {E : XK} (hcm : false = false → cm = true) (he : Here false (cxG cm pn TP w K mg base n_law dp_law.qual dp_law.scope (dp_law.at_.ad K) cd A outer s H E) (fun cls dd _ H' => E cls dd H') 4) : SJ (cxG cm pn TP w K mg base n_law dp_law.qual dp_law.scope (dp_law.at_.ad K) cd A outer s H E) (fun cls dd _ H' => E cls dd H') ((defBody st_law).getD 4 (.Pass ⟨0, 0, 0, 0⟩)) p_law_3 :=
  (s_if (t_eq (e_var 4) e_int) (b_one (s_set 3 (e_var 2) sc_law.nd)) b_nil)
theorem sj_law_4 (T : Tt K mg base) {cm : Bool} {pn : List (Addr × Obj)} {cd : Value} {A : Around} {outer : List Env} {s : Shared} {H : Hp} {E : XK} (hcm : false = false → cm = true) (he : Here false (cxG cm pn TP w K mg base n_law dp_law.qual dp_law.scope (dp_law.at_.ad K) cd A outer s H E) (fun cls dd _ H' => E cls dd H') 4) : SJ (cxG cm pn TP w K mg base n_law dp_law.qual dp_law.scope (dp_law.at_.ad K) cd A outer s H E) (fun cls dd _ H' => E cls dd H') ((defBody st_law).getD 5 (.Pass ⟨0, 0, 0, 0⟩)) p_law_4 :=
  (s_if (t_eq (e_var 4) e_int) (b_one (s_set 3 (e_andI (e_var 3) (e_var 2)) sc_law.nd)) b_nil)
theorem sj_law_5 (T : Tt K mg base) {cm : Bool} {pn : List (Addr × Obj)} {cd : Value} {A : Around} {outer : List Env} {s : Shared} {H : Hp} {E : XK} (hcm : false = false → cm = true) (he : Here false (cxG cm pn TP w K mg base n_law dp_law.qual dp_law.scope (dp_law.at_.ad K) cd A outer s H E) (fun cls dd _ H' => E cls dd H') 4) : SJ (cxG cm pn TP w K mg base n_law dp_law.qual dp_law.scope (dp_law.at_.ad K) cd A outer s H E) (fun cls dd _ H' => E cls dd H') ((defBody st_law).getD 6 (.Pass ⟨0, 0, 0, 0⟩)) p_law_5 :=
  (s_set 5 (e_cmeth (cm_Light_numbered T).1 (cm_Light_numbered T).2 (fs_Light_numbered T) (.inl (hcm rfl)) (he.rm.mono (by decide)) he.tk (e_cls Cl.Light (g_Light T)) (a_cons (e_var 2) a_nil)) sc_law.nd)
theorem sj_law_6 (T : Tt K mg base) {cm : Bool} {pn : List (Addr × Obj)} {cd : Value} {A : Around} {outer : List Env} {s : Shared} {H : Hp} {E : XK} (hcm : false = false → cm = true) (he : Here false (cxG cm pn TP w K mg base n_law dp_law.qual dp_law.scope (dp_law.at_.ad K) cd A outer s H E) (fun cls dd _ H' => E cls dd H') 4) : SJ (cxG cm pn TP w K mg base n_law dp_law.qual dp_law.scope (dp_law.at_.ad K) cd A outer s H E) (fun cls dd _ H' => E cls dd H') ((defBody st_law).getD 7 (.Pass ⟨0, 0, 0, 0⟩)) p_law_6 :=
  (s_set 6 (e_cmeth (cm_Light_numbered T).1 (cm_Light_numbered T).2 (fs_Light_numbered T) (.inl (hcm rfl)) (he.rm.mono (by decide)) he.tk (e_cls Cl.Light (g_Light T)) (a_cons (e_var 3) a_nil)) sc_law.nd)
theorem sj_law_7 (T : Tt K mg base) {cm : Bool} {pn : List (Addr × Obj)} {cd : Value} {A : Around} {outer : List Env} {s : Shared} {H : Hp} {E : XK} (hcm : false = false → cm = true) (he : Here false (cxG cm pn TP w K mg base n_law dp_law.qual dp_law.scope (dp_law.at_.ad K) cd A outer s H E) (fun cls dd _ H' => E cls dd H') 4) : SJ (cxG cm pn TP w K mg base n_law dp_law.qual dp_law.scope (dp_law.at_.ad K) cd A outer s H E) (fun cls dd _ H' => E cls dd H') ((defBody st_law).getD 8 (.Pass ⟨0, 0, 0, 0⟩)) p_law_7 :=
  (s_set 7 (e_subI (e_call (fs__law_draw T) (.inl (hcm rfl)) (he.rm.mono (by decide)) he.tk (g__law_draw T) (k__law_draw T) (a_cons (e_var 1) (a_cons e_int a_nil))) e_int) sc_law.nd)
theorem sj_law_8 (T : Tt K mg base) {cm : Bool} {pn : List (Addr × Obj)} {cd : Value} {A : Around} {outer : List Env} {s : Shared} {H : Hp} {E : XK} (hcm : false = false → cm = true) (he : Here false (cxG cm pn TP w K mg base n_law dp_law.qual dp_law.scope (dp_law.at_.ad K) cd A outer s H E) (fun cls dd _ H' => E cls dd H') 4) : SJ (cxG cm pn TP w K mg base n_law dp_law.qual dp_law.scope (dp_law.at_.ad K) cd A outer s H E) (fun cls dd _ H' => E cls dd H') ((defBody st_law).getD 9 (.Pass ⟨0, 0, 0, 0⟩)) p_law_8 :=
  (s_if (t_eq (e_call (fs__law_draw T) (.inl (hcm rfl)) (he.rm.mono (by decide)) he.tk (g__law_draw T) (k__law_draw T) (a_cons (e_var 1) (a_cons e_int a_nil))) e_int) (b_one (s_set 7 (e_call (fs__law_draw T) (.inl (hcm rfl)) (he.rm.mono (by decide)) he.tk (g__law_draw T) (k__law_draw T) (a_cons (e_var 1) (a_cons (e_powI e_int e_int) a_nil))) sc_law.nd)) b_nil)
theorem sj_law_9 (T : Tt K mg base) {cm : Bool} {pn : List (Addr × Obj)} {cd : Value} {A : Around} {outer : List Env} {s : Shared} {H : Hp} {E : XK} (hcm : false = false → cm = true) (he : Here false (cxG cm pn TP w K mg base n_law dp_law.qual dp_law.scope (dp_law.at_.ad K) cd A outer s H E) (fun cls dd _ H' => E cls dd H') 4) : SJ (cxG cm pn TP w K mg base n_law dp_law.qual dp_law.scope (dp_law.at_.ad K) cd A outer s H E) (fun cls dd _ H' => E cls dd H') ((defBody st_law).getD 10 (.Pass ⟨0, 0, 0, 0⟩)) p_law_9 :=
  (s_set 8 (e_call (fs__law_bands T) (.inl (hcm rfl)) (he.rm.mono (by decide)) he.tk (g__law_bands T) (k__law_bands T) (a_cons (e_var 2) a_nil)) sc_law.nd)
theorem sj_law_10 (T : Tt K mg base) {cm : Bool} {pn : List (Addr × Obj)} {cd : Value} {A : Around} {outer : List Env} {s : Shared} {H : Hp} {E : XK} (hcm : false = false → cm = true) (he : Here false (cxG cm pn TP w K mg base n_law dp_law.qual dp_law.scope (dp_law.at_.ad K) cd A outer s H E) (fun cls dd _ H' => E cls dd H') 4) : SJ (cxG cm pn TP w K mg base n_law dp_law.qual dp_law.scope (dp_law.at_.ad K) cd A outer s H E) (fun cls dd _ H' => E cls dd H') ((defBody st_law).getD 11 (.Pass ⟨0, 0, 0, 0⟩)) p_law_10 :=
  (s_if (t_w (w_or (t_not (t_val (e_call (fs__law_is T) (.inl (hcm rfl)) (he.rm.mono (by decide)) he.tk (g__law_is T) (k__law_is T) (a_cons (e_cmp (op_ownIn (mt_Light___contains__ T) (hcm rfl) (he.rm.mono (by decide))) pop_ownIn (e_var 7) (e_var 5) rfl) (a_cons (e_in (e_var 7) (e_var 8)) a_nil))))) (w_or1 (t_not (t_val (e_call (fs__law_int T) (.inl (hcm rfl)) (he.rm.mono (by decide)) he.tk (g__law_int T) (k__law_int T) (a_cons (e_blt (cr_len (mt_Light___len__ T) (hcm rfl) (he.rm.mono (by decide))) (pcl_own ow_len) (f_len T) boot_len (a_cons (e_var 5) a_nil)) (a_cons (e_len (f_len T) (a_cons (e_var 8) a_nil)) a_nil)))))))) (b_one (s_ret e_bl)) b_nil)
theorem sj_law_11 (T : Tt K mg base) {cm : Bool} {pn : List (Addr × Obj)} {cd : Value} {A : Around} {outer : List Env} {s : Shared} {H : Hp} {E : XK} (hcm : false = false → cm = true) (he : Here false (cxG cm pn TP w K mg base n_law dp_law.qual dp_law.scope (dp_law.at_.ad K) cd A outer s H E) (fun cls dd _ H' => E cls dd H') 4) : SJ (cxG cm pn TP w K mg base n_law dp_law.qual dp_law.scope (dp_law.at_.ad K) cd A outer s H E) (fun cls dd _ H' => E cls dd H') ((defBody st_law).getD 12 (.Pass ⟨0, 0, 0, 0⟩)) p_law_11 :=
  (s_if (t_w (w_or (t_not (t_val (e_call (fs__law_is T) (.inl (hcm rfl)) (he.rm.mono (by decide)) he.tk (g__law_is T) (k__law_is T) (a_cons (e_bty (cr_bool (mt_Light___bool__ T) (hcm rfl) (he.rm.mono (by decide))) (pcl_own ow_bl) (f_bool T) boot_bool (a_cons (e_var 5) a_nil)) (a_cons (e_gt (e_var 2) e_int) a_nil))))) (w_or (t_not (t_val (e_call (fs__law_is T) (.inl (hcm rfl)) (he.rm.mono (by decide)) he.tk (g__law_is T) (k__law_is T) (a_cons (e_cmp (op_ownEq (mt_Light___eq__ T) (hcm rfl) (he.rm.mono (by decide))) (pop_ownEq (ki_ T) (ke_Light T)) (e_var 5) (e_var 6) (nomark _)) (a_cons (e_eq (e_var 2) (e_var 3)) a_nil))))) (w_or1 (t_not (t_val (e_call (fs__law_is T) (.inl (hcm rfl)) (he.rm.mono (by decide)) he.tk (g__law_is T) (k__law_is T) (a_cons (e_cmp (op_ownEq (mt_Light___eq__ T) (hcm rfl) (he.rm.mono (by decide))) (pop_ownEq (ki_ T) (ke_Light T)) (e_var 6) (e_var 5) (nomark _)) (a_cons (e_eq (e_var 2) (e_var 3)) a_nil))))))))) (b_one (s_ret e_bl)) b_nil)
theorem sj_law_12 (T : Tt K mg base) {cm : Bool} {pn : List (Addr × Obj)} {cd : Value} {A : Around} {outer : List Env} {s : Shared} {H : Hp} {E : XK} (hcm : false = false → cm = true) (he : Here false (cxG cm pn TP w K mg base n_law dp_law.qual dp_law.scope (dp_law.at_.ad K) cd A outer s H E) (fun cls dd _ H' => E cls dd H') 4) : SJ (cxG cm pn TP w K mg base n_law dp_law.qual dp_law.scope (dp_law.at_.ad K) cd A outer s H E) (fun cls dd _ H' => E cls dd H') ((defBody st_law).getD 13 (.Pass ⟨0, 0, 0, 0⟩)) p_law_12 :=
  (s_if (t_w (w_or (t_not (t_val (e_call (fs__law_is T) (.inl (hcm rfl)) (he.rm.mono (by decide)) he.tk (g__law_is T) (k__law_is T) (a_cons (e_meth (mt_Light_within T) (.inl (hcm rfl)) (he.rm.mono (by decide)) he.tk (e_var 5) (a_cons (e_var 6) a_nil)) (a_cons (e_eq (e_andI (e_var 2) (e_var 3)) (e_var 2)) a_nil))))) (w_or1 (t_not (t_val (e_call (fs__law_is T) (.inl (hcm rfl)) (he.rm.mono (by decide)) he.tk (g__law_is T) (k__law_is T) (a_cons (e_meth (mt_Light_within T) (.inl (hcm rfl)) (he.rm.mono (by decide)) he.tk (e_var 6) (a_cons (e_var 5) a_nil)) (a_cons (e_eq (e_andI (e_var 2) (e_var 3)) (e_var 3)) a_nil)))))))) (b_one (s_ret e_bl)) b_nil)
theorem sj_law_13 (T : Tt K mg base) {cm : Bool} {pn : List (Addr × Obj)} {cd : Value} {A : Around} {outer : List Env} {s : Shared} {H : Hp} {E : XK} (hcm : false = false → cm = true) (he : Here false (cxG cm pn TP w K mg base n_law dp_law.qual dp_law.scope (dp_law.at_.ad K) cd A outer s H E) (fun cls dd _ H' => E cls dd H') 4) : SJ (cxG cm pn TP w K mg base n_law dp_law.qual dp_law.scope (dp_law.at_.ad K) cd A outer s H E) (fun cls dd _ H' => E cls dd H') ((defBody st_law).getD 14 (.Pass ⟨0, 0, 0, 0⟩)) p_law_13 :=
  (s_if (t_w (w_or (t_cmp op_isnotB pop_isnotB (e_cmp (op_ownEq (mt_Light___eq__ T) (hcm rfl) (he.rm.mono (by decide))) (pop_ownEq (ki_ T) (ke_Light T)) (e_var 5) (e_attr (ki_ T) (e_var 5)) (nomark _)) e_bl (nomark _)) (w_or (t_cmp op_isnotB pop_isnotB (e_cmp (op_ownEq (mt_Light___eq__ T) (hcm rfl) (he.rm.mono (by decide))) (pop_ownEq (ki_ T) (ke_Light T)) (e_var 5) e_str (nomark _)) e_bl (nomark _)) (w_or1 (t_cmp (op_ownEq (mt_Light___eq__ T) (hcm rfl) (he.rm.mono (by decide))) (pop_ownEq (ki_ T) (ke_Light T)) (e_var 5) (e_var 2) (nomark _)))))) (b_one (s_ret e_bl)) b_nil)
theorem sj_law_14 (T : Tt K mg base) {cm : Bool} {pn : List (Addr × Obj)} {cd : Value} {A : Around} {outer : List Env} {s : Shared} {H : Hp} {E : XK} (hcm : false = false → cm = true) (he : Here false (cxG cm pn TP w K mg base n_law dp_law.qual dp_law.scope (dp_law.at_.ad K) cd A outer s H E) (fun cls dd _ H' => E cls dd H') 4) : SJ (cxG cm pn TP w K mg base n_law dp_law.qual dp_law.scope (dp_law.at_.ad K) cd A outer s H E) (fun cls dd _ H' => E cls dd H') ((defBody st_law).getD 15 (.Pass ⟨0, 0, 0, 0⟩)) p_law_14 :=
  (s_if (t_not (t_val (e_call (fs__law_same_text T) (.inl (hcm rfl)) (he.rm.mono (by decide)) he.tk (g__law_same_text T) (k__law_same_text T) (a_cons (e_bty (cr_str (mt_Light___str__ T) (hcm rfl) (he.rm.mono (by decide))) (pcl_own ow_str) (f_str T) boot_str (a_cons (e_var 5) a_nil)) (a_cons (e_call (fs__law_word T) (.inl (hcm rfl)) (he.rm.mono (by decide)) he.tk (g__law_word T) (k__law_word T) (a_cons (e_var 2) a_nil)) a_nil))))) (b_one (s_ret e_bl)) b_nil)
theorem sj_law_15 (T : Tt K mg base) {cm : Bool} {pn : List (Addr × Obj)} {cd : Value} {A : Around} {outer : List Env} {s : Shared} {H : Hp} {E : XK} (hcm : false = false → cm = true) (he : Here false (cxG cm pn TP w K mg base n_law dp_law.qual dp_law.scope (dp_law.at_.ad K) cd A outer s H E) (fun cls dd _ H' => E cls dd H') 4) : SJ (cxG cm pn TP w K mg base n_law dp_law.qual dp_law.scope (dp_law.at_.ad K) cd A outer s H E) (fun cls dd _ H' => E cls dd H') ((defBody st_law).getD 16 (.Pass ⟨0, 0, 0, 0⟩)) p_law_15 :=
  (s_if (t_not (t_val (e_call (fs__law_same_text T) (.inl (hcm rfl)) (he.rm.mono (by decide)) he.tk (g__law_same_text T) (k__law_same_text T) (a_cons (e_blt (cr_repr (mt_Light___repr__ T) (hcm rfl) (he.rm.mono (by decide))) (pcl_own ow_str) (f_repr T) boot_repr (a_cons (e_var 5) a_nil)) (a_cons (e_op op_add_str pop_addS (e_op op_add_str pop_addS e_str (e_join e_str (e_new (l_comp (t := (.one 9)) (own := [("_law_k", 9)]) (hcm rfl) sc_law.nd (i_list (e_var 8) (hcm rfl)) (blkOk_by (N := n_law) (sc := defScope st_law) (by decide +kernel)) (fun _ _ _ _ _ => g_one 9 sc_law.nd) (fun _ _ _ _ _ => ts_nil) (fun _ _ _ _ _ => (e_bty call_str_int pcl_strI (f_str T) boot_str (a_cons (e_var 9) a_nil))))))) e_str) a_nil))))) (b_one (s_ret e_bl)) b_nil)
theorem sj_law_16 (T : Tt K mg base) {cm : Bool} {pn : List (Addr × Obj)} {cd : Value} {A : Around} {outer : List Env} {s : Shared} {H : Hp} {E : XK} (hcm : false = false → cm = true) (he : Here false (cxG cm pn TP w K mg base n_law dp_law.qual dp_law.scope (dp_law.at_.ad K) cd A outer s H E) (fun cls dd _ H' => E cls dd H') 4) : SJ (cxG cm pn TP w K mg base n_law dp_law.qual dp_law.scope (dp_law.at_.ad K) cd A outer s H E) (fun cls dd _ H' => E cls dd H') ((defBody st_law).getD 17 (.Pass ⟨0, 0, 0, 0⟩)) p_law_16 :=
  (s_set 10 (e_orI (e_call (fs__law_draw T) (.inl (hcm rfl)) (he.rm.mono (by decide)) he.tk (g__law_draw T) (k__law_draw T) (a_cons (e_var 1) (a_cons e_int a_nil))) (e_andI (e_var 3) (e_var 2))) sc_law.nd)
theorem sj_law_17 (T : Tt K mg base) {cm : Bool} {pn : List (Addr × Obj)} {cd : Value} {A : Around} {outer : List Env} {s : Shared} {H : Hp} {E : XK} (hcm : false = false → cm = true) (he : Here false (cxG cm pn TP w K mg base n_law dp_law.qual dp_law.scope (dp_law.at_.ad K) cd A outer s H E) (fun cls dd _ H' => E cls dd H') 4) : SJ (cxG cm pn TP w K mg base n_law dp_law.qual dp_law.scope (dp_law.at_.ad K) cd A outer s H E) (fun cls dd _ H' => E cls dd H') ((defBody st_law).getD 18 (.Pass ⟨0, 0, 0, 0⟩)) p_law_17 :=
  (s_set 11 (e_cmeth (cm_Light_numbered T).1 (cm_Light_numbered T).2 (fs_Light_numbered T) (.inl (hcm rfl)) (he.rm.mono (by decide)) he.tk (e_cls Cl.Light (g_Light T)) (a_cons (e_var 10) a_nil)) sc_law.nd)
theorem sj_law_18 (T : Tt K mg base) {cm : Bool} {pn : List (Addr × Obj)} {cd : Value} {A : Around} {outer : List Env} {s : Shared} {H : Hp} {E : XK} (hcm : false = false → cm = true) (he : Here false (cxG cm pn TP w K mg base n_law dp_law.qual dp_law.scope (dp_law.at_.ad K) cd A outer s H E) (fun cls dd _ H' => E cls dd H') 4) : SJ (cxG cm pn TP w K mg base n_law dp_law.qual dp_law.scope (dp_law.at_.ad K) cd A outer s H E) (fun cls dd _ H' => E cls dd H') ((defBody st_law).getD 19 (.Pass ⟨0, 0, 0, 0⟩)) p_law_18 :=
  (s_if (t_w (w_or (t_not (t_val (e_call (fs__law_is T) (.inl (hcm rfl)) (he.rm.mono (by decide)) he.tk (g__law_is T) (k__law_is T) (a_cons (e_meth (mt_Light_within T) (.inl (hcm rfl)) (he.rm.mono (by decide)) he.tk (e_var 5) (a_cons (e_var 11) a_nil)) (a_cons (e_eq (e_andI (e_var 2) (e_var 10)) (e_var 2)) a_nil))))) (w_or1 (t_not (t_val (e_call (fs__law_is T) (.inl (hcm rfl)) (he.rm.mono (by decide)) he.tk (g__law_is T) (k__law_is T) (a_cons (e_cmp (op_ownEq (mt_Light___eq__ T) (hcm rfl) (he.rm.mono (by decide))) (pop_ownEq (ki_ T) (ke_Light T)) (e_var 5) (e_var 11) (nomark _)) (a_cons (e_eq (e_var 2) (e_var 10)) a_nil)))))))) (b_one (s_ret e_bl)) b_nil)
theorem sj_law_19 (T : Tt K mg base) {cm : Bool} {pn : List (Addr × Obj)} {cd : Value} {A : Around} {outer : List Env} {s : Shared} {H : Hp} {E : XK} (hcm : false = false → cm = true) (he : Here false (cxG cm pn TP w K mg base n_law dp_law.qual dp_law.scope (dp_law.at_.ad K) cd A outer s H E) (fun cls dd _ H' => E cls dd H') 4) : SJ (cxG cm pn TP w K mg base n_law dp_law.qual dp_law.scope (dp_law.at_.ad K) cd A outer s H E) (fun cls dd _ H' => E cls dd H') ((defBody st_law).getD 20 (.Pass ⟨0, 0, 0, 0⟩)) p_law_19 :=
  (s_ret (e_and (e_call (fs__law_is T) (.inl (hcm rfl)) (he.rm.mono (by decide)) he.tk (g__law_is T) (k__law_is T) (a_cons (e_meth (mt_Light_within T) (.inl (hcm rfl)) (he.rm.mono (by decide)) he.tk (e_var 5) (a_cons (e_var 6) a_nil)) (a_cons (e_eq (e_andI (e_var 2) (e_var 3)) (e_var 2)) a_nil))) (e_one (e_call (fs__law_is T) (.inl (hcm rfl)) (he.rm.mono (by decide)) he.tk (g__law_is T) (k__law_is T) (a_cons (e_cmp (op_ownEq (mt_Light___eq__ T) (hcm rfl) (he.rm.mono (by decide))) (pop_ownEq (ki_ T) (ke_Light T)) (e_own (mt_Light___or__ T) (sf_Light___or__ T) (.inl (hcm rfl)) (he.rm.mono (by decide)) he.tk (e_var 5) (e_var 11)) (e_var 11) (nomark _)) (a_cons (e_eq (e_andI (e_var 2) (e_var 10)) (e_var 2)) a_nil))))))
theorem fo_law (c : Says want K) : ∃ fd : FuncData, (∀ (s : Shared) (u : Value), BindsTo s fd ⟨[u], []⟩ [("_law_script", u)]) ∧ ∀ base : Heap, K.In base → base.Ns mainGlobals mg → FnOk TP w K mg base (L2N.CX TP w) 5 (He.ga K "law") fd ["_law_script"] (spLaw K) := by
  obtain ⟨fd, Fn⟩ := c.def_ 17 (d := dp_law) rfl
  have b := FunD.bindsA (ps := ["_law_script"]) Fn fun _ _ _ _ _ _ us hl => match us, hl with | [_], _ => rfl
  refine ⟨fd, fun s v => b s [v] rfl, fun base kb nb => ?_⟩
  have T : Tt K mg base := ⟨c, kb, nb⟩
  refine (fn_law (n := 10) (k := 4) (d := d_law) Fn sc_law rfl rfl rfl (fun pn cd A outer s H E he => ?_) (fun pn cd A outer s H E he => ?_) pure_law).calm
  · exact ps_set (i := 1) sc_law.nd rfl (Or.inl rfl) (pe_raw (fs__law_box T) (.inl rfl) (he.rm.mono (by decide)) he.tk (g__law_box T) (k__law_box T) (pa_cons (pv 0) pa_nil))
  · have hcm : false = false → true = true := fun _ => rfl
    exact (b_cons (sj_law_0 T hcm he) (b_cons (sj_law_1 T hcm he) (b_cons (sj_law_2 T hcm he) (b_cons (sj_law_3 T hcm he) (b_cons (sj_law_4 T hcm he) (b_cons (sj_law_5 T hcm he) (b_cons (sj_law_6 T hcm he) (b_cons (sj_law_7 T hcm he) (b_cons (sj_law_8 T hcm he) (b_cons (sj_law_9 T hcm he) (b_cons (sj_law_10 T hcm he) (b_cons (sj_law_11 T hcm he) (b_cons (sj_law_12 T hcm he) (b_cons (sj_law_13 T hcm he) (b_cons (sj_law_14 T hcm he) (b_cons (sj_law_15 T hcm he) (b_cons (sj_law_16 T hcm he) (b_cons (sj_law_17 T hcm he) (b_cons (sj_law_18 T hcm he) (b_one (sj_law_19 T hcm he)))))))))))))))))))))
end
/-! ### the head -/
abbrev R : PySem.W.OpenRow := PySem.W.OpenLaw.row PySem.Challenge.rw_laidink_k04_light_questions
abbrev hk : PySem.W.Hook := want.hook
def ob (s : PySem.W.SharedT) : AlP := want.obs (HandSHeadRun.getT s)
theorem ob_eq (s : PySem.W.SharedT) : ob s = hk.obs s.abs := Want.obs_eq (HandSHeadRun.getT_eq s)
theorem run (w : World) : HandSHeadRun.RunEq R (PySem.W.view R.prog [14]) hk ob 3000 ["_wall", "PrintError", "InvalidBand", "Light", "_law_box", "_law_draw", "_law_bands", "_law_is", "_law_int", "_law_same_text", "_law_word"] w := by
  intro os
  kernel_rfl
end K04
open PySem PySem.W PySem.Calls PyProof.Rows
theorem PySem.Challenge.cw_laidink_k04_light_questions_holds : PySem.Challenge.rw_laidink_k04_light_questions.Holds := by
  w_on; o_law
  refine HandSHeadRun.head_any (r := OpenLaw.row PySem.Challenge.rw_laidink_k04_light_questions) (q := view (OpenLaw.row PySem.Challenge.rw_laidink_k04_light_questions).prog [14]) (H := K04.hk) (ob := K04.ob) (M := 3000) (loose := ["_wall", "PrintError", "InvalidBand", "Light", "_law_box", "_law_draw", "_law_bands", "_law_is", "_law_int", "_law_same_text", "_law_word"]) (d := HandSHeadRun.topDef (OpenLaw.row PySem.Challenge.rw_laidink_k04_light_questions).prog 14) (kwd := []) K04.ob_eq
    (by kernel_rfl) (fun s => by kernel_rfl) K04.run (by kernel_rfl) (by kernel_rfl) (by kernel_rfl) (by rfl) (by first | assumption | decide +kernel) (by decide +kernel) ⟨rfl, rfl, rfl, rfl, rfl, by decide +kernel⟩ ?hw ?hc
  case hw => w_witness2
  case hc =>
    refine Pw.law_end (l := PySem.Challenge.rw_laidink_k04_light_questions) (t := K04.want) (k := 5) (x := "_law_script") (sp := Pw.spLaw) rfl (by kernel_rfl) ⟨rfl, by decide, by decide⟩ (fun w mg fa h K KX c G hmg0 => ?_) (fun K H a ns hl _ _ hS => ⟨a, ns, rfl, hl, hS, fun _ => rfl⟩)
    have hmg : mg ("law" : PySem.Str) = some (.ref fa) := by
      have e : (HandSHeadRun.topDef (OpenLaw.row PySem.Challenge.rw_laidink_k04_light_questions).prog 14).name = ("law" : PySem.Str) := by kernel_rfl
      rw [← e]
      exact hmg0
    have e := hmg.symm.trans (K04.g_law (mg := mg) (base := h) ⟨c, KX, G⟩)
    cases e
    exact K04.fo_law (w := w) (mg := mg) c
