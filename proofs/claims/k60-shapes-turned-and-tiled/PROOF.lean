import PyProof.Rows.All
import Wide.All
import OpenK.AllK
import Wide.FinOn
import HandS.ForMost
import HandS.Exc
import HandS.TryOnly
import HandS.ExcOwn
import HandS.WordsExc
import HandS.Star
import HandS.ClsMeth
import HandS.Defaults
import HandS.HeadHook1
import HandS.HeadHook2
import HandS.ExcField
import HandS.ExcCtx
import HandS.HotCalls
import HandS.IsInst
import HandS.Wide
import HandS.TupAny
import HandS.Text
import KE.KExcSuper
import HandS.HeadNt
import KE.KStateDown
import Lean
import HandS.Head0
import HandS.Head1
import HandS.Head2
import HandS.HeadEnd
import HandS.EndBits
import KE.KOpsOwn
import KE.KCallOwn
import HandS.FStr
import HandS.RaiseMore
import PyProof.Conv_bool
import HandS.Nested
import KE.KSuper
import HandS.OwnEq
import PyProof.NeKinds
import HandS.Property
import HandS.ExcIs
import HandS.Set
import HandS.SetFor
import HandS.SetBool
import HandS.Comp
import PyProof.Rows.SortShellAny
import OpenK.KMeth
import HandS.Iter
import HandS.Rev
import KE.GoesEnum
import HandS.SortInts
import HandS.Conv
import KE.GoesZip
import HandS.Style
import PyProof.StrOps2
import PyProof.Rows.RegReprOcc
import PySem.Challenge.RW_laidink_k60_shapes_turned_and_tiled
set_option Elab.async false
set_option linter.all false
set_option maxRecDepth 100000
set_option maxHeartbeats 4000000
/-! # Px: plain values for the objects of the package, a plain store for what changes; the heap goes into rules once and for all -/
namespace Px
open PySem PySem.Spec PyProof.Rows L2

/-! ## classes of the package, their fields in the order in which they are stored -/
inductive Cl where
  | Light | Film | Ink | Filter | Opaque | Bleach | Pass | Row | Spot | Chart | Shape | Sheet | Press
  | PrintError | InvalidBand | InvalidInk | InvalidTakes | InvalidPass | NoSuchPass | NotAnOrder | TooLong | TooManyMasks
  | Conditional | CannotCome | InvalidShape | WrongSize | UnknownMask | UnknownPlace | InvalidText | NothingToUndo
  | NothingToRedo | InvalidLimit | InvalidRun
  deriving DecidableEq
def Cl.name : Cl → Str
  | .Light => "Light" | .Film => "Film" | .Ink => "Ink" | .Filter => "Filter" | .Opaque => "Opaque" | .Bleach => "Bleach"
  | .Pass => "Pass" | .Row => "Row" | .Spot => "Spot" | .Chart => "Chart" | .Shape => "Shape" | .Sheet => "Sheet" | .Press => "Press"
  | .PrintError => "PrintError" | .InvalidBand => "InvalidBand" | .InvalidInk => "InvalidInk" | .InvalidTakes => "InvalidTakes"
  | .InvalidPass => "InvalidPass" | .NoSuchPass => "NoSuchPass" | .NotAnOrder => "NotAnOrder" | .TooLong => "TooLong"
  | .TooManyMasks => "TooManyMasks" | .Conditional => "Conditional" | .CannotCome => "CannotCome" | .InvalidShape => "InvalidShape"
  | .WrongSize => "WrongSize" | .UnknownMask => "UnknownMask" | .UnknownPlace => "UnknownPlace" | .InvalidText => "InvalidText"
  | .NothingToUndo => "NothingToUndo" | .NothingToRedo => "NothingToRedo" | .InvalidLimit => "InvalidLimit" | .InvalidRun => "InvalidRun"
def Cl.flds : Cl → List Str
  | .Light => ["number", "bands"] | .Film => ["bare", "inked"]
  | .Ink => ["off", "on", "takes"] | .Filter => ["off", "on", "takes"] | .Opaque => ["off", "on", "takes"] | .Bleach => ["off", "on", "takes"]
  | .Pass => ["mask", "ink", "around"] | .Row => ["passes", "masks"] | .Spot => ["opened", "ground", "inked"]
  | .Chart => ["mask", "leaf", "when_shut", "when_open"] | .Shape => ["lines", "width", "height"] | .Sheet => ["width", "height", "places"]
  | .Press => ["shapes", "sheet_now", "row_now", "before", "behind", "most"]
  | .PrintError => [] | .InvalidBand => ["band"] | .InvalidInk => ["band"] | .InvalidTakes => ["takes"] | .InvalidPass => ["mask"]
  | .NoSuchPass => ["number"] | .NotAnOrder => [] | .TooLong => ["many"] | .TooManyMasks => ["many"] | .Conditional => ["number"]
  | .CannotCome => ["place"] | .InvalidShape => ["line"] | .WrongSize => ["mask"] | .UnknownMask => ["mask"] | .UnknownPlace => ["x", "y"]
  | .InvalidText => ["line"] | .NothingToUndo => [] | .NothingToRedo => [] | .InvalidLimit => ["worth"] | .InvalidRun => ["number"]

/-! ## plain values; cell: what may change, told by the store -/
inductive PV where
  | non | bl (b : Bool) | int (i : Int) | str (s : Str)
  | tup (xs : List PV) | lst (xs : List PV)
  | obj (c : Cl) (xs : List PV)
  | cls (c : Cl)
  | ty (n : String)
  | box
  | exc (a d : Addr) (c : Cl) (xs : List PV)
  | cell (a : Addr)
  | dK (ks : List Key) (xs : List PV)
  | dT (ks : List (List Key)) (xs : List PV)

abbrev Frg := PySem.W.Frag
/-- where the class c stands -/
abbrev ca (K : Frg) (c : Cl) : Addr := He.ga K c.name
/-- the box that a law draws from, its cells -/
abbrev BX := Option (Addr × Addr)
def isB (B : BX) (a : Addr) : Prop := ∃ b c, B = some (b, c) ∧ (a = b ∨ a = c)

/-- a class whose instances are read and stored plainly -/
def kcB (K : Frg) (c : Cl) : Bool := (He.Fa.cls c.name).ok K && (He.eqO (PySem.W.findIn K (.ref (ca K c)) "__class__") (some (some (.builtin "object.__class__"))) &&
  (He.eqO (PySem.W.specialIn K (.builtin "object.__class__") "__get__") (some (some (.builtin "getset_descriptor.__get__"))) && (decide (PySem.W.takesIn K (.builtin "object.__class__") = some true) &&
    (decide (PySem.W.mroIn K (ca K c) (.type "object") = some true) && c.flds.all fun f => He.eqO (PySem.W.findIn K (.ref (ca K c)) f) (some none)))))
/-- a class of errors -/
def xcB (K : Frg) (c : Cl) : Bool := xfB K (ca K c) && c.flds.all fun f => decide (PySem.W.findIn K (.ref (ca K c)) f = some none)
def knB (K : Frg) (c : Cl) : Bool := kcB K c || xcB K c
section
variable (K : Frg) (B : BX) (G : Hp)
mutual
def Rep : PV → V → Prop
  | .non, v => v = .non
  | .bl b, v => v = .bl b
  | .int i, v => v = .int i
  | .str s, v => v = .str s
  | .tup xs, v => ∃ a vs, v = .ref a ∧ SqT K G a vs ∧ Reps xs vs
  | .lst xs, v => ∃ a vs, v = .ref a ∧ G a = some (.lst vs) ∧ Reps xs vs
  | .obj c xs, v => ∃ a dx vs, v = .ref a ∧ kcB K c = true ∧ G a = some (.ins (ca K c) dx (c.flds.zip vs)) ∧ vs.length = c.flds.length ∧ Reps xs vs
  | .cls c, v => v = .ref (ca K c) ∧ knB K c = true
  | .ty n, v => v = .ty n
  | .box, v => ∃ b c, B = some (b, c) ∧ v = .ref b
  | .exc a d c xs, v => v = .ref a ∧ (c.flds = [] ∨ ∃ vs, G d = some (.xd (c.flds.zip vs)) ∧ vs.length = c.flds.length ∧ Reps xs vs)
  | .cell a, v => v = .ref a
  | .dK ks xs, v => ∃ a vs, v = .ref a ∧ G a = some (.dK (ks.zip vs)) ∧ vs.length = ks.length ∧ Reps xs vs
  | .dT ks xs, v => ∃ a vs, v = .ref a ∧ G a = some (.dT (ks.zip vs)) ∧ vs.length = ks.length ∧ Reps xs vs
def Reps : List PV → List V → Prop
  | [], vs => vs = []
  | x :: xs, vs => ∃ v ws, vs = v :: ws ∧ Rep x v ∧ Reps xs ws
end
end

/-- all of G stands in H -/
def Sub (G H : Hp) : Prop := ∀ a o, G a = some o → H a = some o
theorem Sub.refl (G : Hp) : Sub G G := fun _ _ h => h
theorem Sub.trans {G H J : Hp} (a : Sub G H) (b : Sub H J) : Sub G J := fun x o h => b x o (a x o h)
theorem Sub.rd {G H : Hp} {a : Addr} {u : HO} (s : Sub G H) (h : Rd G a u) : Rd H a u := by
  rcases h with h | ⟨o, h⟩
  · exact .inl (s _ _ h)
  · exact .inr ⟨o, s _ _ h⟩
theorem Sub.l {K : Frg} {G H : Hp} {a : Addr} {xs : List V} (s : Sub G H) (h : SqL K G a xs) : SqL K H a xs := by
  rcases h with h | h
  · exact .inl (s.rd h)
  · exact .inr h
theorem Sub.t {K : Frg} {G H : Hp} {a : Addr} {xs : List V} (s : Sub G H) (h : SqT K G a xs) : SqT K H a xs := by
  rcases h with h | h
  · exact .inl (s.rd h)
  · exact .inr h
theorem Sub.free {G H : Hp} (s : Sub G H) {a : Addr} (h : H a = none) : G a = none := by
  cases q : G a with
  | none => rfl
  | some o => rw [s a o q] at h; cases h
theorem Sub.upd {H : Hp} {p : Addr} {o : HO} (h : H p = none) : Sub H (upd H p o) := fun a u e => by
  rw [upd_ne (ne_of_none e h)]; exact e
theorem Sub.upd2 {G H : Hp} (s : Sub G H) (p : Addr) (o : HO) : Sub (L2.upd G p o) (L2.upd H p o) := fun a u e => by
  by_cases h : a = p
  · subst h; rw [upd_same] at e ⊢; exact e
  · rw [upd_ne h] at e ⊢; exact s a u e

section
variable {K : Frg} {B : BX} {G H : Hp}
mutual
theorem Rep.mono (s : Sub G H) : ∀ {x : PV} {v : V}, Rep K B G x v → Rep K B H x v
  | .non, v, h => by simp only [Rep] at h ⊢; exact h
  | .bl b, v, h => by simp only [Rep] at h ⊢; exact h
  | .int i, v, h => by simp only [Rep] at h ⊢; exact h
  | .str z, v, h => by simp only [Rep] at h ⊢; exact h
  | .tup xs, v, h => by
    simp only [Rep] at h ⊢
    obtain ⟨a, vs, e, q, r⟩ := h
    exact ⟨a, vs, e, s.t q, Reps.mono s r⟩
  | .lst xs, v, h => by
    simp only [Rep] at h ⊢
    obtain ⟨a, vs, e, q, r⟩ := h
    exact ⟨a, vs, e, s _ _ q, Reps.mono s r⟩
  | .obj c xs, v, h => by
    simp only [Rep] at h ⊢
    obtain ⟨a, dx, vs, e, kc, q, l, r⟩ := h
    exact ⟨a, dx, vs, e, kc, s _ _ q, l, Reps.mono s r⟩
  | .cls c, v, h => by simp only [Rep] at h ⊢; exact h
  | .ty n, v, h => by simp only [Rep] at h ⊢; exact h
  | .box, v, h => by simp only [Rep] at h ⊢; exact h
  | .exc a d c xs, v, h => by
    simp only [Rep] at h ⊢
    obtain ⟨e, z⟩ := h
    refine ⟨e, z.elim .inl fun ⟨vs, q, l, r⟩ => .inr ⟨vs, s _ _ q, l, Reps.mono s r⟩⟩
  | .cell a, v, h => by simp only [Rep] at h ⊢; exact h
  | .dK ks xs, v, h => by
    simp only [Rep] at h ⊢
    obtain ⟨a, vs, e, q, l, r⟩ := h
    exact ⟨a, vs, e, s _ _ q, l, Reps.mono s r⟩
  | .dT ks xs, v, h => by
    simp only [Rep] at h ⊢
    obtain ⟨a, vs, e, q, l, r⟩ := h
    exact ⟨a, vs, e, s _ _ q, l, Reps.mono s r⟩
theorem Reps.mono (s : Sub G H) : ∀ {xs : List PV} {vs : List V}, Reps K B G xs vs → Reps K B H xs vs
  | [], vs, h => by simp only [Reps] at h ⊢; exact h
  | x :: xs, vs, h => by
    simp only [Reps] at h ⊢
    obtain ⟨v, ws, e, r, rs⟩ := h
    exact ⟨v, ws, e, Rep.mono s r, Reps.mono s rs⟩
end
theorem Reps.nil : Reps K B G [] [] := by simp only [Reps]
theorem Reps.cons {x : PV} {v : V} {xs : List PV} {vs : List V} (r : Rep K B G x v) (rs : Reps K B G xs vs) : Reps K B G (x :: xs) (v :: vs) := by
  simp only [Reps]; exact ⟨v, vs, rfl, r, rs⟩
theorem Reps.cons_inv {x : PV} {xs : List PV} {vs : List V} (h : Reps K B G (x :: xs) vs) : ∃ v ws, vs = v :: ws ∧ Rep K B G x v ∧ Reps K B G xs ws := by
  simp only [Reps] at h; exact h
theorem Reps.nil_inv {vs : List V} (h : Reps K B G [] vs) : vs = [] := by simp only [Reps] at h; exact h
theorem Reps.length : ∀ {xs : List PV} {vs : List V}, Reps K B G xs vs → vs.length = xs.length
  | [], vs, h => by rw [h.nil_inv]; rfl
  | x :: xs, vs, h => by
    obtain ⟨v, ws, rfl, _, r⟩ := h.cons_inv
    simp only [List.length_cons, r.length]
theorem Reps.get : ∀ {xs : List PV} {vs : List V} {i : Nat} {x : PV}, Reps K B G xs vs → xs[i]? = some x → ∃ v, vs[i]? = some v ∧ Rep K B G x v
  | [], vs, i, x, h, e => by simp at e
  | y :: xs, vs, i, x, h, e => by
    obtain ⟨v, ws, rfl, r, rs⟩ := h.cons_inv
    cases i with
    | zero => simp at e; subst e; exact ⟨v, rfl, r⟩
    | succ i =>
      obtain ⟨u, e1, e2⟩ := Reps.get (i := i) rs (by simpa using e)
      exact ⟨u, by simpa using e1, e2⟩
theorem Reps.getV {xs : List PV} {vs : List V} {i : Nat} {v : V} (r : Reps K B G xs vs) (e : vs[i]? = some v) : ∃ x, xs[i]? = some x ∧ Rep K B G x v := by
  have hl := r.length
  have hi : i < xs.length := by rw [← hl]; exact (List.getElem?_eq_some_iff.mp e).1
  have ex : xs[i]? = some xs[i] := List.getElem?_eq_getElem hi
  obtain ⟨u, e1, e2⟩ := r.get ex
  rw [e] at e1
  cases e1
  exact ⟨_, ex, e2⟩
theorem Reps.append : ∀ {xs ys : List PV} {vs ws : List V}, Reps K B G xs vs → Reps K B G ys ws → Reps K B G (xs ++ ys) (vs ++ ws)
  | [], ys, vs, ws, h, r => by rw [h.nil_inv]; exact r
  | x :: xs, ys, vs, ws, h, r => by
    obtain ⟨v, us, rfl, q, qs⟩ := h.cons_inv
    exact .cons q (qs.append r)
theorem Reps.split : ∀ {xs ys : List PV} {vs : List V}, Reps K B G (xs ++ ys) vs → ∃ us ws, vs = us ++ ws ∧ Reps K B G xs us ∧ Reps K B G ys ws
  | [], ys, vs, h => ⟨[], vs, rfl, .nil, h⟩
  | x :: xs, ys, vs, h => by
    obtain ⟨v, us, rfl, q, qs⟩ := h.cons_inv
    obtain ⟨u1, u2, rfl, r1, r2⟩ := Reps.split qs
    exact ⟨v :: u1, u2, rfl, .cons q r1, r2⟩
theorem Reps.set : ∀ {xs : List PV} {vs : List V} {x : PV} {v : V} (i : Nat), Reps K B G xs vs → Rep K B G x v → Reps K B G (xs.set i x) (vs.set i v)
  | [], vs, x, v, i, h, r => by rw [h.nil_inv]; exact .nil
  | y :: xs, vs, x, v, i, h, r => by
    obtain ⟨w, us, rfl, q, qs⟩ := h.cons_inv
    cases i with
    | zero => exact .cons r qs
    | succ i => exact .cons q (Reps.set i qs r)
theorem Reps.take : ∀ {xs : List PV} {vs : List V} (n : Nat), Reps K B G xs vs → Reps K B G (xs.take n) (vs.take n)
  | [], vs, n, h => by rw [h.nil_inv, List.take_nil, List.take_nil]; exact .nil
  | y :: xs, vs, 0, h => .nil
  | y :: xs, vs, n + 1, h => by
    obtain ⟨w, us, rfl, q, qs⟩ := h.cons_inv
    exact .cons q (qs.take n)
theorem Reps.drop : ∀ {xs : List PV} {vs : List V} (n : Nat), Reps K B G xs vs → Reps K B G (xs.drop n) (vs.drop n)
  | [], vs, n, h => by rw [h.nil_inv, List.drop_nil, List.drop_nil]; exact .nil
  | y :: xs, vs, 0, h => h
  | y :: xs, vs, n + 1, h => by
    obtain ⟨w, us, rfl, q, qs⟩ := h.cons_inv
    exact qs.drop n
theorem Reps.reverse : ∀ {xs : List PV} {vs : List V}, Reps K B G xs vs → Reps K B G xs.reverse vs.reverse
  | [], vs, h => by rw [h.nil_inv]; exact .nil
  | y :: xs, vs, h => by
    obtain ⟨w, us, rfl, q, qs⟩ := h.cons_inv
    rw [List.reverse_cons, List.reverse_cons]
    exact qs.reverse.append (.cons q .nil)
theorem Reps.ints : ∀ {ns : List Int} {vs : List V}, Reps K B G (ns.map .int) vs → vs = ns.map V.int
  | [], vs, h => h.nil_inv
  | n :: ns, vs, h => by
    obtain ⟨v, us, rfl, q, qs⟩ := Reps.cons_inv (xs := ns.map PV.int) h
    simp only [Rep] at q
    rw [q, Reps.ints qs]
    rfl
theorem Reps.ofInts : ∀ (ns : List Int), Reps K B G (ns.map .int) (ns.map V.int)
  | [] => .nil
  | n :: ns => .cons (by simp only [Rep]) (Reps.ofInts ns)
theorem Reps.strs : ∀ {ys : List Str} {vs : List V}, Reps K B G (ys.map .str) vs → vs = ys.map V.str
  | [], vs, h => h.nil_inv
  | n :: ns, vs, h => by
    obtain ⟨v, us, rfl, q, qs⟩ := Reps.cons_inv (xs := ns.map PV.str) h
    simp only [Rep] at q
    rw [q, Reps.strs qs]
    rfl
theorem Reps.ofStrs : ∀ (ns : List Str), Reps K B G (ns.map .str) (ns.map V.str)
  | [] => .nil
  | n :: ns => .cons (by simp only [Rep]) (Reps.ofStrs ns)
theorem Reps.bls : ∀ {bs : List Bool} {vs : List V}, Reps K B G (bs.map .bl) vs → vs = bs.map V.bl
  | [], vs, h => h.nil_inv
  | n :: ns, vs, h => by
    obtain ⟨v, us, rfl, q, qs⟩ := Reps.cons_inv (xs := ns.map PV.bl) h
    simp only [Rep] at q
    rw [q, Reps.bls qs]
    rfl
theorem rep_tup {a : Addr} {xs : List PV} {vs : List V} (h : SqT K G a vs) (r : Reps K B G xs vs) : Rep K B G (.tup xs) (.ref a) := by
  simp only [Rep]; exact ⟨a, vs, rfl, h, r⟩
theorem rep_lst {a : Addr} {xs : List PV} {vs : List V} (h : G a = some (.lst vs)) (r : Reps K B G xs vs) : Rep K B G (.lst xs) (.ref a) := by
  simp only [Rep]; exact ⟨a, vs, rfl, h, r⟩
theorem rep_int (i : Int) : Rep K B G (.int i) (.int i) := by simp only [Rep]
theorem rep_bl (i : Bool) : Rep K B G (.bl i) (.bl i) := by simp only [Rep]
theorem rep_str (i : Str) : Rep K B G (.str i) (.str i) := by simp only [Rep]
theorem rep_non : Rep K B G .non .non := by simp only [Rep]
theorem rep_ty (n : String) : Rep K B G (.ty n) (.ty n) := by simp only [Rep]
theorem rep_cell (a : Addr) : Rep K B G (.cell a) (.ref a) := by simp only [Rep]
theorem rep_cls (c : Cl) (h : knB K c = true) : Rep K B G (.cls c) (.ref (ca K c)) := by simp only [Rep]; exact ⟨trivial, h⟩
theorem Rep.ty_inv {n : String} {v : V} (h : Rep K B G (.ty n) v) : v = .ty n := by simp only [Rep] at h; exact h
theorem Rep.int_inv {i : Int} {v : V} (h : Rep K B G (.int i) v) : v = .int i := by simp only [Rep] at h; exact h
theorem Rep.bl_inv {i : Bool} {v : V} (h : Rep K B G (.bl i) v) : v = .bl i := by simp only [Rep] at h; exact h
theorem Rep.str_inv {i : Str} {v : V} (h : Rep K B G (.str i) v) : v = .str i := by simp only [Rep] at h; exact h
theorem Rep.non_inv {v : V} (h : Rep K B G .non v) : v = .non := by simp only [Rep] at h; exact h
theorem Rep.cls_inv {c : Cl} {v : V} (h : Rep K B G (.cls c) v) : v = .ref (ca K c) := by simp only [Rep] at h; exact h.1
theorem Rep.cls_kn {c : Cl} {v : V} (h : Rep K B G (.cls c) v) : knB K c = true := by simp only [Rep] at h; exact h.2
theorem Rep.cell_inv {a : Addr} {v : V} (h : Rep K B G (.cell a) v) : v = .ref a := by simp only [Rep] at h; exact h
theorem Rep.tup_inv {xs : List PV} {v : V} (h : Rep K B G (.tup xs) v) : ∃ a vs, v = .ref a ∧ SqT K G a vs ∧ Reps K B G xs vs := by simp only [Rep] at h; exact h
theorem Rep.lst_inv {xs : List PV} {v : V} (h : Rep K B G (.lst xs) v) : ∃ a vs, v = .ref a ∧ G a = some (.lst vs) ∧ Reps K B G xs vs := by simp only [Rep] at h; exact h
theorem Rep.obj_inv {c : Cl} {xs : List PV} {v : V} (h : Rep K B G (.obj c xs) v) : ∃ a dx vs, v = .ref a ∧ kcB K c = true ∧ G a = some (.ins (ca K c) dx (c.flds.zip vs)) ∧ vs.length = c.flds.length ∧ Reps K B G xs vs := by simp only [Rep] at h; exact h
theorem Rep.box_inv {v : V} (h : Rep K B G .box v) : ∃ b c, B = some (b, c) ∧ v = .ref b := by simp only [Rep] at h; exact h
theorem Rep.exc_inv {a d : Addr} {c : Cl} {xs : List PV} {v : V} (h : Rep K B G (.exc a d c xs) v) : v = .ref a ∧ (c.flds = [] ∨ ∃ vs, G d = some (.xd (c.flds.zip vs)) ∧ vs.length = c.flds.length ∧ Reps K B G xs vs) := by simp only [Rep] at h; exact h
theorem Rep.dK_inv {ks : List Key} {xs : List PV} {v : V} (h : Rep K B G (.dK ks xs) v) : ∃ a vs, v = .ref a ∧ G a = some (.dK (ks.zip vs)) ∧ vs.length = ks.length ∧ Reps K B G xs vs := by simp only [Rep] at h; exact h
theorem Rep.dT_inv {ks : List (List Key)} {xs : List PV} {v : V} (h : Rep K B G (.dT ks xs) v) : ∃ a vs, v = .ref a ∧ G a = some (.dT (ks.zip vs)) ∧ vs.length = ks.length ∧ Reps K B G xs vs := by simp only [Rep] at h; exact h
end

/-! ## the store -/
inductive Cell where
  | lst (xs : List PV)
  | ins (c : Cl) (fs : List (Str × PV))
  | dK (ks : List Key) (xs : List PV)
  | dT (ks : List (List Key)) (xs : List PV)
abbrev Mu := Addr → Option Cell
def Mu.put (μ : Mu) (a : Addr) (c : Cell) : Mu := fun b => if b = a then some c else μ b
def Mu.del (μ : Mu) (a : Addr) : Mu := fun b => if b = a then none else μ b
theorem Mu.put_same (μ : Mu) (a : Addr) (c : Cell) : μ.put a c a = some c := by unfold Mu.put; rw [if_pos rfl]
theorem Mu.put_ne (μ : Mu) {a b : Addr} (c : Cell) (h : b ≠ a) : μ.put a c b = μ b := by unfold Mu.put; rw [if_neg h]
theorem Mu.del_same (μ : Mu) (a : Addr) : μ.del a a = none := by unfold Mu.del; rw [if_pos rfl]
theorem Mu.del_ne (μ : Mu) {a b : Addr} (h : b ≠ a) : μ.del a b = μ b := by unfold Mu.del; rw [if_neg h]
theorem Mu.put_put (μ : Mu) (a : Addr) (c d : Cell) : (μ.put a c).put a d = μ.put a d := by
  funext b; unfold Mu.put; split <;> rfl
theorem Mu.del_put (μ : Mu) (a : Addr) (c : Cell) : (μ.put a c).del a = μ.del a := by
  funext b
  by_cases e : b = a
  · subst e; rw [Mu.del_same, Mu.del_same]
  · rw [Mu.del_ne _ e, Mu.del_ne _ e, Mu.put_ne _ _ e]
theorem Mu.del_none {μ : Mu} {a : Addr} (h : μ a = none) : μ.del a = μ := by
  funext b; unfold Mu.del
  split
  · rename_i e; rw [e, h]
  · rfl
theorem Mu.put_comm (μ : Mu) {a b : Addr} (c d : Cell) (h : a ≠ b) : (μ.put a c).put b d = (μ.put b d).put a c := by
  funext x
  by_cases e : x = b
  · subst e
    rw [Mu.put_same, Mu.put_ne _ _ (Ne.symm h), Mu.put_same]
  · by_cases e2 : x = a
    · subst e2
      rw [Mu.put_ne _ _ e, Mu.put_same, Mu.put_same]
    · rw [Mu.put_ne _ _ e, Mu.put_ne _ _ e2, Mu.put_ne _ _ e2, Mu.put_ne _ _ e]
theorem Mu.del_put_ne (μ : Mu) {a b : Addr} (c : Cell) (h : a ≠ b) : (μ.put a c).del b = (μ.del b).put a c := by
  funext x
  by_cases e : x = b
  · subst e
    rw [Mu.del_same, Mu.put_ne _ _ (Ne.symm h), Mu.del_same]
  · by_cases e2 : x = a
    · subst e2
      rw [Mu.del_ne _ e, Mu.put_same, Mu.put_same]
    · rw [Mu.del_ne _ e, Mu.put_ne _ _ e2, Mu.put_ne _ _ e2, Mu.del_ne _ e]

def FRep (K : Frg) (B : BX) (G : Hp) (fs : List (Str × PV)) (ws : List (Str × V)) : Prop := Paired (fun (p : Str × PV) (q : Str × V) => p.1 = q.1 ∧ Rep K B G p.2 q.2) fs ws
theorem FRep.mono {K : Frg} {B : BX} {G H : Hp} (s : Sub G H) {fs : List (Str × PV)} {ws : List (Str × V)} (h : FRep K B G fs ws) : FRep K B H fs ws := Paired.mapP h fun _ _ z => ⟨z.1, z.2.mono s⟩
def CellOk (K : Frg) (B : BX) (G : Hp) : Cell → HO → Prop
  | .lst xs, o => ∃ vs, o = .lst vs ∧ Reps K B G xs vs
  | .ins c fs, o => ∃ dx ws, o = .ins (ca K c) dx ws ∧ kcB K c = true ∧ (∀ p ∈ fs, p.1 ∈ c.flds) ∧ FRep K B G fs ws
  | .dK ks xs, o => ∃ vs, o = .dK (ks.zip vs) ∧ vs.length = ks.length ∧ Reps K B G xs vs
  | .dT ks xs, o => ∃ vs, o = .dT (ks.zip vs) ∧ vs.length = ks.length ∧ Reps K B G xs vs
theorem CellOk.mono {K : Frg} {B : BX} {G H : Hp} (s : Sub G H) : ∀ {c : Cell} {o : HO}, CellOk K B G c o → CellOk K B H c o
  | .lst xs, o, ⟨vs, e, r⟩ => ⟨vs, e, r.mono s⟩
  | .ins c fs, o, ⟨dx, ws, e, kc, fl, r⟩ => ⟨dx, ws, e, kc, fl, r.mono s⟩
  | .dK ks xs, o, ⟨vs, e, l, r⟩ => ⟨vs, e, l, r.mono s⟩
  | .dT ks xs, o, ⟨vs, e, l, r⟩ => ⟨vs, e, l, r.mono s⟩

/-! ## states: G is what never changes again, μ tells what may -/
def BoxAt (H : Hp) (b c : Addr) : Prop := b ≠ c ∧ ∃ (ns : List Int) (p st : Int), H b = some (.lst [.ref c, .int p, .int st]) ∧ H c = some (.lst (ns.map V.int)) ∧ 0 ≤ p ∧ 0 ≤ st ∧ st < 2147483647 ∧ ns.length ≤ 63
theorem BoxAt.some1 {H : Hp} {b c : Addr} (h : BoxAt H b c) : ∃ o, H b = some o := by obtain ⟨_, _, _, _, e, _⟩ := h; exact ⟨_, e⟩
theorem BoxAt.some2 {H : Hp} {b c : Addr} (h : BoxAt H b c) : ∃ o, H c = some o := by obtain ⟨_, _, _, _, _, e, _⟩ := h; exact ⟨_, e⟩
theorem BoxAt.same {H H' : Hp} {b c : Addr} (h : BoxAt H b c) (k : ∀ a o, H a = some o → (a = b ∨ a = c) → H' a = some o) : BoxAt H' b c := by
  obtain ⟨n, ns, p, st, e1, e2, r⟩ := h
  exact ⟨n, ns, p, st, k _ _ e1 (.inl rfl), k _ _ e2 (.inr rfl), r⟩
structure Ok (K : Frg) (B : BX) (μ : Mu) (G H : Hp) : Prop where
  sub : Sub G H
  cell : ∀ a c, μ a = some c → G a = none ∧ ¬ isB B a ∧ ∃ o, H a = some o ∧ CellOk K B G c o
  box : ∀ b c, B = some (b, c) → BoxAt H b c ∧ G b = none ∧ G c = none
/-- from one state to a later one -/
structure Stp (B : BX) (μ : Mu) (G H : Hp) (μ' : Mu) (G' H' : Hp) : Prop where
  gx : Sub G G'
  dom : ∀ a, H' a = none → H a = none
  keep : ∀ a o, H a = some o → ¬ isB B a → μ a = none → H' a = some o
  new : ∀ a o, G' a = some o → G a = some o ∨ H a = none ∨ μ a ≠ none
  cel : ∀ a, μ' a ≠ none → μ a ≠ none ∨ H a = none
theorem Stp.refl {B : BX} {μ : Mu} {G H : Hp} : Stp B μ G H μ G H := ⟨.refl _, fun _ h => h, fun _ _ h _ _ => h, fun _ _ h => .inl h, fun _ h => .inl h⟩
theorem Stp.trans {B : BX} {μ μ1 μ2 : Mu} {G H G1 H1 G2 H2 : Hp} (x : Stp B μ G H μ1 G1 H1) (y : Stp B μ1 G1 H1 μ2 G2 H2) : Stp B μ G H μ2 G2 H2 where
  gx := x.gx.trans y.gx
  dom := fun a h => x.dom a (y.dom a h)
  keep := fun a o e nb n => y.keep a o (x.keep a o e nb n) nb (by
    cases q : μ1 a with
    | none => rfl
    | some c =>
      rcases x.cel a (by rw [q]; intro z; cases z) with z | z
      · exact absurd n z
      · rw [e] at z; cases z)
  new := fun a o e => by
    rcases y.new a o e with z | z | z
    · exact x.new a o z
    · exact .inr (.inl (x.dom a z))
    · exact .inr ((x.cel a z).symm)
  cel := fun a h => by
    rcases y.cel a h with z | z
    · exact x.cel a z
    · exact .inr (x.dom a z)
structure Go (K : Frg) (B : BX) (μ : Mu) (G H : Hp) (μ' : Mu) (G' H' : Hp) : Prop where
  ok : Ok K B μ' G' H'
  st : Stp B μ G H μ' G' H'
section
variable {K : Frg} {B : BX} {μ μ1 μ2 : Mu} {G H G1 H1 G2 H2 : Hp}
theorem Go.refl (o : Ok K B μ G H) : Go K B μ G H μ G H := ⟨o, .refl⟩
theorem Go.gx (g : Go K B μ G H μ1 G1 H1) : Sub G G1 := g.st.gx
theorem Go.trans (x : Go K B μ G H μ1 G1 H1) (y : Go K B μ1 G1 H1 μ2 G2 H2) : Go K B μ G H μ2 G2 H2 := ⟨y.ok, x.st.trans y.st⟩
theorem Ok.isB_some (o : Ok K B μ G H) {a : Addr} (h : isB B a) : ∃ u, H a = some u := by
  obtain ⟨b, c, e, r⟩ := h
  obtain ⟨bt, _⟩ := o.box b c e
  rcases r with rfl | rfl
  · exact bt.some1
  · exact bt.some2
theorem Ok.notB (o : Ok K B μ G H) {a : Addr} (h : H a = none) : ¬ isB B a := fun z => by
  obtain ⟨u, e⟩ := o.isB_some z; rw [h] at e; cases e
theorem Ok.freeM (o : Ok K B μ G H) {a : Addr} (h : H a = none) : μ a = none := by
  cases q : μ a with
  | none => rfl
  | some c => obtain ⟨_, _, u, e, _⟩ := o.cell a c q; rw [h] at e; cases e
theorem Ok.gB (o : Ok K B μ G H) {a : Addr} (h : isB B a) : G a = none := by
  obtain ⟨b, c, e, r⟩ := h
  obtain ⟨_, h1, h2⟩ := o.box b c e
  rcases r with rfl | rfl
  · exact h1
  · exact h2
/-- a new object that never changes -/
theorem Ok.new1 (o : Ok K B μ G H) {p : Addr} {u : HO} (h : H p = none) : Go K B μ G H μ (upd G p u) (upd H p u) := by
  have hg : G p = none := o.sub.free h
  refine ⟨⟨o.sub.upd2 p u, fun a c e => ?_, fun b c e => ?_⟩, ⟨.upd hg, fun a e => ?_, fun a x e _ _ => ?_, fun a x e => ?_, fun a e => .inl e⟩⟩
  · obtain ⟨g1, nb, v, e1, r⟩ := o.cell a c e
    have n : a ≠ p := ne_of_none e1 h
    exact ⟨by rw [upd_ne n]; exact g1, nb, v, by rw [upd_ne n]; exact e1, r.mono (.upd hg)⟩
  · obtain ⟨bt, gb, gc⟩ := o.box b c e
    obtain ⟨u1, e1⟩ := bt.some1
    obtain ⟨u2, e2⟩ := bt.some2
    have n1 : b ≠ p := ne_of_none e1 h
    have n2 : c ≠ p := ne_of_none e2 h
    refine ⟨bt.same fun a x q r => ?_, ?_, ?_⟩
    · rw [upd_ne (ne_of_none q h)]; exact q
    · rw [upd_ne n1]; exact gb
    · rw [upd_ne n2]; exact gc
  · by_cases z : a = p
    · subst z; exact h
    · rw [upd_ne z] at e; exact e
  · rw [upd_ne (ne_of_none e h)]; exact e
  · by_cases z : a = p
    · subst z; exact .inr (.inl h)
    · rw [upd_ne z] at e; exact .inl e
/-- a new object that nobody is told of -/
theorem Ok.new2 (o : Ok K B μ G H) {p : Addr} {u : HO} (h : H p = none) : Go K B μ G H μ G (upd H p u) := by
  have hg : G p = none := o.sub.free h
  refine ⟨⟨fun a x e => ?_, fun a c e => ?_, fun b c e => ?_⟩, ⟨.refl _, fun a e => ?_, fun a x e _ _ => ?_, fun a x e => .inl e, fun a e => .inl e⟩⟩
  · rw [upd_ne (ne_of_none e hg)]; exact o.sub a x e
  · obtain ⟨g1, nb, v, e1, r⟩ := o.cell a c e
    exact ⟨g1, nb, v, by rw [upd_ne (ne_of_none e1 h)]; exact e1, r⟩
  · obtain ⟨bt, gb, gc⟩ := o.box b c e
    exact ⟨bt.same fun a x q r => by rw [upd_ne (ne_of_none q h)]; exact q, gb, gc⟩
  · by_cases z : a = p
    · subst z; exact h
    · rw [upd_ne z] at e; exact e
  · rw [upd_ne (ne_of_none e h)]; exact e
/-- what nobody was told of gets a cell -/
theorem Ok.take (o : Ok K B μ G H) {p : Addr} {u : HO} {c : Cell} (hp : H p = some u) (gp : G p = none) (nb : ¬ isB B p) (r : CellOk K B G c u) : Ok K B (μ.put p c) G H := by
  refine ⟨o.sub, fun a d e => ?_, o.box⟩
  by_cases z : a = p
  · subst z
    rw [Mu.put_same] at e; cases e
    exact ⟨gp, nb, u, hp, r⟩
  · rw [Mu.put_ne _ _ z] at e; exact o.cell a d e
/-- what is no longer changed -/
theorem Ok.frz (o : Ok K B μ G H) {p : Addr} {u : HO} (hp : H p = some u) (gp : G p = none) (nb : ¬ isB B p) : Ok K B (μ.del p) (upd G p u) H := by
  refine ⟨fun a x e => ?_, fun a c e => ?_, fun b c e => ?_⟩
  · by_cases z : a = p
    · subst z; rw [upd_same] at e; rw [hp]; exact e
    · rw [upd_ne z] at e; exact o.sub a x e
  · by_cases z : a = p
    · subst z; rw [Mu.del_same] at e; cases e
    · rw [Mu.del_ne _ z] at e
      obtain ⟨g1, nb1, v, e1, r⟩ := o.cell a c e
      exact ⟨by rw [upd_ne z]; exact g1, nb1, v, e1, r.mono (.upd gp)⟩
  · obtain ⟨bt, gb, gc⟩ := o.box b c e
    exact ⟨bt, by rw [upd_ne fun z => nb ⟨b, c, e, .inl z.symm⟩]; exact gb, by rw [upd_ne fun z => nb ⟨b, c, e, .inr z.symm⟩]; exact gc⟩
/-- a new object with a cell -/
theorem Ok.newC (o : Ok K B μ G H) {p : Addr} {u : HO} {c : Cell} (h : H p = none) (r : CellOk K B G c u) : Go K B μ G H (μ.put p c) G (upd H p u) := by
  have g := o.new2 (u := u) h
  refine ⟨g.ok.take upd_same (o.sub.free h) (o.notB h) r, ⟨.refl _, g.st.dom, g.st.keep, g.st.new, fun a e => ?_⟩⟩
  by_cases z : a = p
  · subst z; exact .inr h
  · rw [Mu.put_ne _ _ z] at e; exact .inl e
/-- a step to what nobody was told of: it gets a cell -/
theorem Go.take (g : Go K B μ G H μ1 G1 H1) {p : Addr} {u : HO} {c : Cell} (h : H p = none) (hp : H1 p = some u) (gp : G1 p = none) (nb : ¬ isB B p) (r : CellOk K B G1 c u) : Go K B μ G H (μ1.put p c) G1 H1 :=
  ⟨g.ok.take hp gp nb r, ⟨g.st.gx, g.st.dom, g.st.keep, g.st.new, fun a e => by
    by_cases z : a = p
    · subst z; exact .inr h
    · rw [Mu.put_ne _ _ z] at e; exact g.st.cel a e⟩⟩
/-- .. or is never changed again -/
theorem Go.take1 (g : Go K B μ G H μ1 G1 H1) {p : Addr} {u : HO} (h : H p = none) (hp : H1 p = some u) (gp : G1 p = none) (mp : μ1 p = none) (nb : ¬ isB B p) : Go K B μ G H μ1 (upd G1 p u) H1 := by
  have := g.ok.frz hp gp nb
  rw [Mu.del_none mp] at this
  exact ⟨this, ⟨g.st.gx.trans (.upd gp), g.st.dom, g.st.keep, fun a x e => by
    by_cases z : a = p
    · subst z; exact .inr (.inl h)
    · rw [upd_ne z] at e; exact g.st.new a x e, g.st.cel⟩⟩
/-- a cell is no longer changed -/
theorem Ok.goFrz (o : Ok K B μ G H) {p : Addr} {u : HO} (mp : μ p ≠ none) (hp : H p = some u) (gp : G p = none) (nb : ¬ isB B p) : Go K B μ G H (μ.del p) (upd G p u) H :=
  ⟨o.frz hp gp nb, ⟨.upd gp, fun _ h => h, fun _ _ e _ _ => e, fun a x e => by
    by_cases z : a = p
    · subst z; exact .inr (.inr mp)
    · rw [upd_ne z] at e; exact .inl e, fun a e => by
    by_cases z : a = p
    · subst z; rw [Mu.del_same] at e; exact absurd rfl e
    · rw [Mu.del_ne _ z] at e; exact .inl e⟩⟩
/-- a cell is forgotten -/
theorem Ok.goDel (o : Ok K B μ G H) (p : Addr) : Go K B μ G H (μ.del p) G H :=
  ⟨⟨o.sub, fun a c e => by
    by_cases z : a = p
    · subst z; rw [Mu.del_same] at e; cases e
    · rw [Mu.del_ne _ z] at e; exact o.cell a c e, o.box⟩, ⟨.refl _, fun _ h => h, fun _ _ e _ _ => e, fun a x e => .inl e, fun a e => by
    by_cases z : a = p
    · subst z; rw [Mu.del_same] at e; exact absurd rfl e
    · rw [Mu.del_ne _ z] at e; exact .inl e⟩⟩
/-- a cell gets another content -/
theorem Ok.goPut (o : Ok K B μ G H) {p : Addr} {u : HO} {c d : Cell} (mp : μ p = some c) (r : CellOk K B G d u) : Go K B μ G H (μ.put p d) G (upd H p u) := by
  obtain ⟨gp, nb, v, e1, _⟩ := o.cell p c mp
  refine ⟨⟨fun a x e => ?_, fun a d' e => ?_, fun b c' e => ?_⟩, ⟨.refl _, fun a e => ?_, fun a x e _ n => ?_, fun a x e => .inl e, fun a e => ?_⟩⟩
  · rw [upd_ne (ne_of_none e gp)]; exact o.sub a x e
  · by_cases z : a = p
    · subst z
      rw [Mu.put_same] at e; cases e
      exact ⟨gp, nb, u, upd_same, r⟩
    · rw [Mu.put_ne _ _ z] at e
      obtain ⟨g1, nb1, v1, e2, r2⟩ := o.cell a d' e
      exact ⟨g1, nb1, v1, by rw [upd_ne z]; exact e2, r2⟩
  · obtain ⟨bt, gb, gc⟩ := o.box b c' e
    exact ⟨bt.same fun a x q r' => by
      rw [upd_ne fun z => nb ⟨b, c', e, r'.elim (fun y => .inl (z.symm.trans y)) fun y => .inr (z.symm.trans y)⟩]; exact q, gb, gc⟩
  · by_cases z : a = p
    · subst z; rw [upd_same] at e; cases e
    · rw [upd_ne z] at e; exact e
  · rw [upd_ne fun z => by rw [z, mp] at n; cases n]; exact e
  · by_cases z : a = p
    · subst z; exact .inl (by rw [mp]; intro y; cases y)
    · rw [Mu.put_ne _ _ z] at e; exact .inl e
/-- something that neither the store nor the frozen part knows is changed -/
theorem Ok.mut (o : Ok K B μ G H) {l : Addr} {u u' : HO} (hl : H l = some u) (gl : G l = none) (ml : μ l = none) (nb : ¬ isB B l) : Ok K B μ G (upd H l u') := by
  refine ⟨fun a x e => ?_, fun a c e => ?_, fun b c e => ?_⟩
  · rw [upd_ne (ne_of_none e gl)]; exact o.sub a x e
  · obtain ⟨g1, nb1, v, e1, r⟩ := o.cell a c e
    exact ⟨g1, nb1, v, by rw [upd_ne fun z => by rw [z, ml] at e; cases e]; exact e1, r⟩
  · obtain ⟨bt, gb, gc⟩ := o.box b c e
    exact ⟨bt.same fun a x q r => by
      rw [upd_ne fun z => nb ⟨b, c, e, r.elim (fun y => .inl (z.symm.trans y)) fun y => .inr (z.symm.trans y)⟩]; exact q, gb, gc⟩
end

/-! ## slots -/
abbrev En := List (Option PV)
def nth : En → Nat → Option PV
  | [], _ => none
  | x :: _, 0 => x
  | _ :: xs, n + 1 => nth xs n
theorem nth_some : ∀ {ρ : En} {i : Nat} {x : PV}, nth ρ i = some x → ρ[i]? = some (some x)
  | [], i, x, h => by cases h
  | y :: ys, 0, x, h => by
    have h : y = some x := h
    rw [h]; rfl
  | y :: ys, i + 1, x, h => by
    have := nth_some (ρ := ys) (i := i) h
    simpa using this
structure Rel (K : Frg) (B : BX) (ρ : En) (μ : Mu) (σ : L2.St) (G H : Hp) : Prop where
  ok : Ok K B μ G H
  len : σ.length = ρ.length
  at_ : ∀ (i : Nat) (x : PV), ρ[i]? = some (some x) → ∃ v, σ[i]? = some (some v) ∧ Rep K B G x v
section
variable {K : Frg} {B : BX} {ρ ρ' : En} {μ μ1 : Mu} {σ σ' : L2.St} {G H G1 H1 : Hp}
theorem Rel.go (r : Rel K B ρ μ σ G H) (g : Go K B μ G H μ1 G1 H1) : Rel K B ρ μ1 σ G1 H1 :=
  ⟨g.ok, r.len, fun i x e => by obtain ⟨v, e1, e2⟩ := r.at_ i x e; exact ⟨v, e1, e2.mono g.gx⟩⟩
theorem lt_of_some {α : Type} {l : List α} {i : Nat} {x : α} (h : l[i]? = some x) : i < l.length := (List.getElem?_eq_some_iff.mp h).1
theorem set_get {α : Type} {l : List α} {i j : Nat} {x y : α} (h : (l.set i x)[j]? = some y) : (i = j ∧ y = x) ∨ (i ≠ j ∧ l[j]? = some y) := by
  by_cases z : i = j
  · subst z
    have hl : i < l.length := by have := lt_of_some h; rwa [List.length_set] at this
    rw [List.getElem?_set_self hl] at h
    cases h
    exact .inl ⟨rfl, rfl⟩
  · rw [List.getElem?_set_ne z] at h
    exact .inr ⟨z, h⟩
theorem Rel.set {x : PV} {v : V} (i : Nat) (r : Rel K B ρ μ σ G H) (h : Rep K B G x v) : Rel K B (ρ.set i (some x)) μ (σ.set i (some v)) G H := by
  refine ⟨r.ok, by rw [List.length_set, List.length_set]; exact r.len, fun j y e => ?_⟩
  rcases set_get e with ⟨rfl, z⟩ | ⟨n, z⟩
  · cases z
    have hi : i < σ.length := by have := lt_of_some e; rw [List.length_set] at this; rw [r.len]; exact this
    exact ⟨v, List.getElem?_set_self hi, h⟩
  · rw [List.getElem?_set_ne n]
    exact r.at_ j y z
theorem Rel.clear (r : Rel K B ρ μ σ G H) (i : Nat) : Rel K B (ρ.set i none) μ (σ.set i none) G H := by
  refine ⟨r.ok, by rw [List.length_set, List.length_set]; exact r.len, fun j y e => ?_⟩
  rcases set_get e with ⟨rfl, z⟩ | ⟨n, z⟩
  · cases z
  · rw [List.getElem?_set_ne n]
    exact r.at_ j y z
theorem Rel.weak (r : Rel K B ρ μ σ G H) (l : σ'.length = ρ'.length) (h : ∀ (i : Nat) (x : PV), ρ'[i]? = some (some x) → ρ[i]? = some (some x) ∧ σ'[i]? = σ[i]?) : Rel K B ρ' μ σ' G H :=
  ⟨r.ok, l, fun i x e => by obtain ⟨e1, e2⟩ := h i x e; rw [e2]; exact r.at_ i x e1⟩
end
end Px

namespace Px
open PySem PySem.Spec PyProof.Rows L2

/-! ## what an expression means: a wish of its value and the store, a wish of what it raises -/
abbrev XV := Cl × List PV
abbrev QV := PV → Mu → Prop
abbrev QX := XV → Mu → Prop
abbrev DE := En → Mu → QV → QX → Prop
abbrev DA := En → Mu → (List PV → Mu → Prop) → QX → Prop
abbrev DT := En → Mu → (Bool → Mu → Prop) → QX → Prop
/-- what a def promises: arguments, store, the wishes -/
abbrev Ct := List PV → Mu → QV → QX → Prop
structure br (b : Bool) (A B : Prop) : Prop where
  t : b = true → A
  f : b = false → B
/-- a lock: what is within is not looked into -/
structure Lk (A : Prop) : Prop where
  un : A
theorem br_of {b : Bool} {A B : Prop} (h1 : b = true → A) (h2 : b = false → B) : br b A B := ⟨h1, h2⟩
def XRep (K : Frg) (B : BX) (G : Hp) (xv : XV) (d : Option Addr) : Prop :=
  xcB K xv.1 = true ∧ ((xv.1.flds = [] ∧ xv.2 = [] ∧ d = none) ∨ ∃ dd vs, d = some dd ∧ G dd = some (.xd (xv.1.flds.zip vs)) ∧ vs.length = xv.1.flds.length ∧ Reps K B G xv.2 vs)
def GoodV (K : Frg) (B : BX) (μ : Mu) (G H : Hp) (q : QV) (Q : VK) : Prop := ∀ p v μ' G' H', q p μ' → Go K B μ G H μ' G' H' → Rep K B G' p v → Q v H'
def GoodX (K : Frg) (W : WX) (B : BX) (μ : Mu) (G H : Hp) (σ : L2.St) (x : QX) : Prop := ∀ xv d μ' G' H', x xv μ' → Go K B μ G H μ' G' H' → XRep K B G' xv d → W (.ref (ca K xv.1)) d σ H'
def GoodB (K : Frg) (B : BX) (μ : Mu) (G H : Hp) (q : Bool → Mu → Prop) (Q : Bool → Hp → Prop) : Prop := ∀ b μ' G' H', q b μ' → Go K B μ G H μ' G' H' → Q b H'
def GoodA (K : Frg) (B : BX) (μ : Mu) (G H : Hp) (q : List PV → Mu → Prop) (Q : List V → Hp → Prop) : Prop := ∀ ps vs μ' G' H', q ps μ' → Go K B μ G H μ' G' H' → Reps K B G' ps vs → Q vs H'
section
variable {K : Frg} {W : WX} {B : BX} {μ μ1 : Mu} {G H G1 H1 : Hp} {σ : L2.St}
theorem GoodV.go {q : QV} {Q : VK} (h : GoodV K B μ G H q Q) (g : Go K B μ G H μ1 G1 H1) : GoodV K B μ1 G1 H1 q Q := fun p v μ' G' H' hp g' r => h p v μ' G' H' hp (g.trans g') r
theorem GoodX.go {x : QX} (h : GoodX K W B μ G H σ x) (g : Go K B μ G H μ1 G1 H1) : GoodX K W B μ1 G1 H1 σ x := fun p v μ' G' H' hp g' r => h p v μ' G' H' hp (g.trans g') r
theorem GoodB.go {q : Bool → Mu → Prop} {Q : Bool → Hp → Prop} (h : GoodB K B μ G H q Q) (g : Go K B μ G H μ1 G1 H1) : GoodB K B μ1 G1 H1 q Q := fun b μ' G' H' hb g' => h b μ' G' H' hb (g.trans g')
theorem GoodA.go {q : List PV → Mu → Prop} {Q : List V → Hp → Prop} (h : GoodA K B μ G H q Q) (g : Go K B μ G H μ1 G1 H1) : GoodA K B μ1 G1 H1 q Q := fun p v μ' G' H' hp g' r => h p v μ' G' H' hp (g.trans g') r
end
def tE (K : Frg) (W : WX) (d : DE) : TE := fun σ H Q => ∃ (B : BX) (ρ : En) (μ : Mu) (G : Hp) (q : QV) (x : QX), Rel K B ρ μ σ G H ∧ d ρ μ q x ∧ GoodV K B μ G H q Q ∧ GoodX K W B μ G H σ x
def tA (K : Frg) (W : WX) (d : DA) : TA := fun σ H Q => ∃ (B : BX) (ρ : En) (μ : Mu) (G : Hp) (q : List PV → Mu → Prop) (x : QX), Rel K B ρ μ σ G H ∧ d ρ μ q x ∧ GoodA K B μ G H q Q ∧ GoodX K W B μ G H σ x
def tT (K : Frg) (W : WX) (d : DT) : TT := fun σ H Q => ∃ (B : BX) (ρ : En) (μ : Mu) (G : Hp) (q : Bool → Mu → Prop) (x : QX), Rel K B ρ μ σ G H ∧ d ρ μ q x ∧ GoodB K B μ G H q Q ∧ GoodX K W B μ G H σ x
abbrev EJ (X : Cx) (W : WX) (e : Expr) (d : DE) : Prop := PE X e (tE X.K W d)
abbrev AJ (X : Cx) (W : WX) (es : List Expr) (d : DA) : Prop := PA X es (tA X.K W d)
abbrev TJ (X : Cx) (W : WX) (e : Expr) (d : DT) : Prop := PT X e (tT X.K W d)
abbrev WJ (X : Cx) (W : WX) (e : Expr) (d : DT) : Prop := PW X e (tT X.K W d)

theorem pe_imp {X : Cx} {e : Expr} {t t' : TE} (h : PE X e t) (i : ∀ σ H Q, t' σ H Q → t σ H Q) : PE X e t' := ⟨fun pins s σ H Q J z => h.run pins s σ H Q J (i σ H Q z)⟩
theorem pt_imp {X : Cx} {e : Expr} {t t' : TT} (h : PT X e t) (i : ∀ σ H Q, t' σ H Q → t σ H Q) : PT X e t' := ⟨fun pins s σ H Q J z => h.run pins s σ H Q J (i σ H Q z)⟩
theorem pw_imp {X : Cx} {e : Expr} {t t' : TT} (h : PW X e t) (i : ∀ σ H Q, t' σ H Q → t σ H Q) : PW X e t' := ⟨fun wh pins s σ H Q J z => h.run wh pins s σ H Q J (i σ H Q z)⟩
theorem pa_imp {X : Cx} {es : List Expr} {t t' : TA} (h : PA X es t) (i : ∀ σ H Q, t' σ H Q → t σ H Q) : PA X es t' := ⟨fun pos pins s σ H Q J z => h.run pos pins s σ H Q J (i σ H Q z)⟩

/-! ## names, constants -/
def dVar (i : Nat) : DE := fun ρ μ q _ => match nth ρ i with
  | some p => q p μ
  | none => False
theorem dVar_inv {i : Nat} {ρ : En} {μ : Mu} {q : QV} {x : QX} (h : dVar i ρ μ q x) : ∃ p, ρ[i]? = some (some p) ∧ q p μ := by
  unfold dVar at h
  cases e : nth ρ i with
  | none => rw [e] at h; exact h.elim
  | some p => rw [e] at h; exact ⟨p, nth_some e, h⟩
def dC (p : PV) : DE := fun _ μ q _ => q p μ
section
variable {X : Cx} {W : WX} {pos : Pos}
theorem e_var (i : Nat) {x : Str} (hN : X.N[i]? = some x := by rfl) (hv : Vis X.env.scope x := by first | exact Or.inl rfl | exact Or.inr (Or.inl rfl) | exact Or.inr (Or.inr rfl)) (h1 : (x == ("__debug__" : Str)) = false := by decide) (h2 : (x == ("__classdict__" : Str)) = false := by decide) :
    EJ X W (.Name x pos) (dVar i) := pe_imp (pe_var hN hv h1 h2) fun σ H Q ⟨B, ρ, μ, G, q, z, R, h, gv, gx⟩ => by
  obtain ⟨p, e, hp⟩ := dVar_inv h
  obtain ⟨v, e1, r⟩ := R.at_ i _ e
  exact ⟨v, e1, gv p v μ G H hp (.refl R.ok) r⟩
theorem e_c {e : Expr} {v : V} {p : PV} (h : PE X e (tC v)) (r : ∀ B G, Rep X.K B G p v) : EJ X W e (dC p) := pe_imp h fun σ H Q ⟨B, ρ, μ, G, q, z, R, hp, gv, gx⟩ => gv p v μ G H hp (.refl R.ok) (r _ _)
theorem e_int {i : Int} {j : Nat} : EJ X W (.Constant (.int i) j pos) (dC (.int i)) := e_c pe_int fun _ _ => rep_int i
theorem e_bl {i : Bool} {j : Nat} : EJ X W (.Constant (.bool i) j pos) (dC (.bl i)) := e_c pe_bl fun _ _ => rep_bl i
theorem e_non {j : Nat} : EJ X W (.Constant .none j pos) (dC .non) := e_c pe_non fun _ _ => rep_non
theorem e_str {i : Str} {j : Nat} : EJ X W (.Constant (.str i) j pos) (dC (.str i)) := e_c pe_str fun _ _ => rep_str i
/-- a class of the module, as a value -/
theorem e_cls (c : Cl) (kn : knB X.K c = true) (hm : X.mg c.name = some (.ref (ca X.K c))) (hg : Gl X c.name := by rfl) (h1 : (c.name == ("__debug__" : Str)) = false := by decide) : EJ X W (.Name c.name pos) (dC (.cls c)) := e_c (pe_glob hg hm (show RelV (.ref (ca X.K c)) _ from rfl) h1) fun _ _ => rep_cls c kn
/-- a module's constant -/
theorem e_glob {x : Str} {v : V} {u : Value} {p : PV} (hm : X.mg x = some u) (hr : RelV v u) (r : ∀ B G, Rep X.K B G p v) (hg : Gl X x := by rfl) (h1 : (x == ("__debug__" : Str)) = false := by decide) : EJ X W (.Name x pos) (dC p) := e_c (pe_glob hg hm hr h1) r
end

/-! ## operators: what a sign does to two values -/
abbrev F2 := Mu → PV → PV → (PV → Prop) → Prop
abbrev FO := PV → PV → Mu → QV → QX → Prop
def OpJ (X : Cx) (W : WX) (op : Value → Value → Sem Value) (f : FO) : Prop :=
  ∀ (pins : List (Addr × Obj)) (s : Shared) (σ : L2.St) (H : Hp) (B : BX) (ρ : En) (μ : Mu) (G : Hp) (a b : PV) (va vb : V) (u w : Value) (q : QV) (x : QX) (Q : VK), Inv X pins σ H s → Rel X.K B ρ μ σ G H → Rep X.K B G a va → Rep X.K B G b vb → RelV va u → RelV vb w →
    f a b μ q x → GoodV X.K B μ G H q Q → GoodX X.K W B μ G H σ x → wpAny (model X.prog X.w) X.A (op u w) (EP X pins σ Q) X.xe s
def dBin (f : FO) (da db : DE) : DE := fun ρ μ q x => da ρ μ (fun a μ1 => db ρ μ1 (fun b μ2 => f a b μ2 q x) x) x
/-- f tells what the reading r asks -/
def POp (K : Frg) (r : R2) (f : F2) : Prop := ∀ (B : BX) (μ : Mu) (G H : Hp) (a b : PV) (va vb : V) (q : PV → Prop) (Q : VK), Ok K B μ G H → Rep K B G a va → Rep K B G b vb → f μ a b q → (∀ p v G' H', q p → Go K B μ G H μ G' H' → Rep K B G' p v → Q v H') → r va vb H Q
def fo (f : F2) : FO := fun a b μ q _ => f μ a b (fun p => q p μ)
section
variable {X : Cx} {W : WX} {pos : Pos} {a b : Expr} {da db : DE} {r : R2}
theorem OpJ.of {op : Value → Value → Sem Value} {f : F2} (ho : OpR X op r) (hp : POp X.K r f) : OpJ X W op (fo f) := fun pins s σ H B ρ μ G a b va vb u w q x Q J R ra rb ru rw' h gv gx =>
  ho pins s σ H va vb u w Q J ru rw' (hp B μ G H a b va vb _ Q R.ok ra rb h fun p v G' H' hq g rp => gv p v μ G' H' hq g rp)
theorem OpJ.or {op : Value → Value → Sem Value} {f g h : FO} (hf : OpJ X W op f) (hg : OpJ X W op g) (i : ∀ a b μ q x, h a b μ q x → f a b μ q x ∨ g a b μ q x) : OpJ X W op h := fun pins s σ H B ρ μ G a b va vb u w q x Q J R ra rb ru rw' z gv gx =>
  (i a b μ q x z).elim (fun z => hf pins s σ H B ρ μ G a b va vb u w q x Q J R ra rb ru rw' z gv gx) fun z => hg pins s σ H B ρ μ G a b va vb u w q x Q J R ra rb ru rw' z gv gx
theorem OpJ.imp {op : Value → Value → Sem Value} {f h : FO} (hf : OpJ X W op f) (i : ∀ a b μ q x, h a b μ q x → f a b μ q x) : OpJ X W op h := hf.or hf fun a b μ q x z => .inl (i a b μ q x z)
/-- both operands, one behind the other -/
theorem two_of {f : FO} {op : Value → Value → Sem Value} (ho : OpJ X W op f) (ha : EJ X W a da) (hb : EJ X W b db) {pins : List (Addr × Obj)} {s : Shared} {σ : L2.St} {H : Hp} {Q : VK} (J : Inv X pins σ H s) (h : tE X.K W (dBin f da db) σ H Q) :
    tE X.K W da σ H fun x H1 => ∃ (B : BX) (ρ : En) (μ : Mu) (G : Hp) (a : PV) (q : QV) (z : QX), Rel X.K B ρ μ σ G H1 ∧ Rep X.K B G a x ∧ db ρ μ (fun b μ2 => f a b μ2 q z) z ∧ GoodV X.K B μ G H1 q Q ∧ GoodX X.K W B μ G H1 σ z := by
  obtain ⟨B, ρ, μ, G, q, x, R, h, gv, gx⟩ := h
  exact ⟨B, ρ, μ, G, _, x, R, h, fun p v μ1 G1 H1 h1 g1 r1 => ⟨B, ρ, μ1, G1, p, q, x, R.go g1, r1, h1, gv.go g1, gx.go g1⟩, gx⟩
/-- b's reading, a's value known -/
def rB (K : Frg) (W : WX) (f : FO) (db : DE) (Q : VK) (σ : L2.St) (va : V) (H1 : Hp) : Prop := ∃ (B : BX) (ρ : En) (μ : Mu) (G : Hp) (a : PV) (q : QV) (z : QX), Rel K B ρ μ σ G H1 ∧ Rep K B G a va ∧ db ρ μ (fun b μ2 => f a b μ2 q z) z ∧ GoodV K B μ G H1 q Q ∧ GoodX K W B μ G H1 σ z
theorem rB_of {K : Frg} {W : WX} {f : FO} {da db : DE} {σ : L2.St} {H : Hp} {Q : VK} (h : tE K W (dBin f da db) σ H Q) : tE K W da σ H (rB K W f db Q σ) := by
  obtain ⟨B, ρ, μ, G, q, x, R, h, gv, gx⟩ := h
  exact ⟨B, ρ, μ, G, _, x, R, h, fun p v μ1 G1 H1 h1 g1 r1 => ⟨B, ρ, μ1, G1, p, q, x, R.go g1, r1, h1, gv.go g1, gx.go g1⟩, gx⟩
/-- both known: what is left is the sign -/
def rAB (K : Frg) (W : WX) (f : FO) (Q : VK) (σ : L2.St) (va vb : V) (H1 : Hp) : Prop := ∃ (B : BX) (ρ : En) (μ : Mu) (G : Hp) (a b : PV) (q : QV) (z : QX), Rel K B ρ μ σ G H1 ∧ Rep K B G a va ∧ Rep K B G b vb ∧ f a b μ q z ∧ GoodV K B μ G H1 q Q ∧ GoodX K W B μ G H1 σ z
theorem rAB_of {K : Frg} {W : WX} {f : FO} {db : DE} {σ : L2.St} {H : Hp} {Q : VK} {va : V} (h : rB K W f db Q σ va H) : tE K W db σ H (rAB K W f Q σ va) := by
  obtain ⟨B, ρ, μ, G, a, q, x, R, ra, h, gv, gx⟩ := h
  exact ⟨B, ρ, μ, G, _, x, R, h, fun p v μ1 G1 H1 h1 g1 r1 => ⟨B, ρ, μ1, G1, a, p, q, x, R.go g1, ra.mono g1.gx, r1, h1, gv.go g1, gx.go g1⟩, gx⟩
theorem OpJ.run {f : FO} {op : Value → Value → Sem Value} (ho : OpJ X W op f) {pins : List (Addr × Obj)} {s : Shared} {σ : L2.St} {H : Hp} {Q : VK} {va vb : V} {u w : Value} (J : Inv X pins σ H s) (ru : RelV va u) (rw' : RelV vb w) (h : rAB X.K W f Q σ va vb H) : wpAny (model X.prog X.w) X.A (op u w) (EP X pins σ Q) X.xe s := by
  obtain ⟨B, ρ, μ, G, a, b, q, x, R, ra, rb, h, gv, gx⟩ := h
  exact ho pins s σ H B ρ μ G a b va vb u w q x Q J R ra rb ru rw' h gv gx
theorem e_bin {op : Operator} {f : FO} (ho : OpJ X W (binaryOp op) f) (ha : EJ X W a da) (hb : EJ X W b db) : EJ X W (.BinOp a op b pos) (dBin f da db) := by
  refine ⟨fun pins s σ H Q J h => ?_⟩
  exact wpAny_BinOp (thn (ha.run pins s σ H _ J (rB_of h)) fun u s1 ⟨va, H1, J1, ru, h1⟩ => thn (hb.run pins s1 σ H1 _ J1 (rAB_of h1)) fun w s2 ⟨vb, H2, J2, rw', h2⟩ => ho.run J2 ru rw' h2)
end
end Px

namespace Px
open PySem PySem.Spec PyProof.Rows L2

/-! ## tests -/
def qB (q : Bool → Mu → Prop) : QV := fun p μ => match p with
  | .bl b => q b μ
  | _ => False
theorem qB_inv {q : Bool → Mu → Prop} {p : PV} {μ : Mu} (h : qB q p μ) : ∃ b, p = .bl b ∧ q b μ := by
  cases p <;> first | exact h.elim | exact ⟨_, rfl, h⟩
/-- a value that is True or False, as a test -/
def dB (d : DE) : DT := fun ρ μ q x => d ρ μ (qB q) x
theorem tb_of {K : Frg} {W : WX} {t : TE} {d : DE} {σ : L2.St} {H : Hp} {Q : Bool → Hp → Prop} (ht : ∀ σ H Q, tE K W d σ H Q → t σ H Q) (h : tT K W (dB d) σ H Q) : t σ H fun x H' => ∃ k, x = .bl k ∧ Q k H' := by
  obtain ⟨B, ρ, μ, G, q, x, R, h, gv, gx⟩ := h
  refine ht _ _ _ ⟨B, ρ, μ, G, _, x, R, h, fun p v μ1 G1 H1 h1 g1 r1 => ?_, gx⟩
  obtain ⟨b, rfl, hb⟩ := qB_inv h1
  exact ⟨b, r1.bl_inv, gv b μ1 G1 H1 hb g1⟩
section
variable {X : Cx} {W : WX} {pos : Pos} {a b c : Expr} {da db dc : DE}
theorem e_cmp {op : CmpOp} {f : FO} (ho : OpJ X W (compareOp op) f) (ha : EJ X W a da) (hb : EJ X W b db) (hm : behindInMarks op b = false) : EJ X W (.Compare a [op] [b] pos) (dBin f da db) := by
  refine ⟨fun pins s σ H Q J h => ?_⟩
  exact wpAny_Compare1 (thn (ha.run pins s σ H _ J (rB_of h)) fun u s1 ⟨va, H1, J1, ru, h1⟩ => thn (hb.run pins s1 σ H1 _ J1 (rAB_of h1)) fun w s2 ⟨vb, H2, J2, rw', h2⟩ => ho.run J2 ru rw' h2) hm
theorem t_cmp {op : CmpOp} {f : FO} (ho : OpJ X W (compareOp op) f) (ha : EJ X W a da) (hb : EJ X W b db) (hm : behindInMarks op b = false) : TJ X W (.Compare a [op] [b] pos) (dB (dBin f da db)) := by
  refine ⟨fun pins s σ H Q J h => ?_⟩
  have h' : tE X.K W (dBin f da db) σ H fun x H' => ∃ k, x = .bl k ∧ Q k H' := tb_of (fun _ _ _ z => z) h
  refine wpAny_isTrue_Compare1 (thn (ha.run pins s σ H _ J (rB_of h')) fun u s1 ⟨va, H1, J1, ru, h1⟩ => thn (hb.run pins s1 σ H1 _ J1 (rAB_of h1)) fun w s2 ⟨vb, H2, J2, rw', h2⟩ =>
    thn (ho.run J2 ru rw' h2) fun c s3 ⟨z, H3, J3, r3, k, e, q3⟩ => ?_) hm
  subst e
  cases r3
  exact wpAny_truthy_bool ⟨H3, J3, q3⟩
theorem t_val (ha : EJ X W a da) (he : ∀ whole, isTrue a X.env whole = (do let v ← whole; standAt a.pos; holding [v] (truthy v)) := by intro _; rfl) : TJ X W a (dB da) := pt_imp (pt_val ha he) fun _ _ _ h => tb_of (fun _ _ _ z => z) h
/-- truth of a value -/
abbrev FT := PV → Mu → (Bool → Mu → Prop) → QX → Prop
def TrJ (X : Cx) (W : WX) (f : FT) : Prop := ∀ (pins : List (Addr × Obj)) (s : Shared) (σ : L2.St) (H : Hp) (B : BX) (ρ : En) (μ : Mu) (G : Hp) (a : PV) (va : V) (u : Value) (q : Bool → Mu → Prop) (x : QX) (Q : Bool → Hp → Prop), Inv X pins σ H s → Rel X.K B ρ μ σ G H → Rep X.K B G a va → RelV va u →
    f a μ q x → GoodB X.K B μ G H q Q → GoodX X.K W B μ G H σ x → wpAny (model X.prog X.w) X.A (truthy u) (TP X pins σ Q) X.xe s
def dTr (f : FT) (d : DE) : DT := fun ρ μ q x => d ρ μ (fun p μ1 => f p μ1 q x) x
theorem t_tr {f : FT} (tr : TrJ X W f) (ha : EJ X W a da) (he : ∀ whole, isTrue a X.env whole = (do let v ← whole; standAt a.pos; holding [v] (truthy v)) := by intro _; rfl) : TJ X W a (dTr f da) := by
  refine ⟨fun pins s σ H Q J ⟨B, ρ, μ, G, q, z, R, h, gv, gx⟩ => ?_⟩
  refine isTrue_plain (thn (ha.run pins s σ H (fun v H1 => ∃ μ1 G1 p, Go X.K B μ G H μ1 G1 H1 ∧ Rep X.K B G1 p v ∧ f p μ1 q z) J
    ⟨B, ρ, μ, G, _, z, R, h, fun p v μ1 G1 H1 h1 g1 r1 => ⟨μ1, G1, p, g1, r1, h1⟩, gx⟩) fun u s1 ⟨v, H1, J1, rv, μ1, G1, p, g1, rp, hf⟩ => ?_) (he _)
  exact tr pins s1 σ H1 B ρ μ1 G1 p v u q z Q J1 (R.go g1) rp rv hf (gv.go g1) (gx.go g1)
def dAnd (t u : DT) : DT := fun ρ μ q x => t ρ μ (fun b μ1 => br b (u ρ μ1 q x) (q false μ1)) x
def dOr (t u : DT) : DT := fun ρ μ q x => t ρ μ (fun b μ1 => br b (q true μ1) (u ρ μ1 q x)) x
def dNot (t : DT) : DT := fun ρ μ q x => t ρ μ (fun b μ1 => q (!b) μ1) x
variable {ta tb : DT} {rest : List Expr}
theorem w_and1 (ha : TJ X W a ta) : WJ X W (.BoolOp .And [a] pos) ta := pw_and1 ha
theorem w_or1 (ha : TJ X W a ta) : WJ X W (.BoolOp .Or [a] pos) ta := pw_or1 ha
theorem w_and (ha : TJ X W a ta) (hb : WJ X W (.BoolOp .And (b :: rest) pos) tb) : WJ X W (.BoolOp .And (a :: b :: rest) pos) (dAnd ta tb) := pw_imp (pw_and ha hb) fun σ H Q ⟨B, ρ, μ, G, q, x, R, h, gv, gx⟩ =>
  ⟨B, ρ, μ, G, _, x, R, h, fun c μ1 G1 H1 h1 g1 => by
    cases c with
    | true => exact ⟨B, ρ, μ1, G1, q, x, R.go g1, (h1.t rfl), gv.go g1, gx.go g1⟩
    | false => exact gv _ _ _ _ (h1.f rfl) g1, gx⟩
theorem w_or (ha : TJ X W a ta) (hb : WJ X W (.BoolOp .Or (b :: rest) pos) tb) : WJ X W (.BoolOp .Or (a :: b :: rest) pos) (dOr ta tb) := pw_imp (pw_or ha hb) fun σ H Q ⟨B, ρ, μ, G, q, x, R, h, gv, gx⟩ =>
  ⟨B, ρ, μ, G, _, x, R, h, fun c μ1 G1 H1 h1 g1 => by
    cases c with
    | true => exact gv _ _ _ _ (h1.t rfl) g1
    | false => exact ⟨B, ρ, μ1, G1, q, x, R.go g1, (h1.f rfl), gv.go g1, gx.go g1⟩, gx⟩
theorem t_w (h : WJ X W a ta) : TJ X W a ta := h.pt
theorem t_not (ha : TJ X W a ta) : TJ X W (.UnaryOp .Not a pos) (dNot ta) := pt_imp (pt_not ha) fun σ H Q ⟨B, ρ, μ, G, q, x, R, h, gv, gx⟩ => ⟨B, ρ, μ, G, _, x, R, h, fun c μ1 G1 H1 h1 g1 => gv _ _ _ _ h1 g1, gx⟩
def dAndV (da db : DE) : DE := fun ρ μ q x => da ρ μ (qB fun b μ1 => br b (db ρ μ1 q x) (q (.bl false) μ1)) x
def dOrV (da db : DE) : DE := fun ρ μ q x => da ρ μ (qB fun b μ1 => br b (q (.bl true) μ1) (db ρ μ1 q x)) x
def dNotV (da : DE) : DE := fun ρ μ q x => da ρ μ (qB fun b μ1 => q (.bl (!b)) μ1) x
theorem e_one {op : BoolOp} (h : EJ X W a da) : EJ X W (.BoolOp op [a] pos) da := pe_one h
theorem e_and (ha : EJ X W a da) (hb : EJ X W (.BoolOp .And (b :: rest) pos) db) : EJ X W (.BoolOp .And (a :: b :: rest) pos) (dAndV da db) := pe_imp (pe_and ha hb) fun σ H Q ⟨B, ρ, μ, G, q, x, R, h, gv, gx⟩ =>
  ⟨B, ρ, μ, G, _, x, R, h, fun p v μ1 G1 H1 h0 g1 r1 => by
    obtain ⟨c, rfl, h1⟩ := qB_inv h0
    refine ⟨c, r1.bl_inv, ?_⟩
    cases c with
    | true => exact ⟨B, ρ, μ1, G1, q, x, R.go g1, (h1.t rfl), gv.go g1, gx.go g1⟩
    | false => exact gv _ _ _ _ _ (h1.f rfl) g1 (rep_bl _), gx⟩
theorem e_or (ha : EJ X W a da) (hb : EJ X W (.BoolOp .Or (b :: rest) pos) db) : EJ X W (.BoolOp .Or (a :: b :: rest) pos) (dOrV da db) := pe_imp (pe_or ha hb) fun σ H Q ⟨B, ρ, μ, G, q, x, R, h, gv, gx⟩ =>
  ⟨B, ρ, μ, G, _, x, R, h, fun p v μ1 G1 H1 h0 g1 r1 => by
    obtain ⟨c, rfl, h1⟩ := qB_inv h0
    refine ⟨c, r1.bl_inv, ?_⟩
    cases c with
    | true => exact gv _ _ _ _ _ (h1.t rfl) g1 (rep_bl _)
    | false => exact ⟨B, ρ, μ1, G1, q, x, R.go g1, (h1.f rfl), gv.go g1, gx.go g1⟩, gx⟩
theorem e_not (ha : EJ X W a da) : EJ X W (.UnaryOp .Not a pos) (dNotV da) := pe_imp (pe_not ha) fun σ H Q ⟨B, ρ, μ, G, q, x, R, h, gv, gx⟩ =>
  ⟨B, ρ, μ, G, _, x, R, h, fun p v μ1 G1 H1 h0 g1 r1 => by
    obtain ⟨c, rfl, h1⟩ := qB_inv h0
    exact ⟨c, r1.bl_inv, gv _ _ _ _ _ h1 g1 (rep_bl _)⟩, gx⟩
def dIf (t : DT) (da db : DE) : DE := fun ρ μ q x => t ρ μ (fun b μ1 => br b (da ρ μ1 q x) (db ρ μ1 q x)) x
theorem e_if (hc : TJ X W c ta) (ha : EJ X W a da) (hb : EJ X W b db) : EJ X W (.IfExp c a b pos) (dIf ta da db) := pe_imp (pe_ifExp hc ha hb) fun σ H Q ⟨B, ρ, μ, G, q, x, R, h, gv, gx⟩ =>
  ⟨B, ρ, μ, G, _, x, R, h, fun c μ1 G1 H1 h1 g1 => by
    cases c with
    | true => exact ⟨B, ρ, μ1, G1, q, x, R.go g1, (h1.t rfl), gv.go g1, gx.go g1⟩
    | false => exact ⟨B, ρ, μ1, G1, q, x, R.go g1, (h1.f rfl), gv.go g1, gx.go g1⟩, gx⟩
/-- a < b < c -/
def dChain (f g : FO) (da db dc : DE) : DE := fun ρ μ q x => da ρ μ (fun a μ1 => db ρ μ1 (fun b μ2 => f a b μ2 (qB fun k μ3 => br k (dc ρ μ3 (fun c μ4 => g b c μ4 q x) x) (q (.bl false) μ3)) x) x) x
theorem e_chain {op op' : CmpOp} {f g : FO} (ho : OpJ X W (compareOp op) f) (ho' : OpJ X W (compareOp op') g) (ha : EJ X W a da) (hb : EJ X W b db) (hc : EJ X W c dc)
    (hm : lastMarks [op, op'] [b, c] = false := by with_unfolding_all rfl) : EJ X W (.Compare a [op, op'] [b, c] pos) (dChain f g da db dc) := by
  refine ⟨fun pins s σ H Q J ⟨B, ρ, μ, G, q, x, R, h, gv, gx⟩ => ?_⟩
  refine Compare_chain (thn (ha.run pins s σ H (fun v H1 => ∃ μ1 G1 p, Go X.K B μ G H μ1 G1 H1 ∧ Rep X.K B G1 p v ∧ db ρ μ1 (fun b μ2 => f p b μ2 (qB fun k μ3 => br k (dc ρ μ3 (fun c μ4 => g b c μ4 q x) x) (q (.bl false) μ3)) x) x) J
    ⟨B, ρ, μ, G, _, x, R, h, fun p v μ1 G1 H1 h1 g1 r1 => ⟨μ1, G1, p, g1, r1, h1⟩, gx⟩) fun u s1 ⟨v, H1, J1, rv, μ1, G1, p, g1, rp, h1⟩ => chain_link (thn (hb.run pins s1 σ H1 (fun v2 H2 => ∃ μ2 G2 p2, Go X.K B μ G H μ2 G2 H2 ∧ Rep X.K B G2 p v ∧ Rep X.K B G2 p2 v2 ∧ f p p2 μ2 (qB fun k μ3 => br k (dc ρ μ3 (fun c μ4 => g p2 c μ4 q x) x) (q (.bl false) μ3)) x) J1
    ⟨B, ρ, μ1, G1, _, x, R.go g1, h1, fun p2 v2 μ2 G2 H2 h2 g2 r2 => ⟨μ2, G2, p2, g1.trans g2, rp.mono g2.gx, r2, h2⟩, gx.go g1⟩) fun u2 s2 ⟨v2, H2, J2, rv2, μ2, G2, p2, g2, rp', rp2, h2⟩ =>
    thn (ho pins s2 σ H2 B ρ μ2 G2 p p2 v v2 u u2 _ x (fun z H3 => ∃ k μ3 G3, z = .bl k ∧ Go X.K B μ G H μ3 G3 H3 ∧ Rep X.K B G3 p2 v2 ∧ br k (dc ρ μ3 (fun c μ4 => g p2 c μ4 q x) x) (q (.bl false) μ3)) J2 (R.go g2) rp' rp2 rv rv2 h2
      (fun p3 v3 μ3 G3 H3 h3 g3 r3 => by
        obtain ⟨k, rfl, hk⟩ := qB_inv h3
        exact ⟨k, μ3, G3, r3.bl_inv, g2.trans g3, rp2.mono g3.gx, hk⟩) (gx.go g2)) fun d s3 ⟨z, H3, J3, r3, k, μ3, G3, e, g3, rp3, q3⟩ => ?_)) hm
  subst e
  cases r3
  refine wpAny_truthy_bool ?_
  cases k with
  | false => exact ite_ff ⟨.bl false, H3, J3, rfl, gv _ _ _ _ _ (q3.f rfl) g3 (rep_bl _)⟩
  | true => exact ite_tt (chain_last (thn (hc.run pins s3 σ H3 (fun v4 H4 => ∃ μ4 G4 p4, Go X.K B μ G H μ4 G4 H4 ∧ Rep X.K B G4 p2 v2 ∧ Rep X.K B G4 p4 v4 ∧ g p2 p4 μ4 q x) J3
      ⟨B, ρ, μ3, G3, _, x, R.go g3, q3.t rfl, fun p4 v4 μ4 G4 H4 h4 g4 r4 => ⟨μ4, G4, p4, g3.trans g4, rp3.mono g4.gx, r4, h4⟩, gx.go g3⟩) fun w s4 ⟨v4, H4, J4, r4, μ4, G4, p4, g4, ra, rb, h4⟩ => ho' pins s4 σ H4 B ρ μ4 G4 p2 p4 v2 v4 u2 w q x Q J4 (R.go g4) ra rb rv2 r4 h4 (gv.go g4) (gx.go g4)))
theorem t_chain {op op' : CmpOp} {f g : FO} (ho : OpJ X W (compareOp op) f) (ho' : OpJ X W (compareOp op') g) (ha : EJ X W a da) (hb : EJ X W b db) (hc : EJ X W c dc)
    (hm : lastMarks [op, op'] [b, c] = false := by with_unfolding_all rfl) : TJ X W (.Compare a [op, op'] [b, c] pos) (dB (dChain f g da db dc)) := by
  refine ⟨fun pins s σ H Q J ⟨B, ρ, μ, G, q, x, R, h, gv, gx⟩ => ?_⟩
  refine isTrue_chain (thn (ha.run pins s σ H (fun v H1 => ∃ μ1 G1 p, Go X.K B μ G H μ1 G1 H1 ∧ Rep X.K B G1 p v ∧ db ρ μ1 (fun b μ2 => f p b μ2 (qB fun k μ3 => br k (dc ρ μ3 (fun c μ4 => g b c μ4 (qB q) x) x) (qB q (.bl false) μ3)) x) x) J
    ⟨B, ρ, μ, G, _, x, R, h, fun p v μ1 G1 H1 h1 g1 r1 => ⟨μ1, G1, p, g1, r1, h1⟩, gx⟩) fun u s1 ⟨v, H1, J1, rv, μ1, G1, p, g1, rp, h1⟩ => test_link (thn (hb.run pins s1 σ H1 (fun v2 H2 => ∃ μ2 G2 p2, Go X.K B μ G H μ2 G2 H2 ∧ Rep X.K B G2 p v ∧ Rep X.K B G2 p2 v2 ∧ f p p2 μ2 (qB fun k μ3 => br k (dc ρ μ3 (fun c μ4 => g p2 c μ4 (qB q) x) x) (qB q (.bl false) μ3)) x) J1
    ⟨B, ρ, μ1, G1, _, x, R.go g1, h1, fun p2 v2 μ2 G2 H2 h2 g2 r2 => ⟨μ2, G2, p2, g1.trans g2, rp.mono g2.gx, r2, h2⟩, gx.go g1⟩) fun u2 s2 ⟨v2, H2, J2, rv2, μ2, G2, p2, g2, rp', rp2, h2⟩ =>
    thn (ho pins s2 σ H2 B ρ μ2 G2 p p2 v v2 u u2 _ x (fun z H3 => ∃ k μ3 G3, z = .bl k ∧ Go X.K B μ G H μ3 G3 H3 ∧ Rep X.K B G3 p2 v2 ∧ br k (dc ρ μ3 (fun c μ4 => g p2 c μ4 (qB q) x) x) (qB q (.bl false) μ3)) J2 (R.go g2) rp' rp2 rv rv2 h2
      (fun p3 v3 μ3 G3 H3 h3 g3 r3 => by
        obtain ⟨k, rfl, hk⟩ := qB_inv h3
        exact ⟨k, μ3, G3, r3.bl_inv, g2.trans g3, rp2.mono g3.gx, hk⟩) (gx.go g2)) fun d s3 ⟨z, H3, J3, r3, k, μ3, G3, e, g3, rp3, q3⟩ => ?_)) hm
  subst e
  cases r3
  refine wpAny_truthy_bool ?_
  cases k with
  | false => exact ite_ff ⟨H3, J3, gv _ _ _ _ (q3.f rfl) g3⟩
  | true =>
    refine ite_tt (test_last (thn (hc.run pins s3 σ H3 (fun v4 H4 => ∃ μ4 G4 p4, Go X.K B μ G H μ4 G4 H4 ∧ Rep X.K B G4 p2 v2 ∧ Rep X.K B G4 p4 v4 ∧ g p2 p4 μ4 (qB q) x) J3
      ⟨B, ρ, μ3, G3, _, x, R.go g3, q3.t rfl, fun p4 v4 μ4 G4 H4 h4 g4 r4 => ⟨μ4, G4, p4, g3.trans g4, rp3.mono g4.gx, r4, h4⟩, gx.go g3⟩) fun w s4 ⟨v4, H4, J4, r4, μ4, G4, p4, g4, ra, rb, h4⟩ =>
      thn (ho' pins s4 σ H4 B ρ μ4 G4 p2 p4 v2 v4 u2 w (qB q) x (fun z H5 => ∃ k, z = .bl k ∧ Q k H5) J4 (R.go g4) ra rb rv2 r4 h4 (fun p5 v5 μ5 G5 H5 h5 g5 r5 => by
        obtain ⟨k, rfl, hk⟩ := qB_inv h5
        exact ⟨k, r5.bl_inv, gv k μ5 G5 H5 hk (g4.trans g5)⟩) (gx.go g4)) fun c5 s5 ⟨z5, H5, J5, r5, k5, e5, q5⟩ => ?_))
    subst e5
    cases r5
    exact wpAny_truthy_bool ⟨H5, J5, q5⟩
/-! one-place signs -/
abbrev FU := PV → Mu → QV → QX → Prop
def UnJ (X : Cx) (W : WX) (op : Value → Sem Value) (f : FU) : Prop := ∀ (pins : List (Addr × Obj)) (s : Shared) (σ : L2.St) (H : Hp) (B : BX) (ρ : En) (μ : Mu) (G : Hp) (a : PV) (va : V) (u : Value) (q : QV) (x : QX) (Q : VK), Inv X pins σ H s → Rel X.K B ρ μ σ G H → Rep X.K B G a va → RelV va u →
    f a μ q x → GoodV X.K B μ G H q Q → GoodX X.K W B μ G H σ x → wpAny (model X.prog X.w) X.A (op u) (EP X pins σ Q) X.xe s
def dUn (f : FU) (d : DE) : DE := fun ρ μ q x => d ρ μ (fun p μ1 => f p μ1 q x) x
theorem e_un {op : UnaryOp} {f : FU} (ho : UnJ X W (unaryOp op) f) (ha : EJ X W a da) : EJ X W (.UnaryOp op a pos) (dUn f da) := by
  refine ⟨fun pins s σ H Q J ⟨B, ρ, μ, G, q, z, R, h, gv, gx⟩ => ?_⟩
  refine UnaryOp_ (thn (ha.run pins s σ H (fun v H1 => ∃ μ1 G1 p, Go X.K B μ G H μ1 G1 H1 ∧ Rep X.K B G1 p v ∧ f p μ1 q z) J
    ⟨B, ρ, μ, G, _, z, R, h, fun p v μ1 G1 H1 h1 g1 r1 => ⟨μ1, G1, p, g1, r1, h1⟩, gx⟩) fun u s1 ⟨v, H1, J1, rv, μ1, G1, p, g1, rp, hf⟩ => ?_)
  exact ho pins s1 σ H1 B ρ μ1 G1 p v u q z Q J1 (R.go g1) rp rv hf (gv.go g1) (gx.go g1)
def negP : FU := fun p μ q _ => match p with
  | .int i => q (.int (-i)) μ
  | _ => False
theorem uj_neg : UnJ X W (unaryOp .USub) negP := fun pins s σ H B ρ μ G a va u q x Q J R ra ru h gv gx => by
  cases a <;> first | exact h.elim | exact un_neg pins s σ H va u Q J ru ⟨_, ra.int_inv, gv _ _ _ _ _ h (.refl R.ok) (rep_int _)⟩
end

/-! ## sequences -/
def seqOf (μ : Mu) : PV → Option (Bool × List PV)
  | .lst xs => some (false, xs)
  | .tup xs => some (true, xs)
  | .cell a => match μ a with
    | some (.lst xs) => some (false, xs)
    | _ => none
  | _ => none
theorem seq_ok {K : Frg} {B : BX} {μ : Mu} {G H : Hp} {p : PV} {v : V} {t : Bool} {xs : List PV} (o : Ok K B μ G H) (r : Rep K B G p v) (h : seqOf μ p = some (t, xs)) :
    ∃ a vs, v = .ref a ∧ Reps K B G xs vs ∧ ((t = false ∧ H a = some (.lst vs)) ∨ (t = true ∧ SqT K H a vs)) := by
  cases p with
  | lst ys =>
    cases h
    obtain ⟨a, vs, e, g, rs⟩ := r.lst_inv
    exact ⟨a, vs, e, rs, .inl ⟨rfl, o.sub _ _ g⟩⟩
  | tup ys =>
    cases h
    obtain ⟨a, vs, e, g, rs⟩ := r.tup_inv
    exact ⟨a, vs, e, rs, .inr ⟨rfl, o.sub.t g⟩⟩
  | cell a =>
    have h : (match μ a with | some (.lst xs) => some (false, xs) | _ => none) = some (t, xs) := h
    cases e : μ a with
    | none => rw [e] at h; cases h
    | some c =>
      rw [e] at h
      cases c with
      | lst ys =>
        cases h
        obtain ⟨_, _, u, e1, vs, rfl, rs⟩ := o.cell a _ e
        exact ⟨a, vs, r.cell_inv, rs, .inl ⟨rfl, e1⟩⟩
      | _ => cases h
  | _ => cases h

/-! ## the operators' meanings -/
def onI (f : Int → Int → (PV → Prop) → Prop) : F2 := fun _ a b q => match a with
  | .int i => (match b with
    | .int j => f i j q
    | _ => False)
  | _ => False
theorem onI_inv {f : Int → Int → (PV → Prop) → Prop} {μ : Mu} {a b : PV} {q : PV → Prop} (h : onI f μ a b q) : ∃ i j, a = .int i ∧ b = .int j ∧ f i j q := by
  cases a <;> try exact False.elim h
  cases b <;> first | exact ⟨_, _, rfl, rfl, h⟩ | exact False.elim h
theorem pop_I {K : Frg} (g : Int → Int → Int) : POp K (rI0 fun i j => .int (g i j)) (onI fun i j q => q (.int (g i j))) := fun B μ G H a b va vb q Q o ra rb h gv => by
  obtain ⟨i, j, rfl, rfl, hq⟩ := onI_inv h
  exact ⟨i, j, ra.int_inv, rb.int_inv, gv _ _ _ _ hq (.refl o) (rep_int _)⟩
theorem pop_IC {K : Frg} {C : Int → Int → Prop} (g : Int → Int → Int) : POp K (rI C fun i j => .int (g i j)) (onI fun i j q => C i j ∧ q (.int (g i j))) := fun B μ G H a b va vb q Q o ra rb h gv => by
  obtain ⟨i, j, rfl, rfl, hc, hq⟩ := onI_inv h
  exact ⟨i, j, ra.int_inv, rb.int_inv, hc, gv _ _ _ _ hq (.refl o) (rep_int _)⟩
theorem pop_IB {K : Frg} (g : Int → Int → Bool) : POp K (rI0 fun i j => .bl (g i j)) (onI fun i j q => q (.bl (g i j))) := fun B μ G H a b va vb q Q o ra rb h gv => by
  obtain ⟨i, j, rfl, rfl, hq⟩ := onI_inv h
  exact ⟨i, j, ra.int_inv, rb.int_inv, gv _ _ _ _ hq (.refl o) (rep_bl _)⟩
abbrev subP : F2 := onI fun i j q => q (.int (i - j))
abbrev andP : F2 := onI fun i j q => q (.int (Builtin.bitAnd i j))
abbrev orP : F2 := onI fun i j q => q (.int (Builtin.bitOr i j))
abbrev xorP : F2 := onI fun i j q => q (.int (Builtin.bitXor i j))
abbrev modP : F2 := onI fun i j q => 0 < j ∧ q (.int (i % j))
abbrev divP : F2 := onI fun i j q => CDiv i j ∧ q (.int (i / j))
abbrev powP : F2 := onI fun i j q => CPow i j ∧ q (.int (i ^ j.toNat))
abbrev shlP : F2 := onI fun i j q => CPow i j ∧ q (.int (i * 2 ^ j.toNat))
abbrev shrP : F2 := onI fun i j q => 0 ≤ j ∧ q (.int (i / 2 ^ j.toNat))
abbrev ltI : F2 := onI fun i j q => q (.bl (decide (i < j)))
abbrev leI : F2 := onI fun i j q => q (.bl (decide (i ≤ j)))
abbrev gtI : F2 := onI fun i j q => q (.bl (decide (j < i)))
abbrev geI : F2 := onI fun i j q => q (.bl (decide (j ≤ i)))
/-- xs + ys -/
def catP : F2 := fun μ a b q => match seqOf μ a with
  | some (t, xs) => (match seqOf μ b with
    | some (u, ys) => t = u ∧ xs.length + ys.length ≤ sizeLine ∧ q (if t then .tup (xs ++ ys) else .lst (xs ++ ys))
    | none => False)
  | none => False
theorem catP_inv {μ : Mu} {a b : PV} {q : PV → Prop} (h : catP μ a b q) : ∃ t xs ys, seqOf μ a = some (t, xs) ∧ seqOf μ b = some (t, ys) ∧ xs.length + ys.length ≤ sizeLine ∧ q (if t then .tup (xs ++ ys) else .lst (xs ++ ys)) := by
  unfold catP at h
  cases e : seqOf μ a with
  | none => rw [e] at h; exact h.elim
  | some z =>
    obtain ⟨t, xs⟩ := z
    rw [e] at h
    cases e2 : seqOf μ b with
    | none => simp only [e2] at h
    | some z2 =>
      obtain ⟨u, ys⟩ := z2
      simp only [e2] at h
      obtain ⟨rfl, h1, h2⟩ := h
      exact ⟨t, xs, ys, rfl, rfl, h1, h2⟩
def addP : F2 := fun μ a b q => match a with
  | .int i => (match b with
    | .int j => q (.int (i + j))
    | _ => False)
  | .str i => (match b with
    | .str j => i.length + j.length ≤ sizeLine ∧ q (.str (i ++ j))
    | _ => False)
  | a => catP μ a b q
def onS (f : Str → Str → (PV → Prop) → Prop) : F2 := fun _ a b q => match a with
  | .str i => (match b with
    | .str j => f i j q
    | _ => False)
  | _ => False
theorem onS_inv {f : Str → Str → (PV → Prop) → Prop} {μ : Mu} {a b : PV} {q : PV → Prop} (h : onS f μ a b q) : ∃ i j, a = .str i ∧ b = .str j ∧ f i j q := by
  cases a <;> try exact False.elim h
  cases b <;> first | exact ⟨_, _, rfl, rfl, h⟩ | exact False.elim h
theorem pop_addS {K : Frg} : POp K (fun x y H Q => ∃ i j, x = .str i ∧ y = .str j ∧ i.length + j.length ≤ sizeLine ∧ Q (.str (i ++ j)) H) (onS fun i j q => i.length + j.length ≤ sizeLine ∧ q (.str (i ++ j))) := fun B μ G H a b va vb q Q o ra rb h gv => by
  obtain ⟨i, j, rfl, rfl, h1, hq⟩ := onS_inv h
  exact ⟨i, j, ra.str_inv, rb.str_inv, h1, gv _ _ _ _ hq (.refl o) (rep_str _)⟩
section
variable {X : Cx} {W : WX}
theorem pop_catL {K : Frg} : POp K rCat (fun μ a b q => ∃ xs ys, seqOf μ a = some (false, xs) ∧ seqOf μ b = some (false, ys) ∧ xs.length + ys.length ≤ sizeLine ∧ q (.lst (xs ++ ys))) := fun B μ G H a b va vb q Q o ra rb ⟨xs, ys, e1, e2, hl, hq⟩ gv => by
  obtain ⟨p1, vs, rfl, rs, h1⟩ := seq_ok o ra e1
  obtain ⟨p2, ws, rfl, rs2, h2⟩ := seq_ok o rb e2
  have h1 : H p1 = some (.lst vs) := by rcases h1 with h | h; exact h.2; cases h.1
  have h2 : H p2 = some (.lst ws) := by rcases h2 with h | h; exact h.2; cases h.1
  refine ⟨p1, p2, vs, ws, rfl, rfl, h1, h2, by rw [rs.length, rs2.length]; exact hl, fun p hp => ?_⟩
  have g := o.new1 (u := .lst (vs ++ ws)) hp
  exact gv _ _ _ _ hq g (rep_lst upd_same ((rs.append rs2).mono g.gx))
theorem pop_catT {K : Frg} : POp K (rCatA K) (fun μ a b q => ∃ xs ys, seqOf μ a = some (true, xs) ∧ seqOf μ b = some (true, ys) ∧ xs.length + ys.length ≤ sizeLine ∧ q (.tup (xs ++ ys))) := fun B μ G H a b va vb q Q o ra rb ⟨xs, ys, e1, e2, hl, hq⟩ gv => by
  cases a with
  | tup xs' =>
    cases b with
    | tup ys' =>
      cases e1
      cases e2
      obtain ⟨p1, vs, rfl, h1, rs⟩ := ra.tup_inv
      obtain ⟨p2, ws, rfl, h2, rs2⟩ := rb.tup_inv
      refine ⟨p1, p2, vs, ws, rfl, rfl, o.sub.t h1, o.sub.t h2, by rw [rs.length, rs2.length]; exact hl, fun e => ?_, fun n e => ?_, fun n m p hp => ?_⟩
      · subst e
        have l := rs.length
        have : xs = [] := List.eq_nil_of_length_eq_zero l.symm
        subst this
        exact gv _ _ _ _ hq (.refl o) rb
      · subst e
        have l := rs2.length
        have : ys = [] := List.eq_nil_of_length_eq_zero l.symm
        subst this
        rw [List.append_nil] at hq
        exact gv _ _ _ _ hq (.refl o) ra
      · have g := o.new1 (u := .tup (vs ++ ws)) hp
        exact gv _ _ _ _ hq g (rep_tup (.inl (.inl upd_same)) ((rs.append rs2).mono g.gx))
    | cell c =>
      have e2 : (match μ c with | some (.lst xs) => some (false, xs) | _ => none) = some (true, ys) := e2
      split at e2 <;> cases e2
    | _ => cases e2
  | cell c =>
    have e1 : (match μ c with | some (.lst xs) => some (false, xs) | _ => none) = some (true, xs) := e1
    split at e1 <;> cases e1
  | _ => cases e1
theorem oj_add : OpJ X W (binaryOp .Add) (fo addP) := by
  refine OpJ.or (OpJ.of op_add (pop_I _)) (OpJ.or (OpJ.of op_add_str pop_addS) (OpJ.or (OpJ.of op_cat pop_catL) (OpJ.of op_catA pop_catT) (h := fo catP) fun a b μ q x h => ?_) (h := fun a b μ q x => fo (onS fun i j q => i.length + j.length ≤ sizeLine ∧ q (.str (i ++ j))) a b μ q x ∨ fo catP a b μ q x) fun a b μ q x h => h) fun a b μ q x h => ?_
  · obtain ⟨t, xs, ys, e1, e2, h1, h2⟩ := catP_inv h
    cases t
    · exact .inl ⟨xs, ys, e1, e2, h1, h2⟩
    · exact .inr ⟨xs, ys, e1, e2, h1, h2⟩
  · cases a with
    | int i => exact .inl h
    | str i => exact .inr (.inl h)
    | _ => exact .inr (.inr h)
theorem oj_sub : OpJ X W (binaryOp .Sub) (fo subP) := .of op_sub (pop_I _)
theorem oj_mod : OpJ X W (binaryOp .Mod) (fo modP) := .of op_mod (pop_IC _)
theorem oj_div : OpJ X W (binaryOp .FloorDiv) (fo divP) := .of op_fdiv (pop_IC _)
theorem oj_pow : OpJ X W (binaryOp .Pow) (fo powP) := .of op_pow (pop_IC _)
theorem oj_shl : OpJ X W (binaryOp .LShift) (fo shlP) := .of op_shl (pop_IC _)
theorem oj_shr : OpJ X W (binaryOp .RShift) (fo shrP) := .of op_shr (pop_IC _)
theorem oj_and : OpJ X W (binaryOp .BitAnd) (fo andP) := .of op_and (pop_I _)
theorem oj_or : OpJ X W (binaryOp .BitOr) (fo orP) := .of op_or (pop_I _)
theorem oj_xor : OpJ X W (binaryOp .BitXor) (fo xorP) := .of op_xor (pop_I _)
/-- a * b: ints; a list repeated -/
def mulP : F2 := fun μ a b q => match b with
  | .int j => (match a with
    | .int i => CMul i j ∧ q (.int (i * j))
    | a => (match seqOf μ a with
      | some (false, xs) => 0 ≤ j ∧ j < 2 ^ 63 ∧ xs.length * j.toNat ≤ sizeLine ∧ q (.lst (List.replicate j.toNat xs).flatten)
      | _ => False))
  | _ => False
theorem Reps.flat {K : Frg} {B : BX} {G : Hp} {xs : List PV} {vs : List V} (r : Reps K B G xs vs) : ∀ n : Nat, Reps K B G (List.replicate n xs).flatten (List.replicate n vs).flatten
  | 0 => .nil
  | n + 1 => by rw [List.replicate_succ, List.replicate_succ, List.flatten_cons, List.flatten_cons]; exact r.append (r.flat n)
theorem pop_rep {K : Frg} : POp K rRep (fun μ a b q => ∃ xs j, b = .int j ∧ seqOf μ a = some (false, xs) ∧ 0 ≤ j ∧ j < 2 ^ 63 ∧ xs.length * j.toNat ≤ sizeLine ∧ q (.lst (List.replicate j.toNat xs).flatten)) := fun B μ G H a b va vb q Q o ra rb ⟨xs, j, e, e1, j0, j1, hl, hq⟩ gv => by
  subst e
  obtain ⟨p1, vs, rfl, rs, h1⟩ := seq_ok o ra e1
  have h1 : H p1 = some (.lst vs) := by rcases h1 with h | h; exact h.2; cases h.1
  refine ⟨p1, j, vs, rfl, rb.int_inv, h1, by omega, j1, by rw [rs.length]; exact hl, fun p hp => ?_⟩
  have g := o.new1 (u := .lst (List.replicate j.toNat vs).flatten) hp
  exact gv _ _ _ _ hq g (rep_lst upd_same ((rs.flat _).mono g.gx))
theorem oj_mul : OpJ X W (binaryOp .Mult) (fo mulP) := by
  refine OpJ.or (OpJ.of op_mul (pop_IC _)) (OpJ.of op_rep pop_rep) fun a b μ q x h => ?_
  cases b with
  | int j =>
    have rest : ∀ a : PV, (match seqOf μ a with | some (false, xs) => 0 ≤ j ∧ j < 2 ^ 63 ∧ xs.length * j.toNat ≤ sizeLine ∧ q (.lst (List.replicate j.toNat xs).flatten) μ | _ => False) → ∃ xs j', PV.int j = .int j' ∧ seqOf μ a = some (false, xs) ∧ 0 ≤ j' ∧ j' < 2 ^ 63 ∧ xs.length * j'.toNat ≤ sizeLine ∧ q (.lst (List.replicate j'.toNat xs).flatten) μ := fun a h => by
      cases e : seqOf μ a with
      | none => rw [e] at h; exact h.elim
      | some z =>
        obtain ⟨t, xs⟩ := z
        rw [e] at h
        cases t
        · exact ⟨xs, j, rfl, rfl, h⟩
        · exact h.elim
    cases a with
    | int i => exact .inl h
    | _ => exact .inr (rest _ h)
  | _ => exact h.elim
theorem oj_le : OpJ X W (compareOp .LtE) (fo leI) := .of op_le (pop_IB _)
theorem oj_ge : OpJ X W (compareOp .GtE) (fo geI) := .of op_ge (pop_IB _)
theorem oj_gt : OpJ X W (compareOp .Gt) (fo gtI) := .of op_gt (pop_IB _)
/-- a < b: ints, texts -/
def ltP : F2 := fun μ a b q => match a with
  | .str i => (match b with
    | .str j => q (.bl (decide (i.cps.toList < j.cps.toList)))
    | _ => False)
  | a => ltI μ a b q
theorem pop_ltS {K : Frg} : POp K (fun x y H Q => ∃ i j : Str, x = .str i ∧ y = .str j ∧ Q (.bl (decide (i.cps.toList < j.cps.toList))) H) (onS fun i j q => q (.bl (decide (i.cps.toList < j.cps.toList)))) := fun B μ G H a b va vb q Q o ra rb h gv => by
  obtain ⟨i, j, rfl, rfl, hq⟩ := onS_inv h
  exact ⟨i, j, ra.str_inv, rb.str_inv, gv _ _ _ _ hq (.refl o) (rep_bl _)⟩
theorem oj_lt : OpJ X W (compareOp .Lt) (fo ltP) := by
  refine OpJ.or (OpJ.of op_lt (pop_IB _)) (OpJ.of op_lt_str pop_ltS) fun a b μ q x h => ?_
  cases a with
  | str i => exact .inr h
  | _ => exact .inl h
end
end Px

namespace Px
open PySem PySem.Spec PyProof.Rows L2

/-! ## argument lists, displays -/
def dNil : DA := fun _ μ q _ => q [] μ
def dCons (d : DE) (ds : DA) : DA := fun ρ μ q x => d ρ μ (fun p μ1 => ds ρ μ1 (fun ps μ2 => q (p :: ps) μ2) x) x
def dStar (d : DE) (ds : DA) : DA := fun ρ μ q x => d ρ μ (fun p μ1 => match seqOf μ1 p with
  | some (_, xs) => ds ρ μ1 (fun ps μ2 => q (xs ++ ps) μ2) x
  | none => False) x
def dTup (ds : DA) : DE := fun ρ μ q x => ds ρ μ (fun ps μ1 => ps.length ≤ sizeLine ∧ q (.tup ps) μ1) x
/-- an expression that gives a new list, held by nobody -/
abbrev DL := En → Mu → (List PV → Mu → Prop) → QX → Prop
def GoodL (K : Frg) (B : BX) (μ : Mu) (G H : Hp) (q : List PV → Mu → Prop) (Q : VK) : Prop := ∀ ps l vs μ' G' H', q ps μ' → Go K B μ G H μ' G' H' → H l = none → G' l = none → μ' l = none → H' l = some (.lst vs) → Reps K B G' ps vs → Q (.ref l) H'
def tL (K : Frg) (W : WX) (d : DL) : TE := fun σ H Q => ∃ (B : BX) (ρ : En) (μ : Mu) (G : Hp) (q : List PV → Mu → Prop) (x : QX), Rel K B ρ μ σ G H ∧ d ρ μ q x ∧ GoodL K B μ G H q Q ∧ GoodX K W B μ G H σ x
abbrev LJ (X : Cx) (W : WX) (e : Expr) (d : DL) : Prop := PE X e (tL X.K W d)
/-- it is never changed -/
def dLst (d : DL) : DE := fun ρ μ q x => d ρ μ (fun ps μ1 => q (.lst ps) μ1) x
/-- it gets a cell -/
def dNew (d : DL) : DE := fun ρ μ q x => d ρ μ (fun ps μ1 => ∀ a, μ1 a = none → q (.cell a) (μ1.put a (.lst ps))) x
def lDisp (ds : DA) : DL := fun ρ μ q x => ds ρ μ (fun ps μ1 => ps.length ≤ sizeLine ∧ q ps μ1) x
section
variable {X : Cx} {W : WX} {pos : Pos} {e : Expr} {es : List Expr} {d : DE} {ds : DA} {dl : DL}
theorem a_nil : AJ X W [] dNil := pa_imp pa_nil fun σ H Q ⟨B, ρ, μ, G, q, x, R, h, gv, gx⟩ => gv [] [] μ G H h (.refl R.ok) .nil
theorem a_cons (he : EJ X W e d) (hs : AJ X W es ds) (h1 : starEach (e :: es) X.env = (false, eval e X.env) :: starEach es X.env := by rfl) : AJ X W (e :: es) (dCons d ds) := pa_imp (pa_cons he hs h1) fun σ H Q ⟨B, ρ, μ, G, q, x, R, h, gv, gx⟩ =>
  ⟨B, ρ, μ, G, _, x, R, h, fun p v μ1 G1 H1 h1 g1 r1 => ⟨B, ρ, μ1, G1, _, x, R.go g1, h1, fun ps vs μ2 G2 H2 h2 g2 r2 => gv (p :: ps) (v :: vs) μ2 G2 H2 h2 (g1.trans g2) (.cons (r1.mono g2.gx) r2), gx.go g1⟩, gx⟩
theorem a_star {p0 : Pos} (he : EJ X W e d) (hs : AJ X W es ds) (h1 : starEach (.Starred e p0 :: es) X.env = (true, eval e X.env) :: starEach es X.env := by rfl) : AJ X W (.Starred e p0 :: es) (dStar d ds) := pa_imp (StX.pa_star he hs h1) fun σ H Q ⟨B, ρ, μ, G, q, x, R, h, gv, gx⟩ =>
  ⟨B, ρ, μ, G, _, x, R, h, fun p v μ1 G1 H1 hp g1 r1 => by
    cases e : seqOf μ1 p with
    | none => simp only [e] at hp
    | some z =>
      obtain ⟨t, xs⟩ := z
      simp only [e] at hp
      obtain ⟨a, vs, rfl, rs, hh⟩ := seq_ok g1.ok r1 e
      refine ⟨a, vs, rfl, ?_, B, ρ, μ1, G1, _, x, R.go g1, hp, fun ps ws μ2 G2 H2 h2 g2 r2 => gv (xs ++ ps) (vs ++ ws) μ2 G2 H2 h2 (g1.trans g2) ((rs.mono g2.gx).append r2), gx.go g1⟩
      rcases hh with ⟨_, hh⟩ | ⟨_, hh⟩
      · exact .inr (.inl (.inl hh))
      · exact .inl hh, gx⟩
theorem e_tup {n : Nat} (hs : AJ X W es ds) : EJ X W (.Tuple es n pos) (dTup ds) := pe_imp (pe_tup hs) fun σ H Q ⟨B, ρ, μ, G, q, x, R, h, gv, gx⟩ =>
  ⟨B, ρ, μ, G, _, x, R, h, fun ps vs μ1 G1 H1 ⟨l1, h1⟩ g1 r1 => ⟨by rw [r1.length]; exact l1, fun p hp => by
    have g2 := g1.ok.new1 (u := .tup vs) hp
    exact gv _ _ _ _ _ h1 (g1.trans g2) (rep_tup (.inl (.inl upd_same)) (r1.mono g2.gx))⟩, gx⟩
theorem l_disp (hs : AJ X W es ds) : LJ X W (.List es pos) (lDisp ds) := pe_imp (pe_lst hs) fun σ H Q ⟨B, ρ, μ, G, q, x, R, h, gv, gx⟩ =>
  ⟨B, ρ, μ, G, _, x, R, h, fun ps vs μ1 G1 H1 ⟨l1, h1⟩ g1 r1 => ⟨by rw [r1.length]; exact l1, fun p hp => by
    have g2 := g1.ok.new2 (u := .lst vs) hp
    exact gv ps p vs μ1 G1 _ h1 (g1.trans g2) (g1.st.dom p hp) (g1.ok.sub.free hp) (g1.ok.freeM hp) upd_same r1⟩, gx⟩
/-- a new list that is never changed -/
theorem e_new (h : LJ X W e dl) : EJ X W e (dLst dl) := pe_imp h fun σ H Q ⟨B, ρ, μ, G, q, x, R, h, gv, gx⟩ =>
  ⟨B, ρ, μ, G, _, x, R, h, fun ps l vs μ1 G1 H1 h1 g1 hl gl ml h2 r1 => gv _ _ _ _ _ h1 (g1.take1 hl h2 gl ml (R.ok.notB hl)) (rep_lst upd_same (r1.mono (.upd gl))), gx⟩
/-- a new list that may be changed -/
theorem e_newC (h : LJ X W e dl) : EJ X W e (dNew dl) := pe_imp h fun σ H Q ⟨B, ρ, μ, G, q, x, R, h, gv, gx⟩ =>
  ⟨B, ρ, μ, G, _, x, R, h, fun ps l vs μ1 G1 H1 h1 g1 hl gl ml h2 r1 => gv _ _ _ _ _ (h1 l ml) (g1.take hl h2 gl (R.ok.notB hl) ⟨vs, rfl, r1⟩) (rep_cell l), gx⟩
/-- a list's cell is no longer changed -/
def frzP (p : PV) (μ : Mu) (q : QV) : Prop := match p with
  | .cell a => (match μ a with
    | some (.lst xs) => q (.lst xs) (μ.del a)
    | some (.dK ks xs) => q (.dK ks xs) (μ.del a)
    | some (.dT ks xs) => q (.dT ks xs) (μ.del a)
    | _ => False)
  | _ => False
def dFrz (d : DE) : DE := fun ρ μ q x => d ρ μ (fun p μ1 => frzP p μ1 q) x
theorem e_frz (h : EJ X W e d) : EJ X W e (dFrz d) := pe_imp h fun σ H Q ⟨B, ρ, μ, G, q, x, R, h, gv, gx⟩ =>
  ⟨B, ρ, μ, G, _, x, R, h, fun p v μ1 G1 H1 h1 g1 r1 => by
    cases p with
    | cell a =>
      unfold frzP at h1
      cases e : μ1 a with
      | none => simp only [e] at h1
      | some c =>
        simp only [e] at h1
        obtain ⟨ga, nb, u, ha, ck⟩ := g1.ok.cell a c e
        have gf := g1.ok.goFrz (by rw [e]; intro z; cases z) ha ga nb
        have hv := r1.cell_inv
        subst hv
        cases c with
        | lst xs =>
          obtain ⟨vs, rfl, rs⟩ := ck
          exact gv _ _ _ _ _ h1 (g1.trans gf) (rep_lst upd_same (rs.mono gf.gx))
        | ins c fs => exact h1.elim
        | dK ks xs =>
          obtain ⟨vs, rfl, l, rs⟩ := ck
          refine gv _ _ _ _ _ h1 (g1.trans gf) ?_
          simp only [Rep]
          exact ⟨a, vs, rfl, upd_same, l, rs.mono gf.gx⟩
        | dT ks xs =>
          obtain ⟨vs, rfl, l, rs⟩ := ck
          refine gv _ _ _ _ _ h1 (g1.trans gf) ?_
          simp only [Rep]
          exact ⟨a, vs, rfl, upd_same, l, rs.mono gf.gx⟩
    | _ => exact h1.elim, gx⟩
end

/-! ## what a def promises -/
/-- arguments ps; q: wanted of the value, x: wanted of what is raised -/
def spP (K : Frg) (c : Ct) : Sp := fun vs H Q E => ∃ (B : BX) (μ : Mu) (G : Hp) (ps : List PV) (q : QV) (x : QX), Ok K B μ G H ∧ Reps K B G ps vs ∧ c ps μ q x ∧ GoodV K B μ G H q Q ∧
  (∀ xv d μ' G' H', x xv μ' → Go K B μ G H μ' G' H' → XRep K B G' xv d → E (.ref (ca K xv.1)) d H')
/-- the def at f, called with keywords ks (their values behind the others): hot: also while an exception is handled -/
def FnS (hot : Bool) (P : Program) (w : World) (K : Frg) (mg : Str → Option Value) (base : Heap) (k : Nat) (f : Addr) (ks : List Str) (sp : Sp) : Prop :=
  ∀ (A : Around) (outer : List Env) (s : Shared) (H : Hp) (us ws : List Value) (vs : List V) (Q : VK) (E : XK), (A.handled = none ∨ (hot = true ∧ ∃ p, L2H.Hot1 A p ∧ L2H.PinOk outer H s p)) → L2H.RoomH k A → Env0 P w K mg base A outer s H →
    ws.length = ks.length → Vals vs (us ++ ws) → sp vs H Q E → codeAny (model P w) A (.call (.ref f) ⟨us, ks.zip ws⟩) (CR (L2N.CX P w) outer P w H s Q E) s
theorem FnS.up {hot : Bool} {P : Program} {w : World} {K : Frg} {mg : Str → Option Value} {base : Heap} {k j : Nat} {f : Addr} {ks : List Str} {sp : Sp} (F : FnS hot P w K mg base k f ks sp) (h : k ≤ j) : FnS hot P w K mg base j f ks sp :=
  fun A outer s H us ws vs Q E hm hr => F A outer s H us ws vs Q E hm (hr.mono h)
theorem FnS.cool {P : Program} {w : World} {K : Frg} {mg : Str → Option Value} {base : Heap} {k : Nat} {f : Addr} {ks : List Str} {sp : Sp} (F : FnS true P w K mg base k f ks sp) : FnS false P w K mg base k f ks sp :=
  fun A outer s H us ws vs Q E hm hr => F A outer s H us ws vs Q E (hm.elim .inl fun z => by cases z.1) hr
/-- how one stands: nothing is being handled, or it is known -/
def Md (X : Cx) (hot : Bool) : Prop := X.calm = true ∨ (hot = true ∧ L2H.HotC X)
section
variable {X : Cx} {W : WX} {hot : Bool} {k : Nat} {f : Addr} {ks : List Str} {sp : Sp} {c : Ct}
theorem run_s {pins : List (Addr × Obj)} {σ : L2.St} {H : Hp} {s : Shared} {Q : VK} {us ws : List Value} {vs : List V} (Fn : FnS hot X.prog X.w X.K X.mg X.base k f ks sp) (md : Md X hot) (hr : L2H.RoomH k X.A) (tk : L2N.Takes X W) (J : Inv X pins σ H s)
    (hl : ws.length = ks.length) (r : Vals vs (us ++ ws)) (h : sp vs H Q (fun cls d H' => W cls d σ H')) : wpAny (model X.prog X.w) X.A (call (.ref f) us (ks.zip ws)) (EP X pins σ Q) X.xe s := by
  have hm : X.A.handled = none ∨ (hot = true ∧ ∃ p, L2H.Hot1 X.A p ∧ L2H.PinOk X.stack H s p) := by
    rcases md with z | ⟨z, p, hp, mem⟩
    · exact .inl (J.ok.hd z)
    · have P1 := J.pin p (List.mem_append_left _ mem)
      exact .inr ⟨z, p, hp, ⟨P1.1, P1.2.1, fun hq => (List.mem_cons.mp (J.stkSub p.1 hq)).elim P1.2.2.1 P1.2.2.2.1, P1.2.2.2.2⟩⟩
  refine wpAny_call (codeAny_mono (Fn X.A X.stack s H us ws vs Q _ hm hr J.env0 hl r h) fun rr s' hq => ?_)
  cases rr with
  | error er => exact tk er s' (L2N.XE.of_call J (fun _ _ _ z => z) hq)
  | ok fl =>
    cases fl with
    | ret u => exact J.after hq
    | next => exact False.elim hq
    | brk => exact False.elim hq
    | cont => exact False.elim hq
/-- the promise, from the caller's state -/
theorem spP_of {K : Frg} {B : BX} {ρ : En} {σ : L2.St} {μ : Mu} {G H : Hp} {ps : List PV} {vs : List V} {q : QV} {x : QX} {Q : VK} (R : Rel K B ρ μ σ G H) (r : Reps K B G ps vs) (h : c ps μ q x) (gv : GoodV K B μ G H q Q) (gx : GoodX K W B μ G H σ x) :
    spP K c vs H Q (fun cls d H' => W cls d σ H') := ⟨B, μ, G, ps, q, x, R.ok, r, h, gv, fun xv d μ' G' H' hp g rr => gx xv d μ' G' H' hp g rr⟩
end
def dCall (c : Ct) (ds : DA) : DE := fun ρ μ q x => ds ρ μ (fun ps μ1 => c ps μ1 q x) x
def dCallK (n : Nat) (c : Ct) (ds dk : DA) : DE := fun ρ μ q x => ds ρ μ (fun ps μ1 => dk ρ μ1 (fun zs μ2 => zs.length = n ∧ c (ps ++ zs) μ2 q x) x) x
section
variable {X : Cx} {W : WX} {hot : Bool} {k : Nat} {f : Addr} {ks : List Str} {c : Ct} {x : Str} {p0 pos : Pos} {e : Expr} {es : List Expr} {kws : List Keyword} {ds dk : DA}
abbrev KJ (X : Cx) (W : WX) (kws : List Keyword) (d : DA) : Prop := PK X kws (tA X.K W d)
theorem pk_imp {t t' : TA} (h : PK X kws t) (i : ∀ σ H Q, t' σ H Q → t σ H Q) : PK X kws t' := ⟨fun pos pins s σ H Q J z => h.run pos pins s σ H Q J (i σ H Q z)⟩
theorem k_nil : KJ X W [] dNil := pk_imp pk_nil fun σ H Q ⟨B, ρ, μ, G, q, x, R, h, gv, gx⟩ => gv [] [] μ G H h (.refl R.ok) .nil
theorem k_cons {nm : Option Str} {kp : Pos} {d : DE} (he : EJ X W e d) (hs : KJ X W kws dk) : KJ X W (⟨nm, e, kp⟩ :: kws) (dCons d dk) := pk_imp (pk_cons he hs) fun σ H Q ⟨B, ρ, μ, G, q, x, R, h, gv, gx⟩ =>
  ⟨B, ρ, μ, G, _, x, R, h, fun p v μ1 G1 H1 h1 g1 r1 => ⟨B, ρ, μ1, G1, _, x, R.go g1, h1, fun ps vs μ2 G2 H2 h2 g2 r2 => gv (p :: ps) (v :: vs) μ2 G2 H2 h2 (g1.trans g2) (.cons (r1.mono g2.gx) r2), gx.go g1⟩, gx⟩
theorem e_call (Fn : FnS hot X.prog X.w X.K X.mg X.base k f [] (spP X.K c)) (md : Md X hot) (hr : L2H.RoomH k X.A) (tk : L2N.Takes X W) (hm : X.mg x = some (.ref f)) (hk : PySem.W.keepIn X.K (.ref f) = true) (ha : AJ X W (e :: es) ds) (hg : Gl X x := by rfl)
    (h1 : (x == ("__debug__" : Str)) = false := by decide) (h2 : starEach (e :: es) X.env = (false, eval e X.env) :: starEach es X.env := by rfl) (h3 : (backTo pos (starEach es X.env)).any (·.1) = false := by rfl) : EJ X W (.Call (.Name x p0) (e :: es) [] pos) (dCall c ds) := by
  refine ⟨fun pins s σ H Q J ⟨B, ρ, μ, G, q, z, R, h, gv, gx⟩ => ?_⟩
  refine wpAny_Call_Name_kw (ld_glob J hg hm ?_ h1)
  refine PySem.W.callWith_K (h₀ := X.base) J.ok.mod.kin hk (thn (ha.run pos pins s σ H (fun vs H1 => spP X.K c vs H1 Q fun cls d H' => W cls d σ H') J ⟨B, ρ, μ, G, _, z, R, h, fun ps vs μ1 G1 H1 h1 g1 r1 => spP_of (R.go g1) r1 h1 (gv.go g1) (gx.go g1), gx⟩) fun us s1 ⟨vs, H1, J1, r, q1⟩ => ⟨J1.kIn, ?_⟩) h2 h3
  exact run_s (ws := []) Fn md hr tk J1 rfl (by rw [List.append_nil]; exact r) q1
theorem e_call0 (Fn : FnS hot X.prog X.w X.K X.mg X.base k f [] (spP X.K c)) (md : Md X hot) (hr : L2H.RoomH k X.A) (tk : L2N.Takes X W) (hm : X.mg x = some (.ref f)) (hk : PySem.W.keepIn X.K (.ref f) = true) (hg : Gl X x := by rfl)
    (h1 : (x == ("__debug__" : Str)) = false := by decide) : EJ X W (.Call (.Name x p0) [] [] pos) (dCall c dNil) := by
  refine ⟨fun pins s σ H Q J ⟨B, ρ, μ, G, q, z, R, h, gv, gx⟩ => ?_⟩
  refine wpAny_Call_Name_kw (ld_glob J hg hm ?_ h1)
  exact PySem.W.callWith_K0 J.kIn hk (run_s (us := []) (ws := []) Fn md hr tk J rfl .nil (spP_of R .nil h gv gx))
theorem e_callK (Fn : FnS hot X.prog X.w X.K X.mg X.base k f ks (spP X.K c)) (md : Md X hot) (hr : L2H.RoomH k X.A) (tk : L2N.Takes X W) (hm : X.mg x = some (.ref f)) (hk : PySem.W.keepIn X.K (.ref f) = true) (ha : AJ X W (e :: es) ds) (hkw : KJ X W kws dk) {n : Nat} (hn : ks.length = n := by rfl) (hg : Gl X x := by rfl)
    (k1 : (backToKw pos (keywordEach kws X.env)).all (·.1.isSome) = true := by rfl) (k2 : (backToKw pos (keywordEach kws X.env)).filterMap (·.1) = ks := by rfl)
    (h1 : (x == ("__debug__" : Str)) = false := by decide) (h2 : starEach (e :: es) X.env = (false, eval e X.env) :: starEach es X.env := by rfl)
    (h3 : ((backTo pos (starEach (e :: es) X.env)).any (·.1) || (backToKw pos (keywordEach kws X.env)).any (·.1.isNone)) = false := by rfl) : EJ X W (.Call (.Name x p0) (e :: es) kws pos) (dCallK n c ds dk) := by
  subst hn
  refine ⟨fun pins s σ H Q J ⟨B, ρ, μ, G, q, z, R, h, gv, gx⟩ => ?_⟩
  refine wpAny_Call_Name_kw (ld_glob J hg hm ?_ h1)
  refine PySem.W.callWith_KW (h₀ := X.base) J.ok.mod.kin hk k1 (thn (ha.run pos pins s σ H (fun vs H1 => tA X.K W dk σ H1 fun zs H2 => zs.length = ks.length ∧ spP X.K c (vs ++ zs) H2 Q fun cls d H' => W cls d σ H') J
    ⟨B, ρ, μ, G, _, z, R, h, fun ps vs μ1 G1 H1 h1 g1 r1 => ⟨B, ρ, μ1, G1, _, z, R.go g1, h1, fun zs ws μ2 G2 H2 ⟨hz, h2⟩ g2 r2 => ⟨by rw [r2.length]; exact hz, spP_of (R.go (g1.trans g2)) ((r1.mono g2.gx).append r2) h2 (gv.go (g1.trans g2)) (gx.go (g1.trans g2))⟩, gx.go g1⟩, gx⟩) fun us s1 ⟨vs, H1, J1, r, q1⟩ => ?_) h3 h2
  refine thn (hkw.run pos pins s1 σ H1 _ J1 q1) fun ws s2 ⟨zs, H2, J2, rz, hz, q2⟩ => ⟨J2.kIn, ?_⟩
  rw [k2]
  exact run_s Fn md hr tk J2 (by rw [← rz.length]; exact hz) (r.append rz) q2
end
end Px

namespace Px
open PySem PySem.Spec PyProof.Rows L2

/-! ## statements -/
structure DEn where
  nx : En → Mu → Prop
  rt : QV
  bk : En → Mu → Prop := fun _ _ => False
  ct : En → Mu → Prop := fun _ _ => False
  xc : XV → En → Mu → Prop := fun _ _ _ => False
abbrev DS := DEn → En → Mu → Prop
structure EndsOk (K : Frg) (W : WX) (B : BX) (μ : Mu) (G H : Hp) (P : DEn) (D : Ends) : Prop where
  nx : ∀ ρ σ μ' G' H', P.nx ρ μ' → Rel K B ρ μ' σ G' H' → Go K B μ G H μ' G' H' → D.nx σ H'
  rt : ∀ p v μ' G' H', P.rt p μ' → Go K B μ G H μ' G' H' → Rep K B G' p v → D.rt v H'
  bk : ∀ ρ σ μ' G' H', P.bk ρ μ' → Rel K B ρ μ' σ G' H' → Go K B μ G H μ' G' H' → D.bk σ H'
  ct : ∀ ρ σ μ' G' H', P.ct ρ μ' → Rel K B ρ μ' σ G' H' → Go K B μ G H μ' G' H' → D.ct σ H'
  xc : ∀ xv d ρ σ μ' G' H', P.xc xv ρ μ' → Rel K B ρ μ' σ G' H' → Go K B μ G H μ' G' H' → XRep K B G' xv d → W (.ref (ca K xv.1)) d σ H'
theorem EndsOk.go {K : Frg} {W : WX} {B : BX} {μ μ1 : Mu} {G H G1 H1 : Hp} {P : DEn} {D : Ends} (e : EndsOk K W B μ G H P D) (g : Go K B μ G H μ1 G1 H1) : EndsOk K W B μ1 G1 H1 P D :=
  ⟨fun ρ σ μ' G' H' h R z => e.nx ρ σ μ' G' H' h R (g.trans z), fun p v μ' G' H' h z r => e.rt p v μ' G' H' h (g.trans z) r, fun ρ σ μ' G' H' h R z => e.bk ρ σ μ' G' H' h R (g.trans z), fun ρ σ μ' G' H' h R z => e.ct ρ σ μ' G' H' h R (g.trans z), fun xv d ρ σ μ' G' H' h R z r => e.xc xv d ρ σ μ' G' H' h R (g.trans z) r⟩
def tS (K : Frg) (W : WX) (d : DS) : TS := fun D σ H => ∃ (B : BX) (ρ : En) (μ : Mu) (G : Hp) (P : DEn), Rel K B ρ μ σ G H ∧ d P ρ μ ∧ EndsOk K W B μ G H P D
abbrev SJ (X : Cx) (W : WX) (st : Stmt) (d : DS) : Prop := PS X st (tS X.K W d)
abbrev BJ (X : Cx) (W : WX) (sts : List Stmt) (d : DS) : Prop := PSs X sts (tS X.K W d)
theorem ps_imp {X : Cx} {st : Stmt} {t t' : TS} (h : PS X st t) (i : ∀ D σ H, t' D σ H → t D σ H) : PS X st t' := ⟨fun pins s σ H D J z => h.run pins s σ H D J (i D σ H z)⟩
theorem pss_imp {X : Cx} {st : List Stmt} {t t' : TS} (h : PSs X st t) (i : ∀ D σ H, t' D σ H → t D σ H) : PSs X st t' := ⟨fun pins s σ H D J z => h.run pins s σ H D J (i D σ H z)⟩
theorem EndsOk.gx {K : Frg} {W : WX} {B : BX} {P : DEn} {D : Ends} {ρ : En} {μ : Mu} {σ : L2.St} {G H : Hp} (eo : EndsOk K W B μ G H P D) (R : Rel K B ρ μ σ G H) : GoodX K W B μ G H σ (fun xv μ' => P.xc xv ρ μ') := fun xv d μ' G' H' hx g r => eo.xc xv d ρ σ μ' G' H' hx (R.go g) g r

def dSeq (d e : DS) : DS := fun P ρ μ => d { P with nx := fun ρ' μ' => e P ρ' μ' } ρ μ
def dNext : DS := fun P ρ μ => P.nx ρ μ
def dCont : DS := fun P ρ μ => P.ct ρ μ
def dBrk : DS := fun P ρ μ => P.bk ρ μ
def dSet (i : Nat) (d : DE) : DS := fun P ρ μ => d ρ μ (fun p μ' => P.nx (ρ.set i (some p)) μ') (fun xv μ' => P.xc xv ρ μ')
def dRet (d : DE) : DS := fun P ρ μ => d ρ μ P.rt (fun xv μ' => P.xc xv ρ μ')
def dRetN : DS := fun P _ μ => P.rt .non μ
def dDrop (d : DE) : DS := fun P ρ μ => d ρ μ (fun _ μ' => P.nx ρ μ') (fun xv μ' => P.xc xv ρ μ')
def dIfS (t : DT) (d e : DS) : DS := fun P ρ μ => t ρ μ (fun b μ' => br b (d P ρ μ') (e P ρ μ')) (fun xv μ' => P.xc xv ρ μ')
def dNever : DS := fun _ _ _ => False
section
variable {X : Cx} {W : WX} {pos : Pos} {st : Stmt} {sts : List Stmt} {d e : DS}
theorem b_nil : BJ X W [] dNext := pss_imp pss_nil fun D σ H ⟨B, ρ, μ, G, P, R, h, eo⟩ => eo.nx ρ σ μ G H h R (.refl R.ok)
theorem b_cons (h1 : SJ X W st d) (h2 : BJ X W sts e) : BJ X W (st :: sts) (dSeq d e) := pss_imp (pss_cons h1 h2) fun D σ H ⟨B, ρ, μ, G, P, R, h, eo⟩ =>
  ⟨B, ρ, μ, G, _, R, h, ⟨fun ρ' σ' μ' G' H' h' R' g => ⟨B, ρ', μ', G', P, R', h', eo.go g⟩, eo.rt, eo.bk, eo.ct, eo.xc⟩⟩
theorem b_one (h1 : SJ X W st d) : BJ X W [st] d := pss_one h1
theorem s_pass : SJ X W (.Pass pos) dNext := ps_imp ps_pass fun D σ H ⟨B, ρ, μ, G, P, R, h, eo⟩ => eo.nx ρ σ μ G H h R (.refl R.ok)
theorem s_continue : SJ X W (.Continue pos) dCont := ps_imp ps_continue fun D σ H ⟨B, ρ, μ, G, P, R, h, eo⟩ => eo.ct ρ σ μ G H h R (.refl R.ok)
theorem s_break : SJ X W (.Break pos) dBrk := ps_imp ps_break fun D σ H ⟨B, ρ, μ, G, P, R, h, eo⟩ => eo.bk ρ σ μ G H h R (.refl R.ok)
theorem s_doc {z : Str} {j : Nat} {pos' : Pos} : SJ X W (.Expr (.Constant (.str z) j pos) pos') dNext := ps_imp ps_doc fun D σ H ⟨B, ρ, μ, G, P, R, h, eo⟩ => eo.nx ρ σ μ G H h R (.refl R.ok)
theorem s_never : SJ X W st dNever := ps_imp ps_never fun D σ H ⟨B, ρ, μ, G, P, R, h, eo⟩ => h
variable {ex : Expr} {de : DE}
theorem s_ret (h : EJ X W ex de) : SJ X W (.Return (some ex) pos) (dRet de) := ps_imp (ps_ret h) fun D σ H ⟨B, ρ, μ, G, P, R, h, eo⟩ => ⟨B, ρ, μ, G, _, _, R, h, fun p v μ' G' H' hp g r => eo.rt p v μ' G' H' hp g r, eo.gx R⟩
theorem s_retN : SJ X W (.Return none pos) dRetN := ps_imp ps_retN fun D σ H ⟨B, ρ, μ, G, P, R, h, eo⟩ => eo.rt _ _ μ G H h (.refl R.ok) rep_non
theorem s_expr (h : EJ X W ex de) (hs : swapsWith ex none pos.line X.env = pure false := by rfl) : SJ X W (.Expr ex pos) (dDrop de) := ps_imp (ps_expr h hs) fun D σ H ⟨B, ρ, μ, G, P, R, h, eo⟩ => ⟨B, ρ, μ, G, _, _, R, h, fun p v μ' G' H' hp g r => eo.nx ρ σ μ' G' H' hp (R.go g) g, eo.gx R⟩
theorem s_set (i : Nat) {x : Str} {p0 : Pos} (h : EJ X W ex de) (nd : X.N.Nodup) (hi : X.N[i]? = some x := by rfl) (hx : Loc X.env.scope x := by first | exact Or.inl rfl | exact Or.inr rfl) (hs : swapsWith ex (some (.Name x p0)) pos.line X.env = pure false := by rfl)
    (hf : X.fn x = true ∨ X.env.scope.names.lookup x = some .local := by first | exact .inl rfl | exact .inr rfl | assumption) : SJ X W (.Assign [.Name x p0] ex pos) (dSet i de) := ps_imp (ps_set (i := i) nd hi hx h hs hf) fun D σ H ⟨B, ρ, μ, G, P, R, h, eo⟩ =>
  ⟨B, ρ, μ, G, _, _, R, h, fun p v μ' G' H' hp g r => eo.nx _ _ μ' G' H' hp ((R.go g).set i r) g, eo.gx R⟩
variable {c : Expr} {a b : List Stmt} {tc : DT}
theorem s_if (hc : TJ X W c tc) (ha : BJ X W a d) (hb : BJ X W b e) : SJ X W (.If c a b pos) (dIfS tc d e) := ps_imp (ps_if hc ha hb) fun D σ H ⟨B, ρ, μ, G, P, R, h, eo⟩ =>
  ⟨B, ρ, μ, G, _, _, R, h, fun k μ' G' H' hp g => by
    cases k with
    | true => exact ⟨B, ρ, μ', G', P, R.go g, hp.t rfl, eo.go g⟩
    | false => exact ⟨B, ρ, μ', G', P, R.go g, hp.f rfl, eo.go g⟩, eo.gx R⟩
end

/-! ## a def keeps its promise -/
def startE (n : Nat) (ps : List PV) : En := ps.map some ++ List.replicate (n - ps.length) none
def endsOf (q : QV) (x : QX) : DEn := { nx := fun _ μ => q .non μ, rt := q, xc := fun xv _ μ => x xv μ }
theorem rel_start {K : Frg} {B : BX} {μ : Mu} {G H : Hp} {N : List Str} {ps : List PV} {vs : List V} (o : Ok K B μ G H) (r : Reps K B G ps vs) : Rel K B (startE N.length ps) μ (L2.start N vs) G H := by
  have hl := r.length
  refine ⟨o, ?_, fun i s e => ?_⟩
  · unfold startE L2.start
    simp only [List.length_append, List.length_map, List.length_replicate, hl]
  · unfold startE at e
    by_cases hi : i < ps.length
    · rw [List.getElem?_append_left (by simpa using hi), List.getElem?_map] at e
      have ex : ps[i]? = some ps[i] := List.getElem?_eq_getElem hi
      rw [ex] at e
      cases e
      obtain ⟨v, e1, e2⟩ := r.get ex
      refine ⟨v, ?_, e2⟩
      unfold L2.start
      rw [List.getElem?_append_left (by simpa [hl] using hi), List.getElem?_map, e1]
      rfl
    · rw [List.getElem?_append_right (by simpa using hi), List.getElem?_replicate] at e
      split at e <;> cases e
theorem body_of {K : Frg} {c : Ct} {d : DS} {N : List Str} {vs : List V} {H : Hp} {Q : VK} {E : XK} (hd : ∀ ps μ q x, c ps μ q x → d (endsOf q x) (startE N.length ps) μ) (h : spP K c vs H Q E) :
    tS K (fun cls dd _ H' => E cls dd H') d { nx := fun _ H' => Q .non H', rt := Q } (L2.start N vs) H := by
  obtain ⟨B, μ, G, ps, q, x, o, r, hc, hq, hx⟩ := h
  exact ⟨B, _, μ, G, endsOf q x, rel_start o r, hd ps μ q x hc, ⟨fun ρ σ μ' G' H' z R g => hq _ _ μ' G' H' z g rep_non, fun p v μ' G' H' z g rr => hq p v μ' G' H' z g rr, fun _ _ _ _ _ z => z.elim, fun _ _ _ _ _ z => z.elim, fun xv dd ρ σ μ' G' H' z R g rr => hx xv dd μ' G' H' z g rr⟩⟩

/-- the context of a def's body, calm or not -/
abbrev cxG (cm : Bool) (pn : List (Addr × Obj)) (P : Program) (w : World) (K : Frg) (mg : Str → Option Value) (base : Heap) (N : List Str) (qual : Str) (scope : Scope) (f : Addr) (cd : Value) (A : Around) (outer : List Env) (s : Shared) (H : Hp) (E : XK) : Cx :=
  { cxOf (L2N.CX P w) P w K mg base N qual scope f cd A outer s H E with calm := cm, pn := pn }
/-- the promise of a def over its bound parameters -/
structure FnO (hot : Bool) (P : Program) (w : World) (K : Frg) (mg : Str → Option Value) (base : Heap) (k : Nat) (f : Addr) (fd : FuncData) (ps : List Str) (sp : Sp) : Prop where
  calm : FnOk P w K mg base (L2N.CX P w) k f fd ps sp
  hot : hot = true → L2H.FnH P w K mg base (L2N.CX P w) k f fd ps sp
/-- what a body's derivation may use: W, how it stands, room for k calls, what is raised is taken -/
structure Here (hot : Bool) (X : Cx) (W : WX) (k : Nat) : Prop where
  md : Md X hot
  rm : L2H.RoomH k X.A
  tk : L2N.Takes X W
  own : PassesOwn (model X.prog X.w) X.A X.env X.xe
section
variable {P : Program} {w : World} {K : Frg} {mg : Str → Option Value} {base : Heap} {x qual : Str} {params : Arguments} {body : List Stmt} {scope : Scope} {dvs : List V} {kws : List (Str × V)} {f : Addr} {fd : FuncData} {N ps : List Str} {k : Nat} {sp : Sp}
theorem here_of {hot : Bool} {cm : Bool} {pn : List (Addr × Obj)} {cd : Value} {A : Around} {outer : List Env} {s : Shared} {H : Hp} {E : XK} (hr : L2H.RoomH k (A.deeper (envOfC qual scope s.heap.objs.size f cd))) (md : Md (cxG cm pn P w K mg base N qual scope f cd A outer s H E) hot) :
    Here hot (cxG cm pn P w K mg base N qual scope f cd A outer s H E) (fun cls dd _ H' => E cls dd H') k :=
  ⟨md, hr, L2N.takes_of rfl rfl rfl rfl, L2.passes_of rfl⟩
/-- a def whose body is derived wherever it may stand -/
theorem fn_o (hot : Bool) (Fn : FunD K x qual params body scope dvs kws f fd) (S : FnScope N ps scope) (len : ∀ vs H Q E, sp vs H Q E → vs.length = ps.length)
    (h : ∀ (cm : Bool) (pn : List (Addr × Obj)) (cd : Value) (A : Around) (outer : List Env) (s : Shared) (H : Hp) (vs : List V) (Q : VK) (E : XK), (hot = false → cm = true) → Here hot (cxG cm pn P w K mg base N qual scope f cd A outer s H E) (fun cls dd _ H' => E cls dd H') k → sp vs H Q E →
      ∃ t, PSs (cxG cm pn P w K mg base N qual scope f cd A outer s H E) body t ∧ t { nx := fun _ H' => Q .non H', rt := Q } (L2.start N vs) H) : FnO hot P w K mg base (k + 1) f fd ps sp := by
  obtain ⟨oc, od, dV, kV, doc, pm, an, cdv, ct, osl, rfl, lk, hcd, _, _⟩ := Fn.ex
  refine ⟨fn_of lk hcd S len fun A outer s H vs Q E hr hs => h true [] cdv A outer s H vs Q E (fun _ => rfl) (here_of (L2H.roomH_of hr) (.inl rfl)) hs, fun hh => ?_⟩
  refine L2H.fn_ofH lk hcd S len fun A outer s H vs Q E p hot1 hr hs => ?_
  exact h false [p] cdv A outer s H vs Q E (fun z => by rw [hh] at z; cases z) (here_of hr (.inr ⟨hh, p, hot1, by exact List.mem_cons_self⟩)) hs
/-- the pure form -/
theorem fn_p (hot : Bool) (Fn : FunD K x qual params body scope dvs kws f fd) (S : FnScope N ps scope) (c : Ct) (d : DS) (len : ∀ as μ q z, c as μ q z → as.length = ps.length)
    (der : ∀ (cm : Bool) (pn : List (Addr × Obj)) (cd : Value) (A : Around) (outer : List Env) (s : Shared) (H : Hp) (E : XK), (hot = false → cm = true) → Here hot (cxG cm pn P w K mg base N qual scope f cd A outer s H E) (fun cls dd _ H' => E cls dd H') k →
      BJ (cxG cm pn P w K mg base N qual scope f cd A outer s H E) (fun cls dd _ H' => E cls dd H') body d)
    (pure_ : ∀ as μ q z, c as μ q z → d (endsOf q z) (startE N.length as) μ) : FnO hot P w K mg base (k + 1) f fd ps (spP K c) :=
  fn_o hot Fn S (fun vs H Q E ⟨B, μ, G, as, q, z, _, r, hc, _⟩ => by rw [r.length]; exact len as μ q z hc) fun cm pn cd A outer s H vs Q E hcm he hs => ⟨_, der cm pn cd A outer s H E hcm he, body_of pure_ hs⟩
/-- called with all its parameters by place -/
theorem FnO.s {hot : Bool} (Fn : FnO hot P w K mg base k f fd ps sp) (b : Binds K fd ps []) : FnS hot P w K mg base k f [] sp := fun A outer s H us ws vs Q E hm hr e0 hl r h => by
  have hw : ws = [] := List.eq_nil_of_length_eq_zero hl
  subst hw
  rw [List.append_nil] at r
  have KX : K.In s.heap := e0.mod.kin.keeps fun b o e => (e0.bs b o e).1
  have bb := b s us KX (by rw [List.append_nil, ← r.length]; exact Fn.calm.len _ _ _ _ h)
  rw [List.append_nil] at bb
  rcases hm with z | ⟨z, p, h1, h2⟩
  · exact Fn.calm.run A outer s H ⟨us, []⟩ us vs Q E ⟨z, hr.dp, hr.un⟩ e0 bb r h
  · exact (Fn.hot z).run A outer s H ⟨us, []⟩ us vs Q E p hr h1 h2 e0 bb r h
/-- defaults fill up: the promise of what is written -/
theorem FnO.sD {hot : Bool} {c : Ct} {ds : List Value} {dv : List V} {dp : List PV} (Fn : FnO hot P w K mg base k f fd ps (spP K c)) (b : Binds K fd ps ds) (vd : Vals dv ds) (rd : ∀ B G, Reps K B G dp dv) : FnS hot P w K mg base k f [] (spP K fun as μ q z => c (as ++ dp) μ q z) := fun A outer s H us ws vs Q E hm hr e0 hl r h => by
  have hw : ws = [] := List.eq_nil_of_length_eq_zero hl
  subst hw
  rw [List.append_nil] at r
  have KX : K.In s.heap := e0.mod.kin.keeps fun b o e => (e0.bs b o e).1
  have h' : spP K c (vs ++ dv) H Q E := by
    obtain ⟨B, μ, G, as, q, z, o, rr, hc, hq⟩ := h
    exact ⟨B, μ, G, as ++ dp, q, z, o, rr.append (rd _ _), hc, hq⟩
  have r2 : Vals (vs ++ dv) (us ++ ds) := r.append vd
  have bb := b s us KX (by rw [← r2.length]; exact Fn.calm.len _ _ _ _ h')
  rcases hm with z | ⟨z, p, h1, h2⟩
  · exact Fn.calm.run A outer s H ⟨us, []⟩ _ _ Q E ⟨z, hr.dp, hr.un⟩ e0 bb r2 h'
  · exact (Fn.hot z).run A outer s H ⟨us, []⟩ _ _ Q E p hr h1 h2 e0 bb r2 h'
end
end Px

namespace Px
open PySem PySem.Spec PyProof.Rows L2

/-! ## what is walked -/
abbrev DI := En → Mu → (List PV → Mu → Prop) → QX → Prop
structure ItOk (K : Frg) (B : BX) (G0 : Hp) (J : It) (xs : List PV) : Prop where
  go : ∀ (i : Nat) μ G H, Sub G0 G → Ok K B μ G H → i < xs.length → J.go i H
  yld : ∀ (i : Nat) μ G H v H' x, Sub G0 G → Ok K B μ G H → xs[i]? = some x → J.yld i H v H' → ∃ G', Go K B μ G H μ G' H' ∧ Rep K B G' x v
  stop : ∀ (i : Nat) μ G H, Sub G0 G → Ok K B μ G H → xs.length ≤ i → J.stop i H
def tI (K : Frg) (W : WX) (d : DI) : TI := fun σ H R => ∃ (B : BX) (ρ : En) (μ : Mu) (G : Hp) (q : List PV → Mu → Prop) (x : QX), Rel K B ρ μ σ G H ∧ d ρ μ q x ∧ (∀ xs J μ' G' H', q xs μ' → Go K B μ G H μ' G' H' → ItOk K B G' J xs → R J H') ∧ GoodX K W B μ G H σ x
abbrev IJ (X : Cx) (W : WX) (tg iter : Expr) (d : DI) : Prop := PI X tg iter (tI X.K W d)
theorem pi_imp {X : Cx} {tg it : Expr} {t t' : TI} (h : PI X tg it t) (i : ∀ σ H Q, t' σ H Q → t σ H Q) : PI X tg it t' := ⟨fun pins s σ H Q J z => h.run pins s σ H Q J (i σ H Q z)⟩
theorem itok_list {K : Frg} {B : BX} {G : Hp} {a : Addr} {xs : List PV} {vs : List V} (sq : SqL K G a vs) (rs : Reps K B G xs vs) : ItOk K B G (Itl K a) xs := by
  have hl := rs.length
  refine ⟨fun i μ G' H s o hi => ?_, fun i μ G' H v H' x s o e y => ?_, fun i μ G' H s o hi => ⟨vs, o.sub.l (s.l sq), by omega⟩⟩
  · have hi' : i < vs.length := by omega
    exact ⟨vs, vs[i], o.sub.l (s.l sq), by simp [hi']⟩
  · obtain ⟨rfl, hy⟩ := y
    have e1 := hy vs (o.sub.l (s.l sq))
    obtain ⟨u, e2, r⟩ := rs.get e
    rw [e1] at e2
    cases e2
    exact ⟨G', .refl o, r.mono s⟩
theorem itok_tup {K : Frg} {B : BX} {G : Hp} {a : Addr} {xs : List PV} {vs : List V} (sq : SqT K G a vs) (rs : Reps K B G xs vs) : ItOk K B G (Itt K a) xs := by
  have hl := rs.length
  refine ⟨fun i μ G' H s o hi => ?_, fun i μ G' H v H' x s o e y => ?_, fun i μ G' H s o hi => ⟨vs, o.sub.t (s.t sq), by omega⟩⟩
  · have hi' : i < vs.length := by omega
    exact ⟨vs, vs[i], o.sub.t (s.t sq), by simp [hi']⟩
  · obtain ⟨rfl, hy⟩ := y
    have e1 := hy vs (o.sub.t (s.t sq))
    obtain ⟨u, e2, r⟩ := rs.get e
    rw [e1] at e2
    cases e2
    exact ⟨G', .refl o, r.mono s⟩
/-- the ints lo, lo + 1, .. -/
def rangeP (lo : Int) (n : Nat) : List PV := (List.range n).map fun i => .int (lo + (i : Nat))
theorem rangeP_get {lo : Int} {n i : Nat} {x : PV} (h : (rangeP lo n)[i]? = some x) : i < n ∧ x = .int (lo + (i : Nat)) := by
  unfold rangeP at h
  rw [List.getElem?_map] at h
  by_cases hi : i < n
  · rw [List.getElem?_range hi] at h
    exact ⟨hi, (Option.some.inj h).symm⟩
  · rw [List.getElem?_eq_none (by simpa using hi)] at h; cases h
theorem rangeP_len (lo : Int) (n : Nat) : (rangeP lo n).length = n := by unfold rangeP; simp
theorem itok_range {K : Frg} {B : BX} {G : Hp} (lo : Int) (n : Nat) : ItOk K B G (Itr lo n) (rangeP lo n) := by
  refine ⟨fun i μ G' H s o hi => by rw [rangeP_len] at hi; exact hi, fun i μ G' H v H' x s o e y => ?_, fun i μ G' H s o hi => by rw [rangeP_len] at hi; exact hi⟩
  obtain ⟨hi, rfl⟩ := rangeP_get e
  obtain ⟨rfl, rfl⟩ := y
  exact ⟨G', .refl o, rep_int _⟩
/-- over a list or a tuple that stands still -/
def itP (p : PV) (q : List PV → Prop) : Prop := match p with
  | .lst xs => q xs
  | .tup xs => q xs
  | _ => False
def iSeq (d : DE) : DI := fun ρ μ q x => d ρ μ (fun p μ1 => itP p fun xs => q xs μ1) x
def r1P (ps : List PV) (q : List PV → Prop) : Prop := match ps with
  | [.int n] => -(2 ^ 62) ≤ n ∧ n < 2 ^ 62 ∧ q (rangeP 0 n.toNat)
  | _ => False
def r2P (ps : List PV) (q : List PV → Prop) : Prop := match ps with
  | [.int m, .int n] => (-(2 ^ 62) ≤ m ∧ m < 2 ^ 62 ∧ -(2 ^ 62) ≤ n ∧ n < 2 ^ 62) ∧ q (rangeP m (n - m).toNat)
  | _ => False
theorem r1P_inv {ps : List PV} {q : List PV → Prop} (h : r1P ps q) : ∃ n : Int, ps = [.int n] ∧ -(2 ^ 62) ≤ n ∧ n < 2 ^ 62 ∧ q (rangeP 0 n.toNat) := by
  unfold r1P at h
  split at h
  · exact ⟨_, rfl, h⟩
  · exact h.elim
theorem r2P_inv {ps : List PV} {q : List PV → Prop} (h : r2P ps q) : ∃ m n : Int, ps = [.int m, .int n] ∧ (-(2 ^ 62) ≤ m ∧ m < 2 ^ 62 ∧ -(2 ^ 62) ≤ n ∧ n < 2 ^ 62) ∧ q (rangeP m (n - m).toNat) := by
  unfold r2P at h
  split at h
  · exact ⟨_, _, rfl, h⟩
  · exact h.elim
def iR1 (d : DA) : DI := fun ρ μ q x => d ρ μ (fun ps μ1 => r1P ps fun xs => q xs μ1) x
def iR2 (d : DA) : DI := fun ρ μ q x => d ρ μ (fun ps μ1 => r2P ps fun xs => q xs μ1) x
section
variable {X : Cx} {W : WX} {tg e : Expr} {es : List Expr} {pos p0 : Pos} {d : DE} {ds : DA}
/-- a list or a tuple, walked -/
theorem pi_seq {tl : TE} (hl : PE X e tl) : PI X tg e (fun σ H R => tl σ H fun x H1 => ∃ a, x = .ref a ∧ (((∃ xs, SqL X.K H1 a xs) ∧ R (Itl X.K a) H1) ∨ ((∃ xs, SqT X.K H1 a xs) ∧ R (Itt X.K a) H1))) := by
  refine ⟨fun pins s σ H R I h => ?_⟩
  refine thn (hl.run pins s σ H _ I h) fun v s1 ⟨x, H1, I1, r1, q1⟩ => ?_
  obtain ⟨a, e, ⟨⟨xs, hq⟩, q⟩ | ⟨⟨xs, hq⟩, q⟩⟩ := q1
  · subst e
    cases r1
    obtain ⟨its, rv, p, hz⟩ := I1.list hq
    refine wpAny_pyIter_list p.isList ?_
    refine ⟨s1.heap.objs.size, [s1.heap.objs.size], _, _, H1, rfl, I1.kept (t' := s1.toks) fun b o e => Heap.get?_push_of_some _ e, turn_list a _, ⟨_, Heap.get?_push_size _ rfl, rfl, rfl⟩, fun b hb => ?_, q⟩
    have e : b = s1.heap.objs.size := by simpa using hb
    subst e
    exact I1.fpOk (Nat.le_refl _) (I1.hok.fresh (Nat.le_refl _))
  · subst e
    cases r1
    obtain ⟨its, rv, p, hz⟩ := I1.tuple hq
    refine wpAny_pyIter_tuple (show s1.heap.IsTuple a its.toArray from p) ?_
    refine ⟨s1.heap.objs.size, [s1.heap.objs.size], _, _, H1, rfl, I1.kept (t' := s1.toks) fun b o e => Heap.get?_push_of_some _ e, turn_tuple a _, ⟨_, Heap.get?_push_size _ rfl, rfl, rfl⟩, fun b hb => ?_, q⟩
    have e : b = s1.heap.objs.size := by simpa using hb
    subst e
    exact I1.fpOk (Nat.le_refl _) (I1.hok.fresh (Nat.le_refl _))
theorem i_seq (h : EJ X W e d) : IJ X W tg e (iSeq d) := pi_imp (pi_seq h) fun σ H R ⟨B, ρ, μ, G, q, x, Rl, h, gv, gx⟩ =>
  ⟨B, ρ, μ, G, _, x, Rl, h, fun p v μ1 G1 H1 h1 g1 r1 => by
    cases p with
    | lst xs =>
      obtain ⟨a, vs, rfl, sq, rs⟩ := r1.lst_inv
      exact ⟨a, rfl, .inl ⟨⟨vs, .inl (.inl (g1.ok.sub _ _ sq))⟩, gv xs _ μ1 G1 H1 h1 g1 (itok_list (.inl (.inl sq)) rs)⟩⟩
    | tup xs =>
      obtain ⟨a, vs, rfl, sq, rs⟩ := r1.tup_inv
      exact ⟨a, rfl, .inr ⟨⟨vs, g1.ok.sub.t sq⟩, gv xs _ μ1 G1 H1 h1 g1 (itok_tup sq rs)⟩⟩
    | _ => exact h1.elim, gx⟩
theorem Reps.int1 {K : Frg} {B : BX} {G : Hp} {n : Int} {vs : List V} (h : Reps K B G [.int n] vs) : vs = [.int n] := by
  obtain ⟨v, ws, rfl, r, rs⟩ := h.cons_inv
  rw [r.int_inv, rs.nil_inv]
theorem Reps.int2 {K : Frg} {B : BX} {G : Hp} {m n : Int} {vs : List V} (h : Reps K B G [.int m, .int n] vs) : vs = [.int m, .int n] := by
  obtain ⟨v, ws, rfl, r, rs⟩ := h.cons_inv
  rw [r.int_inv, rs.int1]
theorem i_range1 (hm : X.mg "range" = none) (ha : AJ X W [e] ds) (hg : Gl X "range" := by rfl) (h1 : starEach [e] X.env = [(false, eval e X.env)] := by rfl) : IJ X W tg (.Call (.Name "range" p0) [e] [] pos) (iR1 ds) := pi_imp (pi_range1 hg hm ha h1) fun σ H R ⟨B, ρ, μ, G, q, x, Rl, h, gv, gx⟩ =>
  ⟨B, ρ, μ, G, _, x, Rl, h, fun ps vs μ1 G1 H1 h0 g1 r1 => by
    obtain ⟨n, rfl, b1, b2, h1⟩ := r1P_inv h0
    exact ⟨n, r1.int1, b1, b2, gv _ _ μ1 G1 H1 h1 g1 (itok_range 0 _)⟩, gx⟩
theorem i_range2 {e2 : Expr} (hm : X.mg "range" = none) (ha : AJ X W [e, e2] ds) (hg : Gl X "range" := by rfl) (h1 : starEach [e, e2] X.env = [(false, eval e X.env), (false, eval e2 X.env)] := by rfl) (h2 : starEach [e2] X.env = [(false, eval e2 X.env)] := by rfl) : IJ X W tg (.Call (.Name "range" p0) [e, e2] [] pos) (iR2 ds) := pi_imp (pi_range2 hg hm ha h1 h2) fun σ H R ⟨B, ρ, μ, G, q, x, Rl, h, gv, gx⟩ =>
  ⟨B, ρ, μ, G, _, x, Rl, h, fun ps vs μ1 G1 H1 h0 g1 r1 => by
    obtain ⟨m, n, rfl, b1, h1⟩ := r2P_inv h0
    exact ⟨m, n, r1.int2, b1, gv _ _ μ1 G1 H1 h1 g1 (itok_range m _)⟩, gx⟩
end

/-! ## targets -/
inductive Tg where
  | one (i : Nat)
  | many (is : List Nat)
def Tg.idx : Tg → List Nat
  | .one i => [i]
  | .many is => is
def setAll : List Nat → List PV → En → En
  | i :: is, p :: ps, ρ => setAll is ps (ρ.set i (some p))
  | _, _, ρ => ρ
def setT (t : Tg) (p : PV) (ρ : En) (k : En → Prop) : Prop := match t with
  | .one i => k (ρ.set i (some p))
  | .many is => (match p with
    | .tup xs => xs.length = is.length ∧ k (setAll is xs ρ)
    | _ => False)
def gNs : List Nat → TGs
  | [] => gNil
  | i :: is => gCons (gName i) (gNs is)
def tgOf (K : Frg) : Tg → TG
  | .one i => gName i
  | .many is => gTup K is.length (gNs is)
/-- what the slots are behind the target -/
def setVs : List Nat → List V → L2.St → L2.St
  | i :: is, v :: vs, σ => setVs is vs (σ.set i (some v))
  | _, _, σ => σ
theorem gNs_ok {Q : L2.St → Hp → Prop} {H : Hp} : ∀ {is : List Nat} {vs : List V} {σ : L2.St}, vs.length = is.length → Q (setVs is vs σ) H → gNs is vs σ H Q
  | [], [], σ, _, h => ⟨rfl, h⟩
  | i :: is, v :: vs, σ, hl, h => ⟨v, vs, rfl, gNs_ok (is := is) (vs := vs) (by simpa using hl) h⟩
theorem Rel.setAll {K : Frg} {B : BX} {μ : Mu} {G H : Hp} : ∀ {is : List Nat} {xs : List PV} {vs : List V} {ρ : En} {σ : L2.St}, Rel K B ρ μ σ G H → Reps K B G xs vs → Rel K B (Px.setAll is xs ρ) μ (setVs is vs σ) G H
  | [], xs, vs, ρ, σ, R, r => by
    cases xs <;> cases vs <;> exact R
  | i :: is, [], vs, ρ, σ, R, r => by rw [r.nil_inv]; exact R
  | i :: is, x :: xs, vs, ρ, σ, R, r => by
    obtain ⟨v, ws, rfl, r1, r2⟩ := r.cons_inv
    exact Rel.setAll (is := is) (R.set i r1) r2
theorem wipe_get {σ : L2.St} {vs : List Nat} {i : Nat} (h : i ∈ vs) (hi : i < σ.length) : (wipe σ vs)[i]? = some none := by
  induction vs with
  | nil => cases h
  | cons v vs ih =>
    unfold wipe
    by_cases z : v = i
    · subst z
      rw [List.getElem?_set_self (by rw [wipe_length]; exact hi)]
    · rw [List.getElem?_set_ne z]
      exact ih ((List.mem_cons.mp h).resolve_left fun e => z e.symm)
theorem wipe_get2 {σ : L2.St} {vs : List Nat} {i : Nat} (h : i ∉ vs) : (wipe σ vs)[i]? = σ[i]? := by
  induction vs with
  | nil => rfl
  | cons v vs ih =>
    unfold wipe
    rw [List.getElem?_set_ne (fun z => h (by rw [z]; exact List.mem_cons_self))]
    exact ih fun z => h (List.mem_cons_of_mem _ z)
theorem wipe_ext {σ τ : L2.St} {vs : List Nat} (hl : σ.length = τ.length) (h : ∀ i, i ∉ vs → σ[i]? = τ[i]?) : wipe σ vs = wipe τ vs := by
  apply List.ext_getElem?
  intro i
  by_cases hi : i ∈ vs
  · by_cases hb : i < σ.length
    · rw [wipe_get hi hb, wipe_get hi (by omega)]
    · rw [List.getElem?_eq_none (by rw [wipe_length]; omega), List.getElem?_eq_none (by rw [wipe_length]; omega)]
  · rw [wipe_get2 hi, wipe_get2 hi]
    exact h i hi
theorem setVs_len : ∀ (is : List Nat) (vs : List V) (σ : L2.St), (setVs is vs σ).length = σ.length
  | [], vs, σ => by cases vs <;> rfl
  | i :: is, [], σ => rfl
  | i :: is, v :: vs, σ => by unfold setVs; rw [setVs_len is vs, List.length_set]
theorem setVs_out : ∀ (is : List Nat) (vs : List V) (σ : L2.St) {j : Nat}, j ∉ is → (setVs is vs σ)[j]? = σ[j]?
  | [], vs, σ, j, h => by cases vs <;> rfl
  | i :: is, [], σ, j, h => rfl
  | i :: is, v :: vs, σ, j, h => by
    unfold setVs
    rw [setVs_out is vs _ fun z => h (List.mem_cons_of_mem _ z), List.getElem?_set_ne fun z => h (by rw [z]; exact List.mem_cons_self)]
/-- the target takes a value -/
theorem tg_ok {K : Frg} {B : BX} {ρ : En} {μ : Mu} {σ : L2.St} {G H : Hp} {t : Tg} {p : PV} {v : V} {k : En → Prop} {Q : L2.St → Hp → Prop} {own : List Nat} (hw : ∀ i ∈ t.idx, i ∈ own) (R : Rel K B ρ μ σ G H) (r : Rep K B G p v) (h : setT t p ρ k)
    (hq : ∀ ρ' σ', k ρ' → Rel K B ρ' μ σ' G H → wipe σ' own = wipe σ own → Q σ' H) : tgOf K t v σ H Q := by
  cases t with
  | one i => exact hq _ _ h (R.set i r) (wipe_ext (by rw [List.length_set]) fun j hj => List.getElem?_set_ne fun z => hj (by rw [← z]; exact hw i (by unfold Tg.idx; exact List.mem_cons_self)))
  | many is =>
    cases p with
    | tup xs =>
      obtain ⟨hl, hk⟩ := h
      obtain ⟨a, vs, rfl, sq, rs⟩ := r.tup_inv
      have hv := rs.length
      exact ⟨a, vs, rfl, R.ok.sub.t sq, by omega, gNs_ok (by omega) (hq _ _ hk (R.setAll rs) (wipe_ext (setVs_len _ _ _) fun j hj => setVs_out _ _ _ fun z => hj (hw j z)))⟩
    | _ => exact h.elim
section
variable {X : Cx} {pos : Pos}
theorem g_one (i : Nat) {x : Str} (nd : X.N.Nodup) (hi : X.N[i]? = some x := by rfl) (hx : Loc X.env.scope x := by first | exact Or.inl rfl | exact Or.inr rfl) (hf : X.fn x = true ∨ X.env.scope.names.lookup x = some .local := by first | exact .inl rfl | exact .inr rfl | assumption) : PG X (.Name x pos) (tgOf X.K (.one i)) := pg_name nd hi hx hf
/-- the names of a tuple target -/
inductive GJ (X : Cx) : List Expr → List Nat → Prop where
  | nil : GJ X [] []
  | cons {x : Str} {p : Pos} {i : Nat} {es : List Expr} {is : List Nat} (h : PG X (.Name x p) (gName i)) (t : GJ X es is) : GJ X (.Name x p :: es) (i :: is)
theorem GJ.pg : ∀ {es : List Expr} {is : List Nat}, GJ X es is → PGs X es (gNs is)
  | _, _, .nil => pgs_nil
  | _, _, .cons h t => pgs_cons h t.pg
theorem GJ.len : ∀ {es : List Expr} {is : List Nat}, GJ X es is → es.length = is.length
  | _, _, .nil => rfl
  | _, _, .cons h t => by simp [t.len]
end

/-! ## loops -/
def forD (t : Tg) (db : DS) : List PV → DS
  | [], P, ρ, μ => P.nx ρ μ
  | x :: xs, P, ρ, μ => setT t x ρ fun ρ' => db { P with nx := fun ρ'' μ'' => Lk (forD t db xs P ρ'' μ''), ct := fun ρ'' μ'' => Lk (forD t db xs P ρ'' μ''), bk := P.nx } ρ' μ
def dFor (t : Tg) (di : DI) (db : DS) : DS := fun P ρ μ => di ρ μ (fun xs μ' => Lk (forD t db xs P ρ μ')) (fun xv μ' => P.xc xv ρ μ')
theorem drop_get {α : Type} {xs : List α} {i : Nat} (h : i < xs.length) : xs.drop i = xs[i] :: xs.drop (i + 1) := List.drop_eq_getElem_cons h
theorem s_for {X : Cx} {W : WX} {tg iter : Expr} {body : List Stmt} {pos : Pos} {di : DI} {db : DS} {t : Tg} (hp : PassesOwn (model X.prog X.w) X.A X.env X.xe) (hc : X.calm = true) (hi : IJ X W tg iter di) (hg : PG X tg (tgOf X.K t)) (hb : BJ X W body db)
    (hs : ∀ x, foldedSetIterable iter X.env x = pure x := by intro _; rfl) : SJ X W (.For tg iter body [] pos) (dFor t di db) := ps_imp (ps_for hp hc hi hg hb hs) fun D σ H ⟨B, ρ, μ, G, P, R, h, eo⟩ => by
  refine ⟨B, ρ, μ, G, _, _, R, h, fun xs J μ1 G1 H1 hf g1 io => ?_, eo.gx R⟩
  have eo1 := eo.go g1
  refine ⟨fun i m σ' H' => m = xs.length - i ∧ i ≤ xs.length ∧ ∃ ρ' μ' G', Rel X.K B ρ' μ' σ' G' H' ∧ Go X.K B μ1 G1 H1 μ' G' H' ∧ forD t db (xs.drop i) P ρ' μ', ⟨xs.length, by omega, Nat.zero_le _, ρ, μ1, G1, R.go g1, .refl g1.ok, hf.un⟩, ?_⟩
  rintro i m σ' H' ⟨rfl, hle, ρ', μ', G', R', g', hf'⟩
  by_cases hlt : i < xs.length
  · rw [drop_get hlt] at hf'
    refine .inr ⟨io.go i μ' G' H' g'.gx R'.ok hlt, fun σ2 H2 => ∃ ρ2 μ2 G2, Rel X.K B ρ2 μ2 σ2 G2 H2 ∧ Go X.K B μ1 G1 H1 μ2 G2 H2 ∧ forD t db (xs.drop (i + 1)) P ρ2 μ2, fun σ2 H2 ⟨ρ2, μ2, G2, R2, g2, h2⟩ => ⟨xs.length - (i + 1), by omega, rfl, hlt, ρ2, μ2, G2, R2, g2, h2⟩, fun v H2 y => ?_⟩
    obtain ⟨G2, g2, r2⟩ := io.yld i μ' G' H' v H2 xs[i] g'.gx R'.ok (List.getElem?_eq_getElem hlt) y
    have g12 := g'.trans g2
    refine tg_ok (own := t.idx) (fun _ z => z) (R'.go g2) r2 hf' fun ρ3 σ3 h3 R3 _ => ?_
    have eo2 := eo1.go g12
    exact ⟨B, ρ3, μ', G2, _, R3, h3, ⟨fun ρ4 σ4 μ4 G4 H4 h4 R4 g4 => ⟨ρ4, μ4, G4, R4, g12.trans g4, h4.un⟩, eo2.rt, eo2.nx, fun ρ4 σ4 μ4 G4 H4 h4 R4 g4 => ⟨ρ4, μ4, G4, R4, g12.trans g4, h4.un⟩, eo2.xc⟩⟩
  · have e : i = xs.length := by omega
    subst e
    rw [List.drop_length] at hf'
    exact .inl ⟨io.stop _ μ' G' H' g'.gx R'.ok (Nat.le_refl _), eo1.nx _ _ _ _ _ hf' R' g'⟩

/-! ## comprehensions -/
def wipeE (ρ : En) : List Nat → En
  | [] => ρ
  | v :: vs => (wipeE ρ vs).set v none
theorem wipeE_len (ρ : En) : ∀ vs : List Nat, (wipeE ρ vs).length = ρ.length
  | [] => rfl
  | v :: vs => by unfold wipeE; rw [List.length_set, wipeE_len ρ vs]
theorem wipeE_some {ρ : En} {i : Nat} {s : PV} : ∀ {vs : List Nat}, (wipeE ρ vs)[i]? = some (some s) → ρ[i]? = some (some s) ∧ i ∉ vs
  | [], h => ⟨h, by simp⟩
  | v :: vs, h => by
    unfold wipeE at h
    rcases set_get h with ⟨_, z⟩ | ⟨n, z⟩
    · cases z
    · obtain ⟨h1, h2⟩ := wipeE_some z
      exact ⟨h1, by simp only [List.mem_cons, not_or]; exact ⟨fun e => n e.symm, h2⟩⟩
theorem Rel.wipe {K : Frg} {B : BX} {ρ : En} {μ : Mu} {σ : L2.St} {G H : Hp} (R : Rel K B ρ μ σ G H) (vs : List Nat) : Rel K B (wipeE ρ vs) μ (L2.wipe σ vs) G H :=
  R.weak (by rw [wipe_length, wipeE_len]; exact R.len) fun i s e => by
    obtain ⟨h1, h2⟩ := wipeE_some e
    exact ⟨h1, wipe_get2 h2⟩
def noX : QX := fun _ _ => False
def lcD (t : Tg) (own : List Nat) (dt : DT) (de : DE) (ρ : En) (q : List PV → Mu → Prop) : List PV → List PV → Mu → Prop
  | [], acc, μ => q acc μ
  | y :: ys, acc, μ => setT t y (wipeE ρ own) fun ρ' => dt ρ' μ (fun b μ1 => br b (de ρ' μ1 (fun p μ2 => Lk (lcD t own dt de ρ q ys (acc ++ [p]) μ2)) noX) (Lk (lcD t own dt de ρ q ys acc μ1))) noX
def lComp (t : Tg) (own : List Nat) (di : DI) (dt : DT) (de : DE) : DL := fun ρ μ q x => di ρ μ (fun xs μ1 => xs.length ≤ sizeLine ∧ Lk (lcD t own dt de ρ q xs [] μ1)) x
abbrev Wno : WX := fun _ _ _ _ => False
/-- the tests of a comprehension -/
abbrev TsJ (X : Cx) (W : WX) (ifs : List Expr) (d : DT) : Prop := PTs X ifs (tT X.K W d)
def dYes : DT := fun _ μ q _ => q true μ
theorem ts_nil {X : Cx} {W : WX} : TsJ X W [] dYes := ⟨fun pins s σ H Q J ⟨B, ρ, μ, G, q, x, R, h, gv, gx⟩ => pts_nil.run pins s σ H Q J (gv true μ G H h (.refl R.ok))⟩
theorem ts_one {X : Cx} {W : WX} {c : Expr} {d : DT} (h : TJ X W c d) : TsJ X W [c] d := pts_one h
theorem tlc_of {K : Frg} {W : WX} {t : Tg} {own : List Nat} {di : DI} {dt : DT} {de : DE} (hw : ∀ i ∈ t.idx, i ∈ own) {σ : L2.St} {H : Hp} {Q : VK} (h : tL K W (lComp t own di dt de) σ H Q) : tLc (tI K W di) (tgOf K t) (tT K Wno dt) (tE K Wno de) own σ H Q := by
  obtain ⟨B, ρ, μ, G, q, x, R, h, gl, gx⟩ := h
  refine ⟨B, ρ, μ, G, _, x, R, h, fun xs J μ1 G1 H1 ⟨hz, hf⟩ g1 io => ?_, gx⟩
  intro D hD
  have o1 := g1.ok
  have g1' := o1.new2 (u := .lst []) hD
  have hD0 : H D = none := g1.st.dom D hD
  have nbD : ¬ isB B D := o1.notB hD
  have gD : G1 D = none := o1.sub.free hD
  have mD : μ1 D = none := o1.freeM hD
  have Rw : Rel K B (wipeE ρ own) μ1 (L2.wipe σ own) G1 (upd H1 D (.lst [])) := (R.go (g1.trans g1')).wipe own
  -- a step that knows nothing of D
  have stays : ∀ {μa μb : Mu} {Ga Ha Gb Hb : Hp} {av : List V}, Go K B μa Ga Ha μb Gb Hb → Ga D = none → μa D = none → Ha D = some (.lst av) → Gb D = none ∧ μb D = none ∧ Hb D = some (.lst av) := fun {μa μb Ga Ha Gb Hb av} g n m e => by
    refine ⟨?_, ?_, g.st.keep D _ e nbD m⟩
    · cases qq : Gb D with
      | none => rfl
      | some u =>
        rcases g.st.new D u qq with z | z | z
        · rw [n] at z; cases z
        · rw [e] at z; cases z
        · exact absurd m z
    · cases qq : μb D with
      | none => rfl
      | some u =>
        rcases g.st.cel D (by rw [qq]; intro z; cases z) with z | z
        · exact absurd m z
        · rw [e] at z; cases z
  refine ⟨fun i m H' => m = xs.length - i ∧ i ≤ xs.length ∧ ∃ μ' G' acc av, Rel K B (wipeE ρ own) μ' (L2.wipe σ own) G' H' ∧ Go K B μ G H μ' G' H' ∧ Sub G1 G' ∧ G' D = none ∧ μ' D = none ∧ H' D = some (.lst av) ∧ Reps K B G' acc av ∧ acc.length ≤ i ∧ lcD t own dt de ρ q (xs.drop i) acc μ',
    ⟨xs.length, by omega, Nat.zero_le _, μ1, G1, [], [], Rw, g1.trans g1', .refl _, gD, mD, upd_same, .nil, Nat.le_refl _, hf.un⟩, ?_⟩
  rintro i m H' ⟨rfl, hle, μ', G', acc, av, R', g', sb, gD', mD', hD', rs, hal, hf'⟩
  by_cases hlt : i < xs.length
  · rw [drop_get hlt] at hf'
    refine .inr ⟨io.go i μ' G' H' sb R'.ok hlt, fun H2 => ∃ μ2 G2 acc2 av2, Rel K B (wipeE ρ own) μ2 (L2.wipe σ own) G2 H2 ∧ Go K B μ G H μ2 G2 H2 ∧ Sub G1 G2 ∧ G2 D = none ∧ μ2 D = none ∧ H2 D = some (.lst av2) ∧ Reps K B G2 acc2 av2 ∧ acc2.length ≤ i + 1 ∧ lcD t own dt de ρ q (xs.drop (i + 1)) acc2 μ2,
      fun H2 z => ⟨xs.length - (i + 1), by omega, rfl, hlt, z⟩, fun v H2 y => ?_⟩
    obtain ⟨G2, g2, r2⟩ := io.yld i μ' G' H' v H2 xs[i] sb R'.ok (List.getElem?_eq_getElem hlt) y
    refine tg_ok hw (R'.go g2) r2 hf' fun ρ3 σ3 h3 R3 hws => ⟨hws.trans (wipe_ext (wipe_length _ _) fun j hj => wipe_get2 hj), ?_⟩
    obtain ⟨gD2, mD2, hD2⟩ := stays g2 gD' mD' hD'
    refine ⟨B, ρ3, μ', G2, _, noX, R3, h3, fun b μ3 G3 H3 h4 g3 => ?_, fun _ _ _ _ _ z => z.elim⟩
    have g23 := g2.trans g3
    obtain ⟨gD3, mD3, hD3⟩ := stays g3 gD2 mD2 hD2
    cases b with
    | false => exact ⟨μ3, G3, acc, av, R'.go g23, g'.trans g23, sb.trans g23.gx, gD3, mD3, hD3, rs.mono g23.gx, by omega, (h4.f rfl).un⟩
    | true =>
      refine ⟨B, ρ3, μ3, G3, _, noX, R3.go g3, h4.t rfl, fun p u μ4 G4 H4 h5 g4 r4 => ?_, fun _ _ _ _ _ z => z.elim⟩
      obtain ⟨gD4, mD4, hD4⟩ := stays g4 gD3 mD3 hD3
      have hlen := rs.length
      have g24 := g23.trans g4
      have g := g'.trans g24
      have ok5 : Ok K B μ4 G4 (upd H4 D (.lst (av ++ [u]))) := g4.ok.mut hD4 gD4 mD4 nbD
      refine ⟨av, hD4, by omega, μ4, G4, acc ++ [p], av ++ [u], ⟨ok5, (R'.go g24).len, (R'.go g24).at_⟩, ⟨ok5, ⟨g.st.gx, fun a e => ?_, fun a o e nb mm => ?_, g.st.new, g.st.cel⟩⟩, sb.trans g24.gx, gD4, mD4, upd_same, (rs.mono g24.gx).append (.cons r4 .nil), by simp; omega, h5.un⟩
      · by_cases z : a = D
        · subst z; exact hD0
        · rw [upd_ne z] at e; exact g.st.dom a e
      · rw [upd_ne (ne_of_none e hD0)]
        exact g.st.keep a o e nb mm
  · have e : i = xs.length := by omega
    subst e
    rw [List.drop_length] at hf'
    exact .inl ⟨io.stop _ μ' G' H' sb R'.ok (Nat.le_refl _), gl acc D av μ' G' H' hf' g' hD0 gD' mD' hD' rs⟩
theorem l_comp {X : Cx} {W : WX} {elt tg iter : Expr} {ifs : List Expr} {scope : Scope} {own : List (Str × Nat)} {pos : Pos} {di : DI} {dt : DT} {de : DE} {t : Tg} (hc : X.calm = true) (nd : X.N.Nodup) (hi : IJ X W tg iter di) (ok : BlkOk X.N X.env.scope scope own)
    (hg : ∀ (s : Shared) (H : Hp) (C : Addr) (cl : List (Str × Addr)) (fp : List Addr), PG (X.blk s H scope (compEnvC scope cl C X.env) fp) tg (tgOf X.K t)) (ht : ∀ (s : Shared) (H : Hp) (C : Addr) (cl : List (Str × Addr)) (fp : List Addr), TsJ (X.blk s H scope (compEnvC scope cl C X.env) fp) Wno ifs dt)
    (he : ∀ (s : Shared) (H : Hp) (C : Addr) (cl : List (Str × Addr)) (fp : List Addr), EJ (X.blk s H scope (compEnvC scope cl C X.env) fp) Wno elt de) (hw : ∀ i ∈ t.idx, i ∈ own.map (·.2) := by decide) (hs : ∀ x, foldedSetIterable iter X.env x = pure x := by intro _; rfl) :
    LJ X W (.ListComp elt [⟨tg, iter, ifs, 0⟩] scope pos) (lComp t (own.map (·.2)) di dt de) := pe_imp (pe_lc hc nd hi ok hg ht he hs) fun σ H Q h => tlc_of hw h
/-! ## loops, in the plain proofs -/
theorem forD_c {t : Tg} {db : DS} {x : PV} {xs ys : List PV} {P : DEn} {ρ : En} {μ : Mu} (e : ys = x :: xs) (h : setT t x ρ fun ρ' => db { P with nx := fun ρ'' μ'' => Lk (forD t db xs P ρ'' μ''), ct := fun ρ'' μ'' => Lk (forD t db xs P ρ'' μ''), bk := P.nx } ρ' μ) : Lk (forD t db ys P ρ μ) := by
  subst e
  exact ⟨h⟩
theorem forD_n {t : Tg} {db : DS} {ys : List PV} {P : DEn} {ρ : En} {μ : Mu} (e : ys = []) (h : P.nx ρ μ) : Lk (forD t db ys P ρ μ) := by
  subst e
  exact ⟨h⟩
theorem lcD_c {t : Tg} {own : List Nat} {dt : DT} {de : DE} {ρ : En} {q : List PV → Mu → Prop} {y : PV} {ys zs acc : List PV} {μ : Mu} (e : zs = y :: ys) (h : setT t y (wipeE ρ own) fun ρ' => dt ρ' μ (fun b μ1 => br b (de ρ' μ1 (fun p μ2 => Lk (lcD t own dt de ρ q ys (acc ++ [p]) μ2)) noX) (Lk (lcD t own dt de ρ q ys acc μ1))) noX) : Lk (lcD t own dt de ρ q zs acc μ) := by
  subst e
  exact ⟨h⟩
theorem lcD_n {t : Tg} {own : List Nat} {dt : DT} {de : DE} {ρ : En} {q : List PV → Mu → Prop} {zs acc : List PV} {μ : Mu} (e : zs = []) (h : q acc μ) : Lk (lcD t own dt de ρ q zs acc μ) := by
  subst e
  exact ⟨h⟩
end Px

namespace Px
open PySem PySem.Spec PyProof.Rows L2

/-! ## facts about the classes, as a check finds them -/
def subCl : Cl → Cl → Bool := fun c d => decide (c = d) || (match c, d with
  | .Filter, .Ink => true | .Opaque, .Ink => true | .Bleach, .Ink => true
  | _, _ => false)
def tys : List String := ["int", "str", "bool", "tuple", "list", "dict"]
structure KC (K : Frg) (c : Cl) : Prop where
  cls : Cls K (ca K c)
  k1 : PySem.W.findIn K (.ref (ca K c)) "__class__" = some (some (.builtin "object.__class__"))
  k2 : PySem.W.specialIn K (.builtin "object.__class__") "__get__" = some (some (.builtin "getset_descriptor.__get__"))
  k3 : PySem.W.takesIn K (.builtin "object.__class__") = some true
  k4 : PySem.W.mroIn K (ca K c) (.type "object") = some true
  no : ∀ f ∈ c.flds, NoAttr K (ca K c) f
theorem kcB_ok {K : Frg} {c : Cl} (h : kcB K c = true) : KC K c := by
  obtain ⟨h1, h⟩ := He.ba h
  obtain ⟨h2, h⟩ := He.ba h
  obtain ⟨h3, h⟩ := He.ba h
  obtain ⟨h4, h⟩ := He.ba h
  obtain ⟨h5, h6⟩ := He.ba h
  exact ⟨He.cls_ok h1, He.eqO_ok h2, He.eqO_ok h3, of_decide_eq_true h4, of_decide_eq_true h5, fun f hf => He.eqO_ok (List.all_eq_true.mp h6 f hf)⟩
def allCl : List Cl := [.Light, .Film, .Ink, .Filter, .Opaque, .Bleach, .Pass, .Row, .Spot, .Chart, .Shape, .Sheet, .Press, .PrintError, .InvalidBand, .InvalidInk, .InvalidTakes, .InvalidPass, .NoSuchPass, .NotAnOrder, .TooLong, .TooManyMasks,
  .Conditional, .CannotCome, .InvalidShape, .WrongSize, .UnknownMask, .UnknownPlace, .InvalidText, .NothingToUndo, .NothingToRedo, .InvalidLimit, .InvalidRun]
theorem allCl_mem (c : Cl) : c ∈ allCl := by cases c <;> simp [allCl]
/-- what an except clause answers -/
def subX (c d : Cl) : Bool := decide (c = d) || decide (d = .PrintError)
def tyn : List String := "NoneType" :: tys
/-- what is known of the classes, pair by pair -/
structure KA (K : Frg) : Prop where
  oo : ∀ c d, kcB K c = true → knB K d = true → PySem.W.kitOne K (.ref (ca K c)) (.ref (ca K d)) = some (subCl c d)
  ot : ∀ c, kcB K c = true → ∀ n ∈ tys, PySem.W.kitOne K (.ref (ca K c)) (.type n) = some false
  to : ∀ c, knB K c = true → ∀ n ∈ tys, PySem.W.kitOne K (.type n) (.ref (ca K c)) = some false
  no : ∀ c, knB K c = true → PySem.W.kitOne K (.type "NoneType") (.ref (ca K c)) = some false
  sb : ∀ c d, kcB K c = true → kcB K d = true → PySem.W.subIn K (.ref (ca K c)) (.ref (ca K d)) = some (subCl c d)
  st : ∀ c, kcB K c = true → ∀ n ∈ tyn, PySem.W.subIn K (.type n) (.ref (ca K c)) = some false
  xm : ∀ c d, xcB K c = true → xcB K d = true → PySem.W.exmOne K (.ref (ca K c)) (.ref (ca K d)) = some (subX c d)
def kaB2 (K : Frg) (hs : List Cl) : Bool := hs.all fun c => (hs.all fun d => decide (PySem.W.subIn K (.ref (ca K c)) (.ref (ca K d)) = some (subCl c d))) && tyn.all fun n => decide (PySem.W.subIn K (.type n) (.ref (ca K c)) = some false)
def kaB1 (K : Frg) (hs xs : List Cl) : Bool := (hs.all fun c => ((hs ++ xs).all fun d => decide (PySem.W.kitOne K (.ref (ca K c)) (.ref (ca K d)) = some (subCl c d))) && tys.all fun n => decide (PySem.W.kitOne K (.ref (ca K c)) (.type n) = some false)) &&
  (((hs ++ xs).all fun c => (tys.all fun n => decide (PySem.W.kitOne K (.type n) (.ref (ca K c)) = some false)) && decide (PySem.W.kitOne K (.type "NoneType") (.ref (ca K c)) = some false)) &&
  xs.all fun c => xs.all fun d => decide (PySem.W.exmOne K (.ref (ca K c)) (.ref (ca K d)) = some (subX c d)))
/-- hs, xs: the classes of the text; the others are not known -/
def kaB (K : Frg) (hs xs : List Cl) : Bool := (allCl.all fun c => (decide (c ∈ hs) || !kcB K c) && (decide (c ∈ xs) || !xcB K c)) && (kaB1 K hs xs && kaB2 K hs)
theorem kaB_ok {K : Frg} {hs xs : List Cl} (h : kaB K hs xs = true) : KA K := by
  obtain ⟨h1, h2⟩ := He.ba h
  obtain ⟨h2, g4⟩ := He.ba h2
  obtain ⟨g1, h2⟩ := He.ba h2
  obtain ⟨g2, g3⟩ := He.ba h2
  have inh : ∀ c, kcB K c = true → c ∈ hs := fun c hc => by
    have := (He.ba (List.all_eq_true.mp h1 c (allCl_mem c))).1
    rw [hc] at this
    simpa using this
  have inx : ∀ c, xcB K c = true → c ∈ xs := fun c hc => by
    have := (He.ba (List.all_eq_true.mp h1 c (allCl_mem c))).2
    rw [hc] at this
    simpa using this
  have ink : ∀ c, knB K c = true → c ∈ hs ++ xs := fun c hc => by
    rcases Bool.or_eq_true_iff.mp hc with z | z
    · exact List.mem_append_left _ (inh c z)
    · exact List.mem_append_right _ (inx c z)
  refine ⟨fun c d hc hd => ?_, fun c hc n hn => ?_, fun c hc n hn => ?_, fun c hc => ?_, fun c d hc hd => ?_, fun c hc n hn => ?_, fun c d hc hd => ?_⟩
  · exact of_decide_eq_true (List.all_eq_true.mp (He.ba (List.all_eq_true.mp g1 c (inh c hc))).1 d (ink d hd))
  · exact of_decide_eq_true (List.all_eq_true.mp (He.ba (List.all_eq_true.mp g1 c (inh c hc))).2 n hn)
  · exact of_decide_eq_true (List.all_eq_true.mp (He.ba (List.all_eq_true.mp g2 c (ink c hc))).1 n hn)
  · exact of_decide_eq_true (He.ba (List.all_eq_true.mp g2 c (ink c hc))).2
  · exact of_decide_eq_true (List.all_eq_true.mp (He.ba (List.all_eq_true.mp g4 c (inh c hc))).1 d (inh d hd))
  · exact of_decide_eq_true (List.all_eq_true.mp (He.ba (List.all_eq_true.mp g4 c (inh c hc))).2 n hn)
  · exact of_decide_eq_true (List.all_eq_true.mp (List.all_eq_true.mp g3 c (inx c hc)) d (inx d hd))
def memC (c : Cl) : List Cl → Bool
  | [] => false
  | d :: ds => match decEq c d with
    | Decidable.isTrue _ => true
    | Decidable.isFalse _ => memC c ds
theorem memC_ok {c : Cl} : ∀ {hs : List Cl}, memC c hs = true → c ∈ hs
  | [], h => by cases h
  | d :: ds, h => by
    unfold memC at h
    cases e : decEq c d with
    | isTrue z => subst z; exact List.mem_cons_self
    | isFalse z => rw [e] at h; exact List.mem_cons_of_mem _ (memC_ok h)
theorem br_and {b : Bool} {A : Prop} (h : br b A False) : b = true ∧ A := by
  cases b
  · exact (h.f rfl).elim
  · exact ⟨rfl, h.t rfl⟩

/-! ## attributes -/
/-- the place of a field -/
def fldAt (f : Str) : List Str → List PV → Option PV
  | g :: gs, x :: xs => match decEq f g with
    | Decidable.isTrue _ => some x
    | Decidable.isFalse _ => fldAt f gs xs
  | _, _ => none
theorem fldAt_ok {K : Frg} {B : BX} {G : Hp} {f : Str} {x : PV} : ∀ {gs : List Str} {xs : List PV} {vs : List V}, fldAt f gs xs = some x → Reps K B G xs vs → f ∈ gs ∧ ∃ v, (gs.zip vs).lookup f = some v ∧ Rep K B G x v
  | [], xs, vs, e, r => by cases xs <;> simp [fldAt] at e
  | g :: gs, [], vs, e, r => by simp [fldAt] at e
  | g :: gs, y :: xs, vs, e, r => by
    obtain ⟨v, ws, rfl, r1, r2⟩ := r.cons_inv
    unfold fldAt at e
    cases z : decEq f g with
    | isTrue h =>
      rw [z] at e
      cases e
      subst h
      exact ⟨List.mem_cons_self, v, by simp [List.lookup], r1⟩
    | isFalse h =>
      rw [z] at e
      obtain ⟨m, u, e1, e2⟩ := fldAt_ok e r2
      have hb : (f == g) = false := by simpa using h
      exact ⟨List.mem_cons_of_mem _ m, u, by simp [List.lookup, hb, e1], e2⟩
theorem lookup_zip_none {f : Str} : ∀ {gs : List Str} {vs : List V}, f ∉ gs → (gs.zip vs).lookup f = none
  | [], vs, _ => rfl
  | g :: gs, [], _ => rfl
  | g :: gs, v :: vs, h => by
    have hb : (f == g) = false := by
      have : f ≠ g := fun z => h (by rw [z]; exact List.mem_cons_self)
      simpa using this
    simp only [List.zip_cons_cons, List.lookup, hb]
    exact lookup_zip_none fun z => h (List.mem_cons_of_mem _ z)
/-- .. among fields told so far -/
def fldIn (f : Str) : List (Str × PV) → Option PV
  | (g, x) :: r => match decEq f g with
    | Decidable.isTrue _ => some x
    | Decidable.isFalse _ => fldIn f r
  | [] => none
theorem fldIn_ok {K : Frg} {B : BX} {G : Hp} {f : Str} {x : PV} : ∀ {fs : List (Str × PV)} {ws : List (Str × V)}, fldIn f fs = some x → FRep K B G fs ws → ∃ v, ws.lookup f = some v ∧ Rep K B G x v
  | [], ws, e, r => by cases e
  | (g, y) :: fs, ws, e, r => by
    cases r with
    | cons q t =>
      rename_i w ws'
      obtain ⟨h, u⟩ := w
      obtain ⟨q1, q2⟩ := q
      have q1 : g = h := q1
      subst q1
      unfold fldIn at e
      cases z : decEq f g with
      | isTrue hh =>
        rw [z] at e
        cases e
        subst hh
        exact ⟨u, by simp [List.lookup], q2⟩
      | isFalse hh =>
        rw [z] at e
        obtain ⟨v, e1, e2⟩ := fldIn_ok e t
        have hb : (f == g) = false := by simpa using hh
        exact ⟨v, by simp [List.lookup, hb, e1], e2⟩
def memS (f : Str) : List Str → Bool
  | [] => false
  | g :: gs => match decEq f g with
    | Decidable.isTrue _ => true
    | Decidable.isFalse _ => memS f gs
theorem memS_ok {f : Str} : ∀ {hs : List Str}, memS f hs = true → f ∈ hs
  | [], h => by cases h
  | d :: ds, h => by
    unfold memS at h
    cases e : decEq f d with
    | isTrue z => subst z; exact List.mem_cons_self
    | isFalse z => rw [e] at h; exact List.mem_cons_of_mem _ (memS_ok h)
def attrP (f : Str) : FU := fun p μ q _ => match p with
  | .obj c xs => (match fldAt f c.flds xs with
    | some x => q x μ
    | none => False)
  | .cell a => (match μ a with
    | some (.ins c fs) => br (memS f c.flds) (match fldIn f fs with
      | some x => q x μ
      | none => False) False
    | _ => False)
  | _ => False
section
variable {X : Cx} {W : WX} {pos p0 : Pos} {e : Expr} {es : List Expr} {d : DE} {ds : DA}
theorem UnJ.or {op : Value → Sem Value} {f g h : FU} (hf : UnJ X W op f) (hg : UnJ X W op g) (i : ∀ a μ q x, h a μ q x → f a μ q x ∨ g a μ q x) : UnJ X W op h := fun pins s σ H B ρ μ G a va u q x Q J R ra ru z gv gx =>
  (i a μ q x z).elim (fun z => hf pins s σ H B ρ μ G a va u q x Q J R ra ru z gv gx) fun z => hg pins s σ H B ρ μ G a va u q x Q J R ra ru z gv gx
theorem e_att {f : Str} {g : FU} (ho : UnJ X W (fun u => getAttr u f true) g) (ha : EJ X W e d) (hb : attributeBase e f X.env (eval e X.env) = eval e X.env := by rfl) : EJ X W (.Attribute e f pos) (dUn g d) := by
  refine ⟨fun pins s σ H Q J ⟨B, ρ, μ, G, q, z, R, h, gv, gx⟩ => ?_⟩
  refine attr_of hb (thn (ha.run pins s σ H (fun v H1 => ∃ μ1 G1 p, Go X.K B μ G H μ1 G1 H1 ∧ Rep X.K B G1 p v ∧ g p μ1 q z) J
    ⟨B, ρ, μ, G, _, z, R, h, fun p v μ1 G1 H1 h1 g1 r1 => ⟨μ1, G1, p, g1, r1, h1⟩, gx⟩) fun u s1 ⟨v, H1, J1, rv, μ1, G1, p, g1, rp, hf⟩ => ?_)
  exact ho pins s1 σ H1 B ρ μ1 G1 p v u q z Q J1 (R.go g1) rp rv hf (gv.go g1) (gx.go g1)
theorem uj_attr {f : Str} : UnJ X W (fun u => getAttr u f true) (attrP f) := fun pins s σ H B ρ μ G p v u q x Q J R rp ru h gv gx => by
  cases p with
  | obj c xs =>
    unfold attrP at h
    cases e2 : fldAt f c.flds xs with
    | none => simp only [e2] at h
    | some y =>
      simp only [e2] at h
      obtain ⟨a, dx, vs, rfl, kc, ea, hl, rs⟩ := rp.obj_inv
      obtain ⟨m, w, e3, r3⟩ := fldAt_ok e2 rs
      obtain rfl : u = Value.ref a := ru
      exact getattr_ok J (R.ok.sub _ _ ea) (kcB_ok kc).cls ((kcB_ok kc).no f m) e3 fun u' s2 I2 ru' => ⟨w, H, I2, ru', gv _ _ _ _ _ h (.refl R.ok) r3⟩
  | cell a =>
    unfold attrP at h
    cases e : μ a with
    | none => simp only [e] at h
    | some c0 =>
      cases c0 with
      | ins c fs =>
        simp only [e] at h
        obtain ⟨hf, h⟩ := br_and h
        have hf := memS_ok hf
        cases e2 : fldIn f fs with
        | none => simp only [e2] at h
        | some y =>
          simp only [e2] at h
          obtain ⟨_, _, o, ha, dx, ws, rfl, kc, fl, fr⟩ := R.ok.cell a _ e
          obtain ⟨w, e3, r3⟩ := fldIn_ok e2 fr
          rw [rp.cell_inv] at ru
          obtain rfl : u = Value.ref a := ru
          exact getattr_ok J ha (kcB_ok kc).cls ((kcB_ok kc).no f hf) e3 fun u' s2 I2 ru' => ⟨w, H, I2, ru', gv _ _ _ _ _ h (.refl R.ok) r3⟩
      | _ => simp only [e] at h
  | _ => exact h.elim
end

/-! ## built-ins called by name -/
abbrev FC := List PV → Mu → QV → QX → Prop
def CaJ (X : Cx) (W : WX) (fn : Value) (f : FC) : Prop := ∀ (pins : List (Addr × Obj)) (s : Shared) (σ : L2.St) (H : Hp) (B : BX) (ρ : En) (μ : Mu) (G : Hp) (ps : List PV) (vs : List V) (us : List Value) (q : QV) (x : QX) (Q : VK), Inv X pins σ H s → Rel X.K B ρ μ σ G H → Reps X.K B G ps vs → Vals vs us →
    f ps μ q x → GoodV X.K B μ G H q Q → GoodX X.K W B μ G H σ x → wpAny (model X.prog X.w) X.A (call fn us) (EP X pins σ Q) X.xe s
/-- f tells what the reading r of a call asks -/
def PCl (K : Frg) (r : List V → Hp → VK → Prop) (f : Mu → List PV → (PV → Prop) → Prop) : Prop := ∀ (B : BX) (μ : Mu) (G H : Hp) (ps : List PV) (vs : List V) (q : PV → Prop) (Q : VK), Ok K B μ G H → Reps K B G ps vs → f μ ps q → (∀ p v G' H', q p → Go K B μ G H μ G' H' → Rep K B G' p v → Q v H') → r vs H Q
def fc (f : Mu → List PV → (PV → Prop) → Prop) : FC := fun ps μ q _ => f μ ps (fun p => q p μ)
def dBlt (f : FC) (ds : DA) : DE := fun ρ μ q x => ds ρ μ (fun ps μ1 => f ps μ1 q x) x
section
variable {X : Cx} {W : WX} {pos p0 : Pos} {e : Expr} {es : List Expr} {d : DE} {ds : DA} {r : List V → Hp → VK → Prop} {f : FC} {x : Str} {id : String}
theorem CaJ.of {fn : Value} {f : Mu → List PV → (PV → Prop) → Prop} (ho : CallR X fn r) (hp : PCl X.K r f) : CaJ X W fn (fc f) := fun pins s σ H B ρ μ G ps vs us q x Q J R rs ru h gv gx =>
  ho pins s σ H vs us Q J ru (hp B μ G H ps vs _ Q R.ok rs h fun p v G' H' hq g rp => gv p v μ G' H' hq g rp)
theorem CaJ.or {fn : Value} {f g h : FC} (hf : CaJ X W fn f) (hg : CaJ X W fn g) (i : ∀ ps μ q x, h ps μ q x → f ps μ q x ∨ g ps μ q x) : CaJ X W fn h := fun pins s σ H B ρ μ G ps vs us q x Q J R rs ru z gv gx =>
  (i ps μ q x z).elim (fun z => hf pins s σ H B ρ μ G ps vs us q x Q J R rs ru z gv gx) fun z => hg pins s σ H B ρ μ G ps vs us q x Q J R rs ru z gv gx
/-- the call's reading once the arguments are known -/
def rC (K : Frg) (W : WX) (f : FC) (Q : VK) (σ : L2.St) (vs : List V) (H1 : Hp) : Prop := ∃ (B : BX) (ρ : En) (μ : Mu) (G : Hp) (ps : List PV) (q : QV) (z : QX), Rel K B ρ μ σ G H1 ∧ Reps K B G ps vs ∧ f ps μ q z ∧ GoodV K B μ G H1 q Q ∧ GoodX K W B μ G H1 σ z
theorem rC_of {K : Frg} {σ : L2.St} {H : Hp} {Q : VK} (h : tE K W (dBlt f ds) σ H Q) : tA K W ds σ H (rC K W f Q σ) := by
  obtain ⟨B, ρ, μ, G, q, x, R, h, gv, gx⟩ := h
  exact ⟨B, ρ, μ, G, _, x, R, h, fun ps vs μ1 G1 H1 h1 g1 r1 => ⟨B, ρ, μ1, G1, ps, q, x, R.go g1, r1, h1, gv.go g1, gx.go g1⟩, gx⟩
theorem CaJ.run {fn : Value} (ho : CaJ X W fn f) {pins : List (Addr × Obj)} {s : Shared} {σ : L2.St} {H : Hp} {Q : VK} {vs : List V} {us : List Value} (J : Inv X pins σ H s) (ru : Vals vs us) (h : rC X.K W f Q σ vs H) : wpAny (model X.prog X.w) X.A (call fn us) (EP X pins σ Q) X.xe s := by
  obtain ⟨B, ρ, μ, G, ps, q, x, R, rs, h, gv, gx⟩ := h
  exact ho pins s σ H B ρ μ G ps vs us q x Q J R rs ru h gv gx
theorem e_blt (hc : CaJ X W (.builtin id) f) (hm : X.mg x = none) (hv : bootBuiltins x = some (.builtin id)) (ha : AJ X W (e :: es) ds) (hg : Gl X x := by rfl) (h1 : x ≠ "__name__" := by decide) (h2 : (x == ("__debug__" : Str)) = false := by decide)
    (h3 : starEach (e :: es) X.env = (false, eval e X.env) :: starEach es X.env := by rfl) (h4 : (backTo pos (starEach es X.env)).any (·.1) = false := by rfl) : EJ X W (.Call (.Name x p0) (e :: es) [] pos) (dBlt f ds) := by
  refine ⟨fun pins s σ H Q I h => ?_⟩
  refine wpAny_Call_Name_kw (ld_blt I hg hm hv ?_ h1 h2)
  exact PyProof.Rows.callWith_builtin1 (thn (ha.run pos pins s σ H _ I (rC_of h)) fun us s1 ⟨vs, H1, I1, r1, q1⟩ => hc.run I1 r1 q1) h3 h4
theorem e_bty (hc : CaJ X W (.type id) f) (hm : X.mg x = none) (hv : bootBuiltins x = some (.type id)) (ha : AJ X W (e :: es) ds) (hg : Gl X x := by rfl) (h1 : x ≠ "__name__" := by decide) (h2 : (x == ("__debug__" : Str)) = false := by decide)
    (h3 : starEach (e :: es) X.env = (false, eval e X.env) :: starEach es X.env := by rfl) (h4 : (backTo pos (starEach es X.env)).any (·.1) = false := by rfl) : EJ X W (.Call (.Name x p0) (e :: es) [] pos) (dBlt f ds) := by
  refine ⟨fun pins s σ H Q I h => ?_⟩
  refine wpAny_Call_Name_kw (ld_blt I hg hm hv ?_ h1 h2)
  exact PyProof.Rows.callWith_type1 (thn (ha.run pos pins s σ H _ I (rC_of h)) fun us s1 ⟨vs, H1, I1, r1, q1⟩ => hc.run I1 r1 q1) h3 h4
/-- a built-in class, as a value -/
theorem e_ty (n : String) {x : Str} (hm : X.mg x = none) (hv : bootBuiltins x = some (.type n)) (hg : Gl X x := by rfl) (h1 : x ≠ "__name__" := by decide) (h2 : (x == ("__debug__" : Str)) = false := by decide) : EJ X W (.Name x pos) (dC (.ty n)) := e_c (pe_bltn hg hm hv (show RelV (.ty n) _ from rfl) h1 h2) fun _ _ => rep_ty n
/-- len(..) of a text, a list, a tuple, a dict -/
def lenP (μ : Mu) (p : PV) (q : Int → Prop) : Prop := match p with
  | .str z => z.length ≤ sizeLine ∧ q z.length
  | p => (match seqOf μ p with
    | some (_, xs) => q xs.length
    | none => False)
def fLen : Mu → List PV → (PV → Prop) → Prop := fun μ ps q => match ps with
  | [p] => lenP μ p fun n => q (.int n)
  | _ => False
theorem pcl_len {K : Frg} : PCl K (fun xs H Q => ∃ x n, xs = [x] ∧ LenV K x H n ∧ Q (.int n) H) fLen := fun B μ G H ps vs q Q o rs h gv => by
  unfold fLen at h
  split at h
  · rename_i p
    obtain ⟨v, ws, rfl, r, rn⟩ := rs.cons_inv
    rw [rn.nil_inv]
    have rest : (match seqOf μ p with | some (_, xs) => q (.int xs.length) | none => False) → ∃ x n, [v] = [x] ∧ LenV K x H n ∧ Q (.int n) H := fun h => by
      cases e : seqOf μ p with
      | none => simp only [e] at h
      | some z =>
        obtain ⟨t, xs⟩ := z
        simp only [e] at h
        obtain ⟨a, us, rfl, rs2, hh⟩ := seq_ok o r e
        have l := rs2.length
        refine ⟨_, us.length, rfl, ?_, by rw [l]; exact gv _ _ _ _ h (.refl o) (rep_int _)⟩
        rcases hh with ⟨_, hh⟩ | ⟨_, hh⟩
        · exact .inl ⟨us, .inl (.inl hh), rfl⟩
        · exact .inr ⟨us, hh, rfl⟩
    cases p with
    | str z => rw [r.str_inv]; exact ⟨_, _, rfl, ⟨h.1, rfl⟩, gv _ _ _ _ h.2 (.refl o) (rep_int _)⟩
    | _ => exact rest h
  · exact h.elim
theorem cj_len : CaJ X W (.builtin "len") (fc fLen) := .of call_len pcl_len
def fInt : Mu → List PV → (PV → Prop) → Prop := fun _ ps q => match ps with
  | [.int i] => q (.int i)
  | [.bl k] => q (.int (if k then 1 else 0))
  | _ => False
theorem pcl_int {K : Frg} : PCl K (fun xs H Q => (∃ i, xs = [.int i] ∧ Q (.int i) H) ∨ ∃ k, xs = [.bl k] ∧ Q (.int (if k then 1 else 0)) H) fInt := fun B μ G H ps vs q Q o rs h gv => by
  unfold fInt at h
  split at h
  · exact .inl ⟨_, rs.int1, gv _ _ _ _ h (.refl o) (rep_int _)⟩
  · obtain ⟨v, ws, rfl, r, rn⟩ := rs.cons_inv
    exact .inr ⟨_, by rw [r.bl_inv, rn.nil_inv], gv _ _ _ _ h (.refl o) (rep_int _)⟩
  · exact h.elim
theorem cj_int : CaJ X W (.type "int") (fc fInt) := .of call_int1 pcl_int
def fBool : Mu → List PV → (PV → Prop) → Prop := fun _ ps q => match ps with
  | [.int i] => q (.bl (i != 0))
  | [.bl k] => q (.bl k)
  | _ => False
theorem pcl_bool {K : Frg} : PCl K (fun xs H Q => (∃ i, xs = [.int i] ∧ Q (.bl (i != 0)) H) ∨ ∃ k, xs = [.bl k] ∧ Q (.bl k) H) fBool := fun B μ G H ps vs q Q o rs h gv => by
  unfold fBool at h
  split at h
  · exact .inl ⟨_, rs.int1, gv _ _ _ _ h (.refl o) (rep_bl _)⟩
  · obtain ⟨v, ws, rfl, r, rn⟩ := rs.cons_inv
    exact .inr ⟨_, by rw [r.bl_inv, rn.nil_inv], gv _ _ _ _ h (.refl o) (rep_bl _)⟩
  · exact h.elim
theorem cj_bool : CaJ X W (.type "bool") (fc fBool) := .of call_bool1 pcl_bool
/-- all(..), any(..), sum(..) of a list -/
def onL (f : List PV → (PV → Prop) → Prop) : Mu → List PV → (PV → Prop) → Prop := fun μ ps q => match ps with
  | [p] => (match seqOf μ p with
    | some (false, xs) => f xs q
    | _ => False)
  | _ => False
theorem onL_inv {K : Frg} {B : BX} {μ : Mu} {G H : Hp} {f : List PV → (PV → Prop) → Prop} {ps : List PV} {vs : List V} {q : PV → Prop} (o : Ok K B μ G H) (rs : Reps K B G ps vs) (h : onL f μ ps q) : ∃ a us xs, vs = [.ref a] ∧ H a = some (.lst us) ∧ Reps K B G xs us ∧ f xs q := by
  unfold onL at h
  split at h
  · rename_i p
    obtain ⟨v, ws, rfl, r, rn⟩ := rs.cons_inv
    rw [rn.nil_inv]
    cases e : seqOf μ p with
    | none => simp only [e] at h
    | some z =>
      obtain ⟨t, xs⟩ := z
      cases t
      · simp only [e] at h
        obtain ⟨a, us, rfl, rs2, hh⟩ := seq_ok o r e
        rcases hh with ⟨_, hh⟩ | ⟨z, _⟩
        · exact ⟨a, us, xs, rfl, hh, rs2, h⟩
        · cases z
      · simp only [e] at h
  · exact h.elim
def fAll := onL fun xs q => ∃ bs : List Bool, xs = bs.map .bl ∧ q (.bl (bs.all fun b => b))
def fAny := onL fun xs q => ∃ bs : List Bool, xs = bs.map .bl ∧ q (.bl (bs.any fun b => b))
def fSum := onL fun xs q => ∃ ns : List Int, xs = ns.map .int ∧ q (.int ns.sum)
theorem pcl_all {K : Frg} : PCl K (rAll K) fAll := fun B μ G H ps vs q Q o rs h gv => by
  obtain ⟨a, us, xs, rfl, ha, r2, bs, rfl, hq⟩ := onL_inv o rs h
  rw [r2.bls] at ha
  exact ⟨a, bs, rfl, .inl (.inl ha), gv _ _ _ _ hq (.refl o) (rep_bl _)⟩
theorem pcl_any {K : Frg} : PCl K (rAny K) fAny := fun B μ G H ps vs q Q o rs h gv => by
  obtain ⟨a, us, xs, rfl, ha, r2, bs, rfl, hq⟩ := onL_inv o rs h
  rw [r2.bls] at ha
  exact ⟨a, bs, rfl, .inl (.inl ha), gv _ _ _ _ hq (.refl o) (rep_bl _)⟩
theorem pcl_sum {K : Frg} : PCl K (rSum K) fSum := fun B μ G H ps vs q Q o rs h gv => by
  obtain ⟨a, us, xs, rfl, ha, r2, bs, rfl, hq⟩ := onL_inv o rs h
  rw [r2.ints] at ha
  exact ⟨a, bs, rfl, .inl (.inl ha), gv _ _ _ _ hq (.refl o) (rep_int _)⟩
/-- tuple(list), tuple(tuple) -/
def fTuple : Mu → List PV → (PV → Prop) → Prop := fun μ ps q => match ps with
  | [p] => (match seqOf μ p with
    | some (_, xs) => q (.tup xs)
    | none => False)
  | _ => False
theorem seq_t {μ : Mu} {p : PV} {xs : List PV} (h : seqOf μ p = some (true, xs)) : p = .tup xs := by
  cases p with
  | tup ys => cases h; rfl
  | lst ys => cases h
  | cell c =>
    have e1 : (match μ c with | some (.lst xs) => some (false, xs) | _ => none) = some (true, xs) := h
    split at e1 <;> cases e1
  | _ => cases h
theorem pcl_tuple {K : Frg} : PCl K (fun xs H Q => ∃ p ys, xs = [.ref p] ∧ ((SqL K H p ys ∧ ∀ l, H l = none → Q (.ref l) (upd H l (.tup ys))) ∨ (SqT K H p ys ∧ Q (.ref p) H))) fTuple := fun B μ G H ps vs q Q o rs h gv => by
  unfold fTuple at h
  split at h
  · rename_i p
    obtain ⟨v, ws, rfl, r, rn⟩ := rs.cons_inv
    rw [rn.nil_inv]
    cases e : seqOf μ p with
    | none => simp only [e] at h
    | some z =>
      obtain ⟨t, xs⟩ := z
      simp only [e] at h
      obtain ⟨a, us, rfl, rs2, hh⟩ := seq_ok o r e
      cases t
      · rcases hh with ⟨_, hh⟩ | ⟨z, _⟩
        · refine ⟨a, us, rfl, .inl ⟨.inl (.inl hh), fun l hl => ?_⟩⟩
          have g := o.new1 (u := .tup us) hl
          exact gv _ _ _ _ h g (rep_tup (.inl (.inl upd_same)) (rs2.mono g.gx))
        · cases z
      · rcases hh with ⟨z, _⟩ | ⟨_, hh⟩
        · cases z
        · have := seq_t e
          subst this
          exact ⟨a, us, rfl, .inr ⟨hh, gv _ _ _ _ h (.refl o) r⟩⟩
  · exact h.elim
theorem cj_tuple : CaJ X W (.type "tuple") (fc fTuple) := .of call_tuple_of pcl_tuple
theorem cj_all (hc : X.calm = true) : CaJ X W (.builtin "all") (fc fAll) := .of (cr_all hc) pcl_all
theorem cj_any (hc : X.calm = true) : CaJ X W (.builtin "any") (fc fAny) := .of (cr_any hc) pcl_any
theorem cj_sum (hc : X.calm = true) : CaJ X W (.builtin "sum") (fc fSum) := .of (cr_sum hc) pcl_sum
end
end Px

namespace Px
open PySem PySem.Spec PyProof.Rows L2

/-! ## isinstance -/
def tyOf (μ : Mu) : PV → Option (String ⊕ Cl)
  | .int _ => some (.inl "int")
  | .bl _ => some (.inl "bool")
  | .str _ => some (.inl "str")
  | .tup _ => some (.inl "tuple")
  | .lst _ => some (.inl "list")
  | .non => some (.inl "NoneType")
  | .obj c _ => some (.inr c)
  | .cell a => (match μ a with
    | some (.lst _) => some (.inl "list")
    | some (.ins c _) => some (.inr c)
    | _ => none)
  | _ => none
def isiP (μ : Mu) (p c : PV) : Option Bool := match tyOf μ p with
  | some (.inl t) => (match c with
    | .ty n => kitB t n
    | .cls _ => some false
    | _ => none)
  | some (.inr c0) => (match c with
    | .cls d => some (subCl c0 d)
    | .ty n => (match decide (n ∈ tys) with
      | true => some false
      | false => none)
    | _ => none)
  | none => none
def fIsi : Mu → List PV → (PV → Prop) → Prop := fun μ ps q => match ps with
  | [p, c] => (match isiP μ p c with
    | some b => q (.bl b)
    | none => False)
  | _ => False
theorem tyX_of {K : Frg} {B : BX} {μ : Mu} {G H : Hp} (o : Ok K B μ G H) {p : PV} {v : V} (r : Rep K B G p v) :
    (∀ t, tyOf μ p = some (.inl t) → (t ∈ tys ∨ t = "NoneType") ∧ TyX K H v (.type t)) ∧ (∀ c, tyOf μ p = some (.inr c) → kcB K c = true ∧ TyX K H v (.ref (ca K c))) := by
  cases p with
  | non => refine ⟨fun t e => ?_, fun c e => nomatch e⟩; cases e; rw [r.non_inv]; exact ⟨.inr rfl, .base .non⟩
  | bl b => refine ⟨fun t e => ?_, fun c e => nomatch e⟩; cases e; rw [r.bl_inv]; exact ⟨.inl (by decide), .base (.bl _)⟩
  | int b => refine ⟨fun t e => ?_, fun c e => nomatch e⟩; cases e; rw [r.int_inv]; exact ⟨.inl (by decide), .base (.int _)⟩
  | str b => refine ⟨fun t e => ?_, fun c e => nomatch e⟩; cases e; rw [r.str_inv]; exact ⟨.inl (by decide), .base (.str _)⟩
  | tup xs =>
    refine ⟨fun t e => ?_, fun c e => nomatch e⟩
    cases e
    obtain ⟨a, us, rfl, sq, _⟩ := r.tup_inv
    rcases o.sub.t sq with (z | ⟨ob, z⟩) | ⟨ob, its, n, z, zc, _⟩
    · exact ⟨.inl (by decide), .base (.tup z)⟩
    · exact ⟨.inl (by decide), .fTuple z⟩
    · exact ⟨.inl (by decide), .kTuple z zc⟩
  | lst xs =>
    refine ⟨fun t e => ?_, fun c e => nomatch e⟩
    cases e
    obtain ⟨a, us, rfl, sq, _⟩ := r.lst_inv
    exact ⟨.inl (by decide), .base (.lst (o.sub _ _ sq))⟩
  | obj c0 xs =>
    refine ⟨fun t e => (nomatch e), fun c e => ?_⟩
    cases e
    obtain ⟨a, dx, vs, rfl, kc, ea, _⟩ := r.obj_inv
    have k := kcB_ok kc
    exact ⟨kc, .base (.ins (o.sub _ _ ea) k.cls k.k1 k.k2 k.k3 k.k4)⟩
  | cell a =>
    have hv := r.cell_inv
    subst hv
    cases e0 : μ a with
    | none => exact ⟨fun t e => by simp [tyOf, e0] at e, fun c e => by simp [tyOf, e0] at e⟩
    | some c =>
      obtain ⟨_, _, u, ha, ck⟩ := o.cell a c e0
      cases c with
      | lst xs =>
        obtain ⟨vs, rfl, _⟩ := ck
        refine ⟨fun t e => ?_, fun c e => by simp [tyOf, e0] at e⟩
        simp only [tyOf, e0, Option.some.injEq, Sum.inl.injEq] at e
        subst e
        exact ⟨.inl (by decide), .base (.lst ha)⟩
      | ins c0 fs =>
        obtain ⟨dx, ws, rfl, kc, _⟩ := ck
        refine ⟨fun t e => by simp [tyOf, e0] at e, fun c e => ?_⟩
        simp only [tyOf, e0, Option.some.injEq, Sum.inr.injEq] at e
        subst e
        have k := kcB_ok kc
        exact ⟨kc, .base (.ins ha k.cls k.k1 k.k2 k.k3 k.k4)⟩
      | dK ks xs => exact ⟨fun t e => by simp [tyOf, e0] at e, fun c e => by simp [tyOf, e0] at e⟩
      | dT ks xs => exact ⟨fun t e => by simp [tyOf, e0] at e, fun c e => by simp [tyOf, e0] at e⟩
  | _ => exact ⟨fun t e => (nomatch e), fun c e => (nomatch e)⟩
theorem pcl_isi {K : Frg} (ka : KA K) : PCl K (rIsi K) fIsi := fun B μ G H ps vs q Q o rs h gv => by
  unfold fIsi at h
  split at h
  · rename_i p c
    obtain ⟨v, ws, rfl, r1, rs⟩ := rs.cons_inv
    obtain ⟨u, ws, rfl, r2, rn⟩ := rs.cons_inv
    rw [rn.nil_inv]
    cases eb : isiP μ p c with
    | none => simp only [eb] at h
    | some b =>
      simp only [eb] at h
      have fin : ∀ {t w : Value}, TyX K H v t → ClsV u w → PySem.W.kitOne K t w = some b → rIsi K [v, u] H Q := fun t1 c1 k1 => ⟨v, u, _, _, b, rfl, c1, t1, k1, gv _ _ _ _ h (.refl o) (rep_bl _)⟩
      obtain ⟨tb, tob⟩ := tyX_of o r1
      unfold isiP at eb
      cases et : tyOf μ p with
      | none => simp only [et] at eb; cases eb
      | some z =>
        cases z with
        | inl t =>
          obtain ⟨mt, tx⟩ := tb t et
          simp only [et] at eb
          cases c with
          | ty n => exact fin tx (by rw [r2.ty_inv]; exact .ty n) (kit_ty eb)
          | cls d =>
            simp only at eb
            cases eb
            have cu : ClsV u (.ref (ca K d)) := by rw [r2.cls_inv]; exact .own _
            rcases mt with mt | rfl
            · exact fin tx cu (ka.to d r2.cls_kn t mt)
            · exact fin tx cu (ka.no d r2.cls_kn)
          | _ => cases eb
        | inr c0 =>
          simp only [et] at eb
          obtain ⟨kc, tx⟩ := tob c0 et
          cases c with
          | cls d =>
            simp only at eb
            cases eb
            exact fin tx (by rw [r2.cls_inv]; exact .own _) (ka.oo c0 d kc r2.cls_kn)
          | ty n =>
            cases m : decide (n ∈ tys) with
            | false => simp only [m] at eb; cases eb
            | true =>
              simp only [m] at eb
              cases eb
              exact fin tx (by rw [r2.ty_inv]; exact .ty n) (ka.ot c0 kc n (of_decide_eq_true m))
          | _ => cases eb
  · exact h.elim
section
variable {X : Cx} {W : WX} {pos p0 p1 p2 : Pos} {a b c e : Expr} {da db dc : DE}
theorem cj_isi (ka : KA X.K) : CaJ X W (.builtin "isinstance") (fc fIsi) := .of call_isi (pcl_isi ka)

/-! ## subscripts -/
def ixP : F2 := fun μ a b q => match b with
  | .int i => (match a with
    | .str z => z.length ≤ sizeLine ∧ (match atI z.cps.toList i with
      | some c => q (.str ⟨#[c]⟩)
      | none => False)
    | a => (match seqOf μ a with
      | some (_, xs) => (match atI xs i with
        | some x => q x
        | none => False)
      | none => False))
  | _ => False
theorem atI_rep {K : Frg} {B : BX} {G : Hp} {xs : List PV} {vs : List V} {i : Int} {x : PV} (rs : Reps K B G xs vs) (h : atI xs i = some x) : ∃ v, atI vs i = some v ∧ Rep K B G x v := by
  unfold atI at h ⊢
  rw [rs.length]
  cases e : ixN xs.length i with
  | none => rw [e] at h; cases h
  | some j =>
    rw [e] at h
    exact rs.get h
theorem pop_ix {K : Frg} : POp K (rIx K) ixP := fun B μ G H a b va vb q Q o ra rb h gv => by
  cases b with
  | int i =>
    have rest : (match seqOf μ a with | some (_, xs) => (match atI xs i with | some x => q x | none => False) | none => False) → rIx K va vb H Q := fun h => by
      cases e : seqOf μ a with
      | none => simp only [e] at h
      | some z =>
        obtain ⟨t, xs⟩ := z
        simp only [e] at h
        cases e2 : atI xs i with
        | none => simp only [e2] at h
        | some x =>
          simp only [e2] at h
          obtain ⟨p, vs, rfl, rs, hh⟩ := seq_ok o ra e
          obtain ⟨v, e1, r⟩ := atI_rep rs e2
          rcases hh with ⟨_, hh⟩ | ⟨_, hh⟩
          · exact .inl ⟨p, vs, i, v, rfl, rb.int_inv, .inl (.inl hh), e1, gv _ _ _ _ h (.refl o) r⟩
          · exact .inr (.inl ⟨p, vs, i, v, rfl, rb.int_inv, hh, e1, gv _ _ _ _ h (.refl o) r⟩)
    cases a with
    | str z =>
      obtain ⟨hz, h⟩ := h
      cases e2 : atI z.cps.toList i with
      | none => simp only [e2] at h
      | some c =>
        simp only [e2] at h
        exact .inr (.inr ⟨z, i, c, ra.str_inv, rb.int_inv, hz, e2, gv _ _ _ _ h (.refl o) (rep_str _)⟩)
    | _ => exact rest h
  | _ => exact h.elim
/-- a subscript by values -/
def IxJ (X : Cx) (W : WX) (f : FO) : Prop := ∀ (value slice : Expr) (pins : List (Addr × Obj)) (s : Shared) (σ : L2.St) (H : Hp) (B : BX) (ρ : En) (μ : Mu) (G : Hp) (a b : PV) (va vb : V) (u w : Value) (q : QV) (x : QX) (Q : VK), Inv X pins σ H s → Rel X.K B ρ μ σ G H → Rep X.K B G a va → Rep X.K B G b vb → RelV va u → RelV vb w →
    f a b μ q x → GoodV X.K B μ G H q Q → GoodX X.K W B μ G H σ x → subscripted slice false u w = operate [u, w] (getItem u w) → wpAny (model X.prog X.w) X.A (subscriptTail value slice u w) (EP X pins σ Q) X.xe s
theorem IxJ.of {r : R2} {f : F2} (ho : IxR X r) (hp : POp X.K r f) : IxJ X W (fo f) := fun value slice pins s σ H B ρ μ G a b va vb u w q x Q J R ra rb ru rw' h gv gx hs =>
  ho value slice pins s σ H va vb u w Q J ru rw' (hp B μ G H a b va vb _ Q R.ok ra rb h fun p v G' H' hq g rp => gv p v μ G' H' hq g rp) hs
theorem IxJ.or {f g h : FO} (hf : IxJ X W f) (hg : IxJ X W g) (i : ∀ a b μ q x, h a b μ q x → f a b μ q x ∨ g a b μ q x) : IxJ X W h := fun value slice pins s σ H B ρ μ G a b va vb u w q x Q J R ra rb ru rw' z gv gx hs =>
  (i a b μ q x z).elim (fun z => hf value slice pins s σ H B ρ μ G a b va vb u w q x Q J R ra rb ru rw' z gv gx hs) fun z => hg value slice pins s σ H B ρ μ G a b va vb u w q x Q J R ra rb ru rw' z gv gx hs
theorem e_ixJ {f : FO} (ho : IxJ X W f) (ha : EJ X W a da) (hb : EJ X W b db) (hp : PlainIx b := by exact fun _ _ => rfl) : EJ X W (.Subscript a b pos) (dBin f da db) := by
  refine ⟨fun pins s σ H Q J h => ?_⟩
  exact Subscript_ (thn (ha.run pins s σ H _ J (rB_of h)) fun u s1 ⟨va, H1, J1, ru, h1⟩ => thn (hb.run pins s1 σ H1 _ J1 (rAB_of h1)) fun w s2 ⟨vb, H2, J2, rw', ⟨B, ρ, μ, G, p, p2, q, x, R, ra, rb, h2, gv, gx⟩⟩ =>
    ho a b pins s2 σ H2 B ρ μ G p p2 va vb u w q x Q J2 R ra rb ru rw' h2 gv gx (hp _ _))
theorem ij_seq : IxJ X W (fo ixP) := .of ix_seq pop_ix

/-! ## slices -/
def cutP (xs : List PV) (lo hi : Option Int) : List PV := (xs.drop (HT.sIx xs.length 0 lo)).take (HT.sIx xs.length xs.length hi - HT.sIx xs.length 0 lo)
def slP (p : PV) (lo hi : Option Int) (μ : Mu) (q : PV → Prop) : Prop := match p with
  | .str z => z.length ≤ sizeLine ∧ q (.str (cutS z lo hi))
  | p => (match seqOf μ p with
    | some (t, xs) => q (if t then .tup (cutP xs lo hi) else .lst (cutP xs lo hi))
    | none => False)
abbrev DO := En → Mu → (Option Int → Mu → Prop) → QX → Prop
def oNone : DO := fun _ μ q _ => q none μ
def oSome (d : DE) : DO := fun ρ μ q x => d ρ μ (fun p μ1 => match p with
  | .int i => q (some i) μ1
  | _ => False) x
def tO (K : Frg) (W : WX) (d : DO) : TO := fun σ H Q => ∃ (B : BX) (ρ : En) (μ : Mu) (G : Hp) (q : Option Int → Mu → Prop) (x : QX), Rel K B ρ μ σ G H ∧ d ρ μ q x ∧ (∀ o μ' G' H', q o μ' → Go K B μ G H μ' G' H' → Q o H') ∧ GoodX K W B μ G H σ x
abbrev OJ (X : Cx) (W : WX) (e : Option Expr) (d : DO) : Prop := PO X e (tO X.K W d)
theorem o_none : OJ X W none oNone := ⟨fun pins s σ H Q I ⟨B, ρ, μ, G, q, x, R, h, gv, gx⟩ => po_none.run pins s σ H Q I (gv none μ G H h (.refl R.ok))⟩
theorem o_some (h : EJ X W e da) : OJ X W (some e) (oSome da) := ⟨fun pins s σ H Q I ⟨B, ρ, μ, G, q, x, R, hd, gv, gx⟩ => (po_some h).run pins s σ H Q I ⟨B, ρ, μ, G, _, x, R, hd, fun p v μ1 G1 H1 h1 g1 r1 => by
  cases p with
  | int i => exact ⟨i, r1.int_inv, gv _ μ1 G1 H1 h1 g1⟩
  | _ => exact h1.elim, gx⟩⟩
def dSl (d : DE) (dl dh : DO) : DE := fun ρ μ q x => d ρ μ (fun p μ1 => dl ρ μ1 (fun lo μ2 => dh ρ μ2 (fun hi μ3 => slP p lo hi μ3 fun r => q r μ3) x) x) x
theorem cutP_rep {K : Frg} {B : BX} {G : Hp} {xs : List PV} {vs : List V} (rs : Reps K B G xs vs) (lo hi : Option Int) : Reps K B G (cutP xs lo hi) (cutV vs lo hi) := by
  unfold cutP cutV
  rw [rs.length]
  exact (rs.drop _).take _
theorem sIx_whole {xs : List PV} {lo hi : Option Int} (h : HT.sIx xs.length 0 lo = 0 ∧ HT.sIx xs.length xs.length hi = xs.length) : cutP xs lo hi = xs := by
  unfold cutP
  rw [h.1, h.2]
  simp
theorem e_slice {lo hi : Option Expr} {dl dh : DO} (he : EJ X W e da) (hl : OJ X W lo dl) (hh : OJ X W hi dh) : EJ X W (.Subscript e (.Slice lo hi none p2) pos) (dSl da dl dh) :=
  pe_imp (pe_slice (SlR.or sl_list (SlR.or sl_tupA sl_str)) he hl hh) fun σ H Q ⟨B, ρ, μ, G, q, x, R, h, gv, gx⟩ =>
  ⟨B, ρ, μ, G, _, x, R, h, fun p v μ1 G1 H1 h1 g1 r1 => ⟨B, ρ, μ1, G1, _, x, R.go g1, h1, fun l μ2 G2 H2 h2 g2 => ⟨B, ρ, μ2, G2, _, x, R.go (g1.trans g2), h2, fun u μ3 G3 H3 h3 g3 => by
    have g := (g1.trans g2).trans g3
    have rp := r1.mono (g2.trans g3).gx
    have o := g.ok
    have rest : (match seqOf μ3 p with | some (t, xs) => q (if t then .tup (cutP xs l u) else .lst (cutP xs l u)) μ3 | none => False) → (rSlL X.K v l u H3 Q ∨ rSlA X.K v l u H3 Q ∨ rSlS v l u H3 Q) := fun h => by
      cases e : seqOf μ3 p with
      | none => simp only [e] at h
      | some z =>
        obtain ⟨t, xs⟩ := z
        simp only [e] at h
        obtain ⟨a, vs, rfl, rs, hh⟩ := seq_ok o rp e
        rcases hh with ⟨rfl, hh⟩ | ⟨rfl, hh⟩
        · refine .inl ⟨a, vs, rfl, .inl (.inl hh), fun y hy => ?_⟩
          have gn := o.new1 (u := .lst (cutV vs l u)) hy
          exact gv _ _ _ _ _ h (g.trans gn) (rep_lst upd_same ((cutP_rep rs l u).mono gn.gx))
        · have := seq_t e
          subst this
          refine .inr (.inl ⟨a, vs, rfl, hh, fun hw => ?_, fun hw y hy => ?_⟩)
          · rw [rs.length] at hw
            have h : q (.tup (cutP xs l u)) μ3 := h
            rw [sIx_whole hw] at h
            exact gv _ _ _ _ _ h g rp
          · have gn := o.new1 (u := .tup (cutV vs l u)) hy
            exact gv _ _ _ _ _ h (g.trans gn) (rep_tup (.inl (.inl upd_same)) ((cutP_rep rs l u).mono gn.gx))
    cases p with
    | str z => exact .inr (.inr ⟨z, rp.str_inv, h3.1, gv _ _ _ _ _ h3.2 g (rep_str _)⟩)
    | _ => exact rest h3, gx.go (g1.trans g2)⟩, gx.go g1⟩, gx⟩

/-! ## x in xs -/
def eqF : PV → PV → Bool
  | .non, .non => true
  | .bl a, .bl b => a == b
  | .bl a, .int b => (if a then 1 else 0) == b
  | .int a, .bl b => a == (if b then 1 else 0)
  | .int a, .int b => a == b
  | .str a, .str b => a == b
  | _, _ => false
def flatP : PV → Bool
  | .non => true | .bl _ => true | .int _ => true | .str _ => true
  | _ => false
def inP (x : PV) (xs : List PV) : Bool := xs.any fun y => eqF y x
theorem flat_ok {K : Frg} {B : BX} {G : Hp} {p : PV} {v : V} (r : Rep K B G p v) (h : flatP p = true) : flatV v = true := by
  cases p <;> simp only [flatP, Bool.false_eq_true] at h
  · rw [r.non_inv]; rfl
  · rw [r.bl_inv]; rfl
  · rw [r.int_inv]; rfl
  · rw [r.str_inv]; rfl
theorem eqF_ok {K : Frg} {B : BX} {G : Hp} {p s : PV} {v u : V} (r : Rep K B G p v) (r2 : Rep K B G s u) (h : flatP p = true) (h2 : flatP s = true) : eqV v u = eqF p s := by
  cases p <;> simp only [flatP, Bool.false_eq_true] at h <;> cases s <;> simp only [flatP, Bool.false_eq_true] at h2 <;>
    (first | rw [r.non_inv] | rw [r.bl_inv] | rw [r.int_inv] | rw [r.str_inv]) <;> (first | rw [r2.non_inv] | rw [r2.bl_inv] | rw [r2.int_inv] | rw [r2.str_inv]) <;> rfl
theorem in_ok {K : Frg} {B : BX} {G : Hp} {p : PV} {v : V} (r : Rep K B G p v) (h : flatP p = true) : ∀ {xs : List PV} {vs : List V}, Reps K B G xs vs → xs.all flatP = true → vs.all flatV = true ∧ inV v vs = inP p xs
  | [], vs, rs, _ => by rw [rs.nil_inv]; exact ⟨rfl, rfl⟩
  | x :: xs, vs, rs, ha => by
    obtain ⟨u, ws, rfl, r1, r2⟩ := rs.cons_inv
    simp only [List.all_cons, Bool.and_eq_true] at ha
    obtain ⟨i1, i2⟩ := in_ok r h r2 ha.2
    refine ⟨by simp only [List.all_cons, flat_ok r1 ha.1, i1, Bool.and_self], ?_⟩
    unfold inV inP at i2 ⊢
    rw [List.any_cons, List.any_cons, i2, eqF_ok r1 r ha.1 h]
def sgn (neg b : Bool) : Bool := match neg with
  | true => !b
  | false => b
def inF (neg : Bool) : F2 := fun μ x s q => match s with
  | .str z => (match x with
    | .str y => (match y.cps.toList with
      | [c] => q (.bl (sgn neg (decide (c ∈ z.cps.toList))))
      | _ => False)
    | _ => False)
  | s => (match seqOf μ s with
    | some (_, xs) => flatP x = true ∧ xs.all flatP = true ∧ q (.bl (sgn neg (inP x xs)))
    | none => False)
theorem pop_in {K : Frg} {neg : Bool} : POp K (rIn K neg) (fun μ x s q => ∃ t xs, seqOf μ s = some (t, xs) ∧ flatP x = true ∧ xs.all flatP = true ∧ q (.bl (sgn neg (inP x xs)))) := fun B μ G H a b va vb q Q o ra rb ⟨t, xs, e, h1, h2, hq⟩ gv => by
  obtain ⟨p, vs, rfl, rs, hh⟩ := seq_ok o rb e
  obtain ⟨i1, i2⟩ := in_ok ra h1 rs h2
  refine ⟨p, vs, rfl, ?_, flat_ok ra h1, i1, ?_⟩
  · rcases hh with ⟨_, hh⟩ | ⟨_, hh⟩
    · exact .inl (.inl (.inl hh))
    · exact .inr hh
  · rw [i2]
    cases neg <;> exact gv _ _ _ _ hq (.refl o) (rep_bl _)
theorem inF_inv {neg : Bool} {μ : Mu} {x s : PV} {q : PV → Prop} (h : inF neg μ x s q) : (∃ (c : Nat) (z : Str), x = .str ⟨#[c]⟩ ∧ s = .str z ∧ q (.bl (sgn neg (decide (c ∈ z.cps.toList))))) ∨ ∃ t xs, seqOf μ s = some (t, xs) ∧ flatP x = true ∧ xs.all flatP = true ∧ q (.bl (sgn neg (inP x xs))) := by
  have rest : (match seqOf μ s with | some (_, xs) => flatP x = true ∧ xs.all flatP = true ∧ q (.bl (sgn neg (inP x xs))) | none => False) → ∃ t xs, seqOf μ s = some (t, xs) ∧ flatP x = true ∧ xs.all flatP = true ∧ q (.bl (sgn neg (inP x xs))) := fun h => by
    cases e : seqOf μ s with
    | none => simp only [e] at h
    | some z =>
      obtain ⟨t, xs⟩ := z
      simp only [e] at h
      exact ⟨t, xs, rfl, h⟩
  cases s with
  | str z =>
    refine .inl ?_
    cases x with
    | str y =>
      have h : (match y.cps.toList with | [c] => q (.bl (sgn neg (decide (c ∈ z.cps.toList)))) | _ => False) := h
      split at h
      · rename_i c e
        obtain ⟨arr⟩ := y
        have : arr = #[c] := by
          have e : arr.toList = [c] := e
          calc arr = arr.toList.toArray := by simp
            _ = #[c] := by rw [e]
        subst this
        exact ⟨c, z, rfl, rfl, h⟩
      · exact h.elim
    | _ => exact h.elim
  | _ => exact .inr (rest h)
theorem pop_sign {K : Frg} : POp K (fun x y H Q => ∃ (c : Nat) (z : Str), x = .str ⟨#[c]⟩ ∧ y = .str z ∧ Q (.bl (decide (c ∈ z.cps.toList))) H) (fun μ x s q => ∃ (c : Nat) (z : Str), x = .str ⟨#[c]⟩ ∧ s = .str z ∧ q (.bl (sgn false (decide (c ∈ z.cps.toList))))) := fun B μ G H a b va vb q Q o ra rb ⟨c, z, e1, e2, hq⟩ gv => by
  subst e1 e2
  exact ⟨c, z, ra.str_inv, rb.str_inv, gv _ _ _ _ hq (.refl o) (rep_bl _)⟩
theorem pop_nsign {K : Frg} : POp K (fun x y H Q => ∃ (c : Nat) (z : Str), x = .str ⟨#[c]⟩ ∧ y = .str z ∧ Q (.bl (!decide (c ∈ z.cps.toList))) H) (fun μ x s q => ∃ (c : Nat) (z : Str), x = .str ⟨#[c]⟩ ∧ s = .str z ∧ q (.bl (sgn true (decide (c ∈ z.cps.toList))))) := fun B μ G H a b va vb q Q o ra rb ⟨c, z, e1, e2, hq⟩ gv => by
  subst e1 e2
  exact ⟨c, z, ra.str_inv, rb.str_inv, gv _ _ _ _ hq (.refl o) (rep_bl _)⟩
theorem oj_in : OpJ X W (compareOp .In) (fo (inF false)) := OpJ.or (OpJ.of op_in_sign pop_sign) (OpJ.of op_in_seq pop_in) fun a b μ q x h => inF_inv h
theorem oj_notin : OpJ X W (compareOp .NotIn) (fo (inF true)) := OpJ.or (OpJ.of op_notIn_sign pop_nsign) (OpJ.of op_notIn_seq pop_in) fun a b μ q x h => inF_inv h

/-! ## is None, is True, is False -/
def isNone : PV → Bool
  | .non => true
  | _ => false
theorem isNone_ok {K : Frg} {B : BX} {G : Hp} {a : PV} {va : V} (ra : Rep K B G a va) : decide (va = .non) = isNone a := by
  cases a with
  | non => rw [ra.non_inv]; rfl
  | bl b => rw [ra.bl_inv]; rfl
  | int b => rw [ra.int_inv]; rfl
  | str b => rw [ra.str_inv]; rfl
  | tup xs => obtain ⟨p, vs, rfl, _⟩ := ra.tup_inv; rfl
  | lst xs => obtain ⟨p, vs, rfl, _⟩ := ra.lst_inv; rfl
  | obj c xs => obtain ⟨p, dx, vs, rfl, _⟩ := ra.obj_inv; rfl
  | cls c => rw [ra.cls_inv]; rfl
  | ty c => rw [ra.ty_inv]; rfl
  | box => obtain ⟨p, _, _, rfl⟩ := ra.box_inv; rfl
  | exc p d c xs => obtain ⟨rfl, _⟩ := ra.exc_inv; rfl
  | cell p => rw [ra.cell_inv]; rfl
  | dK ks xs => obtain ⟨p, vs, rfl, _⟩ := ra.dK_inv; rfl
  | dT ks xs => obtain ⟨p, vs, rfl, _⟩ := ra.dT_inv; rfl
def isP (neg : Bool) : F2 := fun _ a b q => match b with
  | .non => q (.bl (sgn neg (isNone a)))
  | .bl j => (match a with
    | .bl i => q (.bl (sgn neg (decide (i = j))))
    | _ => False)
  | _ => False
theorem op_isB : OpR X (compareOp .Is) (fun x y H Q => ∃ i j : Bool, x = .bl i ∧ y = .bl j ∧ Q (.bl (decide (i = j))) H) := by
  intro pins s σ H x y v u Q I rx ry h
  obtain ⟨i, j, rfl, rfl, q⟩ := h
  cases rx
  cases ry
  cases i <;> cases j <;> exact wpAny_pure (fin_bl I q (by decide))
theorem op_isnotB : OpR X (compareOp .IsNot) (fun x y H Q => ∃ i j : Bool, x = .bl i ∧ y = .bl j ∧ Q (.bl (!decide (i = j))) H) := by
  intro pins s σ H x y v u Q I rx ry h
  obtain ⟨i, j, rfl, rfl, q⟩ := h
  cases rx
  cases ry
  cases i <;> cases j <;> exact wpAny_pure (fin_bl I q (by decide))
theorem pop_isB {K : Frg} : POp K (fun x y H Q => ∃ i j : Bool, x = .bl i ∧ y = .bl j ∧ Q (.bl (decide (i = j))) H) (fun μ a b q => ∃ i j, a = .bl i ∧ b = .bl j ∧ q (.bl (decide (i = j)))) := fun B μ G H a b va vb q Q o ra rb ⟨i, j, e1, e2, h⟩ gv => by
  subst e1 e2
  exact ⟨_, _, ra.bl_inv, rb.bl_inv, gv _ _ _ _ h (.refl o) (rep_bl _)⟩
theorem pop_isnotB {K : Frg} : POp K (fun x y H Q => ∃ i j : Bool, x = .bl i ∧ y = .bl j ∧ Q (.bl (!decide (i = j))) H) (fun μ a b q => ∃ i j, a = .bl i ∧ b = .bl j ∧ q (.bl (!decide (i = j)))) := fun B μ G H a b va vb q Q o ra rb ⟨i, j, e1, e2, h⟩ gv => by
  subst e1 e2
  exact ⟨_, _, ra.bl_inv, rb.bl_inv, gv _ _ _ _ h (.refl o) (rep_bl _)⟩
theorem pop_isN {K : Frg} : POp K (fun x y H Q => y = .non ∧ Q (.bl (decide (x = .non))) H) (fun μ a b q => b = .non ∧ q (.bl (isNone a))) := fun B μ G H a b va vb q Q o ra rb ⟨e, hq⟩ gv => by
  subst e
  exact ⟨rb.non_inv, by rw [isNone_ok ra]; exact gv _ _ _ _ hq (.refl o) (rep_bl _)⟩
theorem pop_notN {K : Frg} : POp K (fun x y H Q => y = .non ∧ Q (.bl (!decide (x = .non))) H) (fun μ a b q => b = .non ∧ q (.bl (!isNone a))) := fun B μ G H a b va vb q Q o ra rb ⟨e, hq⟩ gv => by
  subst e
  exact ⟨rb.non_inv, by rw [isNone_ok ra]; exact gv _ _ _ _ hq (.refl o) (rep_bl _)⟩
theorem oj_is : OpJ X W (compareOp .Is) (fo (isP false)) := OpJ.or (OpJ.of op_isN pop_isN) (OpJ.of op_isB pop_isB) fun a b μ q x h => by
  cases b with
  | non => exact .inl ⟨rfl, h⟩
  | bl j => cases a <;> first | exact h.elim | exact .inr ⟨_, _, rfl, rfl, h⟩
  | _ => exact h.elim
theorem oj_isnot : OpJ X W (compareOp .IsNot) (fo (isP true)) := OpJ.or (OpJ.of op_notN pop_notN) (OpJ.of op_isnotB pop_isnotB) fun a b μ q x h => by
  cases b with
  | non => exact .inl ⟨rfl, h⟩
  | bl j => cases a <;> first | exact h.elim | exact .inr ⟨_, _, rfl, rfl, h⟩
  | _ => exact h.elim
/-! ## list(..) -/
def lList (d : DE) : DL := fun ρ μ q x => d ρ μ (fun p μ1 => match seqOf μ1 p with
  | some (_, xs) => q xs μ1
  | none => False) x
theorem l_list (hm : X.mg "list" = none) (he : EJ X W e da) (hg : Gl X "list" := by rfl) (h3 : starEach [e] X.env = (false, eval e X.env) :: starEach [] X.env := by rfl) (h4 : (backTo pos (starEach [] X.env)).any (·.1) = false := by rfl) : LJ X W (.Call (.Name "list" p0) [e] [] pos) (lList da) :=
  pe_imp (pe_callTy (call_list_of) hg hm (by decide +kernel) (pa_cons he pa_nil h3) (by decide) (by decide) h3 h4) fun σ H Q ⟨B, ρ, μ, G, q, x, R, h, gv, gx⟩ =>
  ⟨B, ρ, μ, G, _, x, R, h, fun p v μ1 G1 H1 h1 g1 r1 => by
    cases e : seqOf μ1 p with
    | none => simp only [e] at h1
    | some z =>
      obtain ⟨t, xs⟩ := z
      simp only [e] at h1
      obtain ⟨a, vs, rfl, rs, hh⟩ := seq_ok g1.ok r1 e
      refine ⟨a, vs, rfl, ?_, fun l hl => ?_⟩
      · rcases hh with ⟨_, hh⟩ | ⟨_, hh⟩
        · exact .inl (.inl (.inl hh))
        · exact .inr hh
      · have gn := g1.ok.new2 (u := .lst vs) hl
        exact gv xs l vs μ1 G1 _ h1 (g1.trans gn) (g1.st.dom l hl) (g1.ok.sub.free hl) (g1.ok.freeM hl) upd_same rs, gx⟩
/-! ## == of plain values -/
def eqS : PV → PV → Option Bool
  | .int i, .int j => some (decide (i = j))
  | .str i, .str j => some (decide (i = j))
  | .bl i, .bl j => some (decide (i = j))
  | .non, .non => some true
  | .non, .str _ => some false
  | .str _, .non => some false
  | .non, .int _ => some false
  | .int _, .non => some false
  | .str _, .int _ => some false
  | .int _, .str _ => some false
  | _, _ => none
def eqSP (neg : Bool) : F2 := fun _ a b q => match eqS a b with
  | some k => q (.bl (sgn neg k))
  | none => False
theorem eqS_ok {K : Frg} {B : BX} {G : Hp} {a b : PV} {va vb : V} {k : Bool} (h : eqS a b = some k) (ra : Rep K B G a va) (rb : Rep K B G b vb) : scal va vb = true ∧ decide (va = vb) = k := by
  cases a <;> cases b <;> simp only [eqS] at h <;> try contradiction
  all_goals (first | rw [ra.non_inv] | rw [ra.bl_inv] | rw [ra.int_inv] | rw [ra.str_inv]) <;> (first | rw [rb.non_inv] | rw [rb.bl_inv] | rw [rb.int_inv] | rw [rb.str_inv]) <;> cases h <;> exact ⟨rfl, by simp⟩
theorem eqSP_inv {neg : Bool} {μ : Mu} {a b : PV} {q : PV → Prop} (h : eqSP neg μ a b q) : ∃ k, eqS a b = some k ∧ q (.bl (sgn neg k)) := by
  unfold eqSP at h
  cases e : eqS a b with
  | none => simp only [e] at h
  | some k => simp only [e] at h; exact ⟨k, rfl, h⟩
theorem pop_eqS {K : Frg} : POp K rEq (eqSP false) := fun B μ G H a b va vb q Q o ra rb h gv => by
  obtain ⟨k, e, hq⟩ := eqSP_inv h
  obtain ⟨e1, e2⟩ := eqS_ok e ra rb
  exact ⟨e1, by rw [e2]; exact gv _ _ _ _ hq (.refl o) (rep_bl _)⟩
theorem pop_neS {K : Frg} : POp K rNe (eqSP true) := fun B μ G H a b va vb q Q o ra rb h gv => by
  obtain ⟨k, e, hq⟩ := eqSP_inv h
  obtain ⟨e1, e2⟩ := eqS_ok e ra rb
  exact ⟨e1, by rw [e2]; exact gv _ _ _ _ hq (.refl o) (rep_bl _)⟩
theorem oj_eqS : OpJ X W (compareOp .Eq) (fo (eqSP false)) := .of op_eq pop_eqS
theorem oj_neS : OpJ X W (compareOp .NotEq) (fo (eqSP true)) := .of op_ne pop_neS
end
end Px

/-! # the package's own errors: __init__ says super().__init__('..') and stores one field -/
namespace Px
open PySem PySem.Spec PyProof.Rows L2
open PySem.W (findIn typeIn keepIn subIn clsIn nsIn codeIn alongIn fnX envX)
def eArgs (f : Str) (p1 p2 : Pos) : Arguments := { posonlyargs := [], args := [⟨"self", none, p1⟩, ⟨f, none, p2⟩], vararg := none, kwonlyargs := [], kw_defaults := [], kwarg := none, defaults := [] }
def eBody (f msg : Str) (j : Nat) (p1 p2 p3 p4 p5 p6 q1 q2 q3 q4 : Pos) : List Stmt :=
  [.Expr (.Call (.Attribute (.Call (.Name "super" p1) [] [] p2) "__init__" p3) [.Constant (.str msg) j p4] [] p5) p6, .Assign [.Attribute (.Name "self" q1) f q2] (.Name f q3) q4]
def eScope (f : Str) : Scope := { kind := .function, names := [("self", .local), (f, .local), ("__class__", .free), ("super", .globalImplicit)], isGenerator := false, isCoroutine := false, more := [] }
/-- the call's node: a method's call, its line known -/
def MCall (msg : Str) (j : Nat) (p1 p2 p3 p4 p5 : Pos) (env : Env) : Prop := ∃ pl : Sem Bool, eval (.Call (.Attribute (.Call (.Name "super" p1) [] [] p2) "__init__" p3) [.Constant (.str msg) j p4] [] p5) env = (do
  let ov ← attributeBase (.Call (.Name "super" p1) [] [] p2) "__init__" env (eval (.Call (.Name "super" p1) [] [] p2) env)
  standAt p3.atName
  let (g, first) ← holding [ov] (getMethod ov "__init__" pl)
  callWith p5 g first (backTo p5 (starEach [.Constant (.str msg) j p4] env)) [])
/-- what the written part says of such a class at C, its __init__ at fI -/
structure ErrF (P : Program) (K : Frg) (C fI : Addr) (f : Str) : Prop where
  new : PySem.W.excInitIn K C He.veBase "ValueError.__new__" = true
  cd : ∃ cd, clsIn K C = some cd ∧ cd.hasDict = true ∧ HandSPX.refsVE cd.mro = true ∧ alongIn K "__init__" ((cd.mro.dropWhile (· != .ref C)).drop 1) = some (some (.builtin "ValueError.__init__"))
  sa : findIn K (.ref C) "__setattr__" = some (some (.builtin "object.__setattr__"))
  no : findIn K (.ref C) f = some none
  iC : findIn K (.ref C) "__init__" = some (some (.ref fI))
  tI : typeIn K (.ref fI) = some (.type "function")
  kC : keepIn K (.ref C) = true
  ex : subIn K (.ref C) (.type "BaseException") = some true
  ty : typeIn K (.ref C) = some (.type "type")
  ve : subIn K (.ref C) (.type "ValueError") = some true
  me : subIn K (.ref C) (.ref C) = some true
  op : nsIn K cStatics "thirdparty.any" = some none
  fn : ∃ (oc : Value) (od : Option Addr) (qual msg : Str) (j : Nat) (dV kV doc pm : Value) (an : Option Addr) (cda cc : Addr) (ct : Value) (osl : Array (Option Value)) (a1 a2 p1 p2 p3 p4 p5 p6 q1 q2 q3 q4 : Pos) (o2 o3 : Obj) (vs : Array Value) (file : Str) (tf : Tok),
    K.lookup fI = some ⟨oc, od, .func (fnX "__init__" qual (eArgs f a1 a2) (eBody f msg j p1 p2 p3 p4 p5 p6 q1 q2 q3 q4) (eScope f) [("__class__", cc)] dV kV doc pm an (.ref cda) ct), osl⟩ ∧ codeIn K (.ref cda) qual = true ∧
      K.lookup cc = some o2 ∧ o2.data = .cell (some (.ref C)) ∧ K.lookup cda = some o3 ∧ o3.data = .fields vs ∧ vs[2]? = some (.str file tf) ∧ (P.main.file == file) = true ∧
      (∀ u v : Value, bindArgs (fnX "__init__" qual (eArgs f a1 a2) (eBody f msg j p1 p2 p3 p4 p5 p6 q1 q2 q3 q4) (eScope f) [("__class__", cc)] dV kV doc pm an (.ref cda) ct) ⟨[u, v], []⟩ = pure ([("self", u), (f, v)] : List (Str × Value))) ∧ ∀ env : Env, MCall msg j p1 p2 p3 p4 p5 env
  sup : (P.main.scope.names.lookup ("super" : Str)).isSome = false
  nf : f ≠ "self" ∧ f ≠ "super" ∧ f ≠ "__class__" ∧ f ≠ "__debug__"
theorem one_sz (v : Value) : [v].length ≤ sizeLine := by rw [sizeLine_eq]; exact (by decide : 1 ≤ 16777216)
theorem kept1 {K : Frg} {h h' : Heap} {x : Addr} (X : K.In h) (hx : K.lookup x = none) (k : ∀ b o, b ≠ x → h.get? b = some o → h'.get? b = some o) : K.In h' := fun a o e => k a o (fun z => by rw [z, hx] at e; cases e) (X a o e)
/-- what __init__ leaves of a fresh error at x -/
structure EEnd (f : Str) (h h' : Heap) (x C dx t1 : Addr) (v : Value) : Prop where
  keep : ∀ b o, b ≠ x → h.get? b = some o → h'.get? b = some o
  obj : h'.get? x = some { cls := .ref C, dict := some dx, data := .fields #[.ref t1, .none, .none, .none, .bool false, .none] }
  dbig : h.objs.size ≤ dx
  dne : dx ≠ x
  ns : h'.Ns1 dx (fun y => if y = f then some v else none)
section
variable {P : Program} {w : World} {A : Around} {R : Result → Shared → Prop} {s : Shared} {K : Frg} {C fI : Addr} {f : Str} {mg : Str → Option Value}
/-- super().__init__(msg), the wrapper called -/
theorem bw_call {E : Value → Shared → Prop} {Q : Value → Shared → Prop} (T : ErrF P K C fI f) (X : K.In s.heap) {u x t0 : Addr} {rest : List Value} (hu : s.heap.get? u = some (PySem.W.kxs_mw "ValueError.__init__" x)) (hx : s.heap.get? x = some (HandSPX.excO C t0)) (hz : rest.length ≤ sizeLine)
    (hq : ∀ h' t1, (∀ b o, b ≠ x → s.heap.get? b = some o → h'.get? b = some o) → h'.get? x = some (HandSPX.excO C t1) → Q .none { s with heap := h' }) : wpAny (model P w) A (call (.ref u) rest) Q E s := by
  obtain ⟨nm, N', qn, bs, bm, hdct, sn, sub, ab, col, dd, k0, k1, k2, k3, k5, hC, hT⟩ := PySem.W.excInit_of X T.new
  obtain ⟨hh, g, d, tk, os⟩ := s
  refine wpAny_call (codeAny_of_tree ?_)
  show wpAny _ A.in1 (callAny (.ref u) ⟨rest, []⟩) _ _ _
  simp only [callAny]
  refine wpAny_bind (wpAny_load hu ?_)
  simp only [PySem.W.kxs_mw, show (Value.type "method-wrapper" == Value.type "method" || Value.type "method-wrapper" == Value.type "builtin_function_or_method" || Value.type "method-wrapper" == Value.type "method-wrapper") = true by decide, if_true]
  refine PySem.W.KFB.if_so (by decide) ?_
  refine wpAny_bind (PySem.W.check_bound_init PySem.F.excBase_ValueError.toExcCallFacts hC hx rfl ?_)
  refine wpAny_bind (wpAny_pure (wpAny_pure ⟨Code.quiet_builtin _ (by decide +kernel), codeAny_builtin PySem.F.excBase_ValueError.initEntry ?_⟩))
  refine PySem.W.exc_init_tree (cls := .ref C) (t0 := t0) (dv := none) (c2 := .none) (c3 := .none) (b4 := .bool false) hx hz fun h' k e' _ => hq h' _ k e'
theorem err_init (T : ErrF P K C fI f) {mb : Str → Option Value} {x t0 : Addr} {v : Value} (X : K.In s.heap) (hlim : s.heap.NoLimit) (hg : s.heap.Ns mainGlobals mg) (hb : s.heap.Ns builtinsNs mb) (hsu : mg "super" = none) (hbs : mb "super" = some (.type "super"))
    (hx : s.heap.get? x = some (HandSPX.excO C t0)) (hnx : K.lookup x = none) (hxg : x ≠ mainGlobals) (hroom : A.depth < recursionLimit) (hq : ∀ h' tk dx t1, EEnd f s.heap h' x C dx t1 v → R (.ok (.ret .none)) { s with heap := h', toks := tk }) :
    codeAny (model P w) A (.call (.ref fI) ⟨[.ref x, v], []⟩) R s := by
  obtain ⟨oc, od, qual, msg, j, dV, kV, doc, pm, an, cda, cc, ct, osl, a1, a2, p1, p2, p3, p4, p5, p6, q1, q2, q3, q4, o2, o3, vs, file, tf, ho, hcd, hcc, hcell, hcda, hfl, hvs, hfile, hbd, hmc⟩ := T.fn
  obtain ⟨cdd, hcdd, hdict, hmro, halong⟩ := T.cd
  obtain ⟨n1, n2, n3, n4⟩ := T.nf
  have sf : ("self" : Str) ≠ f := fun z => n1 z.symm
  have hself : (eScope f).names.lookup ("self" : Str) = some .local := rfl
  have hfl' : (eScope f).names.lookup f = some .local := by
    show (match f == "self" with | true => some NameKind.local | false => ([(f, NameKind.local), ("__class__", .free), ("super", .globalImplicit)] : List (Str × NameKind)).lookup f) = _
    have : (f == ("self" : Str)) = false := by simpa using n1
    rw [this]
    simp [List.lookup]
  have hcls : (eScope f).names.lookup ("__class__" : Str) = some .free := by
    have h1 : (("__class__" : Str) == f) = false := by simpa using fun z => n3 z.symm
    show ([("self", NameKind.local), (f, .local), ("__class__", .free), ("super", .globalImplicit)] : List (Str × NameKind)).lookup ("__class__" : Str) = _
    have h2 : (("__class__" : Str) == ("self" : Str)) = false := by decide
    simp only [List.lookup, h1, h2]
    rfl
  have hsup : (eScope f).names.lookup ("super" : Str) = some .globalImplicit := by
    have h1 : (("super" : Str) == f) = false := by simpa using fun z => n2 z.symm
    show ([("self", NameKind.local), (f, .local), ("__class__", .free), ("super", .globalImplicit)] : List (Str × NameKind)).lookup ("super" : Str) = _
    have h2 : (("super" : Str) == ("self" : Str)) = false := by decide
    have h3 : (("super" : Str) == ("__class__" : Str)) = false := by decide
    simp only [List.lookup, h1, h2, h3]
    rfl
  refine ks_codeAny_call_defAt (binds := [("self", .ref x), (f, v)]) hroom (X _ _ ho) rfl hlim (PySem.W.codeRec_of X hcd) rfl (BindsTo.of_eq ?_) ?_ ?_ (fun h0 hns k0 => ?_)
  · exact hbd _ _
  · intro y hy
    have hy : y ∈ ([("self", NameKind.local), (f, .local), ("__class__", .free), ("super", .globalImplicit)] : List (Str × NameKind)) := hy
    simp only [List.mem_cons, List.not_mem_nil, or_false] at hy
    rcases hy with rfl | rfl | rfl | rfl <;> exact fun z => nomatch z
  · intro y hy
    have hy : y ∈ ([("self", Value.ref x), (f, v)] : List (Str × Value)) := hy
    simp only [List.mem_cons, List.not_mem_nil, or_false] at hy
    rcases hy with rfl | rfl
    · exact hself
    · exact hfl'
  · have e0 : callEnv (fnX "__init__" qual (eArgs f a1 a2) (eBody f msg j p1 p2 p3 p4 p5 p6 q1 q2 q3 q4) (eScope f) [("__class__", cc)] dV kV doc pm an (.ref cda) ct) s.heap.objs.size fI = envX qual (eScope f) s.heap.objs.size fI (.ref cda) [("__class__", cc)] := rfl
    rw [e0]
    have X0 : K.In h0 := X.keeps k0
    have hx0 := k0 _ _ hx
    have lself : ([("self", Value.ref x), (f, v)] : List (Str × Value)).reverse.lookup ("self" : Str) = some (.ref x) := by
      show ([(f, v), ("self", Value.ref x)] : List (Str × Value)).lookup ("self" : Str) = _
      have h1 : (("self" : Str) == f) = false := by simpa using sf
      simp only [List.lookup, h1]
      rfl
    have lf : ([("self", Value.ref x), (f, v)] : List (Str × Value)).reverse.lookup f = some v := by
      show ([(f, v), ("self", Value.ref x)] : List (Str × Value)).lookup f = _
      simp [List.lookup]
    obtain ⟨nm, N', qn, bs, bm, hdct, sn, sub, ab, col, dd, kk0, kk1, kk2, kk3, kk5, hC, hT⟩ := PySem.W.excInit_of X0 T.new
    have hI0 : PySem.W.InstAt h0 x (HandSPX.excO C t0) C none := ⟨hx0, rfl, rfl, trivial⟩
    obtain ⟨pl, hev⟩ := hmc (envX qual (eScope f) s.heap.objs.size fI (.ref cda) [("__class__", cc)])
    refine ks_wpAt_execs_cons (ks_wpAt_Expr_any (ks_wpAt_MethodCall (pl := pl) ?_ hev) rfl rfl)
    · refine ks_wpAt_super_base (f := fI) (cc := cda) hsup hcls (by decide) rfl (X0 _ _ ho) rfl rfl rfl (X0 _ _ hcda) hfl hvs hfile T.sup ?_
      refine PySem.W.ks_loadName_global rfl hsup (Calls.loadGlobal_builtin (hg.keeps k0) hsu (hb.keeps k0) hbs ⟨rfl, ?_⟩)
      refine wpAny_loadName_free rfl hcls (by simp [List.lookup]) ⟨o2, X0 _ _ hcc, hcell⟩ ?_
      refine wpAny_loadName_local rfl hself hns lself ?_
      refine ks_wpAny_isType_cls hC rfl ⟨rfl, ?_⟩
      refine ks_wpAny_call_super hC rfl hx0 rfl (fun c z => nomatch z) (PySem.W.looks_subIn X0 T.me) fun h1 hso k1 => ?_
      have X1 : K.In h1 := X0.keeps k1
      have hx1 := k1 _ _ hx0
      have I1 : PySem.W.InstAt h1 x (HandSPX.excO C t0) C none := ⟨hx1, rfl, rfl, trivial⟩
      have hne : x ≠ C := PySem.W.ks_ne X1 I1 hcdd
      refine PySem.W.kxs_getMethod PySem.W.kxs_ValueError hso (PySem.W.looks_opaque X1 T.op) (l₀ := cdd.mro) ((PySem.W.looks_clsIn X1 hcdd).andThen .now) rfl X1 halong (I1.type.andThen (PySem.W.looks_subIn X1 T.ve)) hne (by decide) ?_
      have k2 : ∀ b o, h1.get? b = some o → (h1.push (PySem.W.kxs_mw "ValueError.__init__" x)).get? b = some o := fun b o e => Heap.get?_push_of_some _ e
      have hu2 : (h1.push (PySem.W.kxs_mw "ValueError.__init__" x)).get? h1.objs.size = some (PySem.W.kxs_mw "ValueError.__init__" x) := Heap.get?_push_at rfl rfl
      refine PySem.W.kxs_callWith (i := "ValueError.__init__") (x := x) rfl (Calls.evalArgs_plain (Calls.spliced_cons (Calls.Constant_str (k := j) (pos := p4) (Calls.spliced_nil ⟨hu2, ?_⟩))))
      refine bw_call (t0 := t0) T (X1.keeps k2) hu2 (k2 _ _ hx1) (one_sz _) fun h3 t1 k3 hx3 => ?_
      have hnot : ∀ b o, h0.get? b = some o → b ≠ x → h3.get? b = some o := fun b o e hb => k3 b o hb (k2 b o (k1 b o e))
      have X3 : K.In h3 := kept1 (X1.keeps k2) hnx k3
      obtain ⟨oL, es, ep, hL, rL⟩ := hns
      have hxL : s.heap.objs.size ≠ x := Nat.ne_of_gt (Heap.lt_size hx)
      have hns3 : h3.Ns s.heap.objs.size (fun y => ([("self", Value.ref x), (f, v)] : List (Str × Value)).reverse.lookup y) := ⟨oL, es, ep, hnot _ _ hL hxL, rL⟩
      refine wpAt_of_wpAny (wpAny_execs_cons (plainObj_wpAny_Assign_Attribute ?_ rfl))
      refine wpAny_Name (wpAny_loadName_local rfl hfl' hns3 lf (wpAny_Name (wpAny_loadName_local rfl hself hns3 lself ?_) (by decide))) (by simpa using n4)
      refine PySem.W.set_plain X3 (ox := HandSPX.excO C t1) (od := none) ⟨hx3, rfl, rfl, trivial⟩ T.sa ?_
      refine HandSPX.exc_osa X3 hx3 hcdd hmro hdict T.no fun h4 tk4 dx k4 dn dne hx4 hn4 => ?_
      show wpAny _ _ (execs _ _) _ _ _
      refine wpAny_execs_nil (hq h4 tk4 dx t1 ⟨fun b o hb e => k4 b o hb (hnot b o (k0 b o e) hb), hx4, ?_, dne, hn4⟩)
      have z1 : s.heap.objs.size < h0.objs.size := Heap.lt_size hL
      have z2 : s.heap.objs.size < h3.objs.size := Heap.lt_size (hnot _ _ hL hxL)
      exact Nat.le_of_lt (Nat.lt_of_lt_of_le z2 dn)
/-- a made error -/
structure EMade (f : Str) (h h' : Heap) (e C d : Addr) (v : Value) : Prop where
  keep : ∀ b o, h.get? b = some o → h'.get? b = some o
  new : h.objs.size ≤ e
  obj : ∃ t1 : Addr, h'.get? e = some { cls := .ref C, dict := some d, data := .fields #[.ref t1, .none, .none, .none, .bool false, .none] }
  dbig : h.objs.size ≤ d
  dne : d ≠ e
  ns : h'.Ns1 d (fun y => if y = f then some v else none)
theorem err_made (T : ErrF P K C fI f) {mb : Str → Option Value} {v : Value} (X : K.In s.heap) (hlim : s.heap.NoLimit) (hg : s.heap.Ns mainGlobals mg) (hb : s.heap.Ns builtinsNs mb) (hsu : mg "super" = none) (hbs : mb "super" = some (.type "super")) (hroom : A.depth + 1 < recursionLimit)
    (hq : ∀ h' tk e d, EMade f s.heap h' e C d v → R (.ok (.ret (.ref e))) { s with heap := h', toks := tk }) : codeAny (model P w) A (.call (.ref C) ⟨[v], []⟩) R s := by
  obtain ⟨nm, N', qn, bs, bm, hdct, sn, sub, ab, col, dd, kk0, kk1, kk2, kk3, kk5, hC, hT⟩ := PySem.W.excInit_of X T.new
  obtain ⟨hp, g, dr, tk, os⟩ := s
  have k : ∀ b o, hp.get? b = some o → ((hp.push (PySem.W.kdv_tup [v])).push (HandSPX.excO C hp.objs.size)).get? b = some o := fun b o e => Heap.get?_push_of_some _ (Heap.get?_push_of_some _ e)
  have hget : ((hp.push (PySem.W.kdv_tup [v])).push (HandSPX.excO C hp.objs.size)).get? (hp.objs.size + 1) = some (HandSPX.excO C hp.objs.size) := by heap_get
  have hnx : K.lookup (hp.objs.size + 1) = none := by
    cases e : K.lookup (hp.objs.size + 1) with
    | none => rfl
    | some o => exact absurd (Nat.lt_of_succ_lt (Heap.lt_size (show hp.get? (hp.objs.size + 1) = some o from X _ _ e))) (Nat.lt_irrefl _)
  have hmg : hp.objs.size + 1 ≠ mainGlobals := fun z => by
    have := hg.lt
    rw [← z] at this
    exact absurd this (by show ¬ hp.objs.size + 1 < hp.objs.size; omega)
  refine HandSPX.call_own PySem.F.excBase_ValueError hT hC (PySem.W.looks_findIn X T.iC) (fun self => PySem.W.bind_fn X self T.tI) (one_sz v) ?_
  refine err_init (s := ⟨(hp.push (PySem.W.kdv_tup [v])).push (HandSPX.excO C hp.objs.size), g, dr, tk, os⟩) T (X.keeps k) (hlim.keeps k) (hg.keeps k) (hb.keeps k) hsu hbs hget hnx hmg ?_ fun h' tk' dx t1 z => ?_
  · show A.depth + 1 < recursionLimit
    exact hroom
  · have old : ∀ b o, hp.get? b = some o → h'.get? b = some o := fun b o e => z.keep b o (Nat.ne_of_lt (Nat.lt_succ_of_lt (Heap.lt_size e))) (k b o e)
    have zz : hp.objs.size + 1 + 1 ≤ dx := by
      have q := z.dbig
      simpa only [Heap.size_push] using q
    exact ⟨rfl, hq h' tk' (hp.objs.size + 1) dx ⟨old, Nat.le_succ _, ⟨t1, z.obj⟩, (by show hp.objs.size ≤ dx; omega), z.dne, z.ns⟩⟩
end

/-! ## raise X(e) -/
theorem relO_one {f : Str} {v : V} {u : Value} (r : RelV v u) (g : Str) : RelO (List.lookup g [(f, v)]) (if g = f then some u else none) := by
  by_cases h : g = f
  · subst h
    rw [if_pos rfl]
    have : List.lookup g [(g, v)] = some v := by simp [List.lookup]
    rw [this]; exact r
  · rw [if_neg h]
    have hb : (g == f) = false := by simpa using h
    have : List.lookup g [(f, v)] = none := by simp [List.lookup, hb]
    rw [this]; trivial
/-- a class of the package with one field -/
def tMkE (C : Addr) (f : Str) (ta : TA) : L2.St → Hp → XK → Prop := fun σ H Q => ta σ H fun vs H1 => ∃ v, vs = [v] ∧ ∀ d, H1 d = none → Q (.ref C) (some d) (upd H1 d (.xd [(f, v)]))
section
variable {X : Cx} {C fI : Addr} {f : Str}
theorem pmk_err {x : Str} {a : Expr} {ta : TA} {p pos : Pos} {k : Nat} (T : ErrF X.prog X.K C fI f) (hm : X.mg x = some (.ref C)) (hsu : X.mg "super" = none) (hr : L2H.RoomH k X.A) (ha : PA X [a] ta) (hg : Gl X x := by rfl) (hd : (x == ("__debug__" : Str)) = false := by decide)
    (he : starEach (a :: []) X.env = (false, eval a X.env) :: starEach [] X.env := by rfl) (hpl : (backTo pos (starEach [] X.env)).any (·.1) = false := by rfl) : L2N.PMk X (.Call (.Name x p) [a] [] pos) (tMkE C f ta) := by
  intro pins s σ H Q J h
  refine wpAny_Call_Name_kw (ld_glob J hg hm ?_ hd)
  refine PySem.W.callWith_K (h₀ := X.base) J.ok.mod.kin T.kC (thn (ha.run pos pins s σ H _ J h) fun us s1 hh => ?_) he hpl
  obtain ⟨vs, H1, J1, r1, v, ev, q1⟩ := hh
  subst ev
  refine ⟨J1.kIn, ?_⟩
  cases r1 with
  | cons rv rn =>
    rename_i v' us'
    cases rn
    show wpAny _ _ (call (.ref C) [v']) _ _ _
    have hlim := J1.nolimit
    obtain ⟨mb, hb1, hb2⟩ := J1.mod.blt
    have hgl := J1.mod.glob.keeps J1.bk
    have hbl := hb1.keeps J1.bk
    obtain ⟨hp, g, dr, tk, os⟩ := s1
    refine wpAny_call (err_made T J1.kIn hlim hgl hbl hsu ((hb2 _ (by decide)).trans (by decide +kernel)) (by have := hr.dp; omega) fun h' tk' e d M => ?_)
    show L2N.MkP X pins σ Q (.ref e) ⟨h', g, dr, tk', os⟩
    obtain ⟨t1, hoe⟩ := M.obj
    have hns := M.ns
    obtain ⟨G', g1, g2⟩ := restrict h' fun b => decide (b ≠ e)
    have gk : ∀ b, b ≠ e → G'.get? b = h'.get? b := fun b hb => g1 b (decide_eq_true hb)
    have ge : G'.get? e = none := g2 e (by simp)
    have old : ∀ b o, hp.get? b = some o → G'.get? b = some o := fun b o q => (gk b (Nat.ne_of_lt (Nat.lt_of_lt_of_le (Heap.lt_size q) M.new))).trans (M.keep b o q)
    have ob : ObjOk X.prog X.w (upd H1 d (.xd [(f, v)])) G' d (.xd [(f, v)]) := ⟨_, hns.at (fun o q => (gk d M.dne).trans q), fun y => relO_one rv y⟩
    have J2 : Inv X pins σ (upd H1 d (.xd [(f, v)])) ⟨G', g, dr, tk', os⟩ := J1.laid (t' := tk') old M.dbig ob
    refine ⟨e, _, _, ⟨G', g, dr, tk', os⟩, _, .ref C, some d, rfl, J2, fun b o q => ?_, ge, hoe, ⟨rfl, rfl, ?_⟩, rfl, rfl, ?_, rfl, J1.bare, raises_own T.ex T.ty, q1 d (J1.hok.fresh M.dbig)⟩
    · by_cases hb : b = e
      · have q' : G'.get? b = some o := q
        rw [hb, ge] at q'; cases q'
      · exact (gk b hb).symm.trans q
    · intro ws ews
      have ews : Data.fields #[.ref t1, .none, .none, .none, .bool false, .none] = .fields ws := ews
      cases ews
      rfl
    · rw [upd_ne (Ne.symm M.dne)]
      exact J1.hok.fresh M.new
end
/-- raise X(e): the error with its one field -/
def dRaise (c : Cl) (ds : DA) : DS := fun P ρ μ => ds ρ μ (fun ps μ1 => match ps with
  | [p] => P.xc (c, [p]) ρ μ1
  | _ => False) (fun xv μ1 => P.xc xv ρ μ1)
theorem s_raise {X : Cx} {W : WX} {c : Cl} {fI : Addr} {f : Str} {a : Expr} {ds : DA} {p pos pos' : Pos} {k : Nat} (hf : c.flds = [f]) (xc : xcB X.K c = true) (T : ErrF X.prog X.K (ca X.K c) fI f) (hm : X.mg c.name = some (.ref (ca X.K c))) (hsu : X.mg "super" = none) (hr : L2H.RoomH k X.A) (hc : X.calm = true) (tk : L2N.Takes X W) (ha : AJ X W [a] ds)
    (hg : Gl X c.name := by rfl) (hd : (c.name == ("__debug__" : Str)) = false := by decide) (he : starEach (a :: []) X.env = (false, eval a X.env) :: starEach [] X.env := by rfl) (hpl : (backTo pos (starEach [] X.env)).any (·.1) = false := by rfl) :
    SJ X W (.Raise (some (.Call (.Name c.name p) [a] [] pos)) none pos') (dRaise c ds) := ps_imp (L2N.ps_raise hc tk (pmk_err T hm hsu hr ha hg hd he hpl)) fun D σ H ⟨B, ρ, μ, G, P, R, h, eo⟩ =>
  ⟨B, ρ, μ, G, _, _, R, h, fun ps vs μ1 G1 H1 h0 g1 r1 => by
    match ps, h0 with
    | [p], h0 =>
      obtain ⟨v, ws, rfl, r, rn⟩ := r1.cons_inv
      rw [rn.nil_inv]
      refine ⟨v, rfl, fun d hd => ?_⟩
      have g2 := g1.ok.new1 (u := .xd [(f, v)]) hd
      have g := g1.trans g2
      exact eo.xc (c, [p]) (some d) ρ σ _ _ _ h0 (R.go g) g ⟨xc, .inr ⟨d, [v], rfl, by rw [hf]; exact upd_same, by rw [hf]; rfl, .cons (r.mono g2.gx) .nil⟩⟩, eo.gx R⟩
end Px

/-! # try: .. except X as e: .. -/
namespace Px
open PySem PySem.Spec PyProof.Rows L2
theorem xcB_xf {K : Frg} {c : Cl} (h : xcB K c = true) : XfC K (ca K c) := xfB_ok (He.ba h).1
theorem xcB_no {K : Frg} {c : Cl} {f : Str} (h : xcB K c = true) (hf : f ∈ c.flds) : PySem.W.findIn K (.ref (ca K c)) f = some none := of_decide_eq_true (List.all_eq_true.mp (He.ba h).2 f hf)
/-- where the error's dict is -/
def XD (c : Cl) (d : Option Addr) (dd : Addr) : Prop := (c.flds = [] ∧ d = none) ∨ d = some dd
/-- c0: the class that the clause names; i: the slot of its name; ds: the suite, by the error's address, dict, class -/
def dTry (c0 : Cl) (i : Nat) (db : DS) (ds : Addr → Addr → Cl → DS) : DS := fun P ρ μ => db { P with xc := fun xv ρ' μ' => br (subX xv.1 c0) (∀ a dd, ds a dd xv.1 { P with nx := fun r m => P.nx (r.set i none) m, bk := fun r m => P.bk (r.set i none) m, ct := fun r m => P.ct (r.set i none) m, xc := fun _ _ _ => False } (ρ'.set i (some (.exc a dd xv.1 xv.2))) μ') (P.xc xv ρ' μ') } ρ μ
theorem s_try {X : Cx} {W : WX} {c0 : Cl} {n : Str} {i : Nat} {body suite : List Stmt} {b0 : Stmt} {np pos pos' : Pos} {db : DS} {ds : Addr → Addr → Cl → DS} (ka : KA X.K) (hc0 : xcB X.K c0 = true) (hm : X.mg c0.name = some (.ref (ca X.K c0))) (nd : X.N.Nodup) (tk : L2N.Takes X W)
    (hb : ∀ (W' : WX) (pn : List (Addr × Obj)) (xe : Value → Shared → Prop), L2N.Takes (X.tr pn xe) W' → PassesOwn (model X.prog X.w) X.A X.env xe → BJ (X.tr pn xe) W' body db)
    (hs : ∀ (a : Addr) (oe : Obj) (d : Option Addr) (pn : List (Addr × Obj)) (c : Cl) (dd : Addr), xcB X.K c = true → subX c c0 = true → L2N.Zn (.ref (ca X.K c)) d oe → (∃ vs, oe.data = .fields vs) → XD c d dd → BJ (X.suite a ((a, oe) :: pn)) Wno (b0 :: suite) (ds a dd c))
    (hi : X.N[i]? = some n := by rfl) (hln : X.env.kindOf n = some .local := by rfl) (h1 : X.stack = X.env :: X.outer := by rfl) (h2 : X.env.frame = some X.env.locals := by rfl) (hg : Gl X c0.name := by rfl) (hd : (c0.name == ("__debug__" : Str)) = false := by decide) :
    SJ X W (.Try body [.ExceptHandler (some (.Name c0.name np)) (some n) (b0 :: suite) pos'] [] [] pos) (dTry c0 i db ds) := by
  refine ps_imp (L2N.ps_try_as (i := i) (tb := fun W' => tS X.K W' db) (ts := fun a cls d D σ H => ∃ c dd, xcB X.K c = true ∧ subX c c0 = true ∧ cls = .ref (ca X.K c) ∧ XD c d dd ∧ tS X.K Wno (ds a dd c) D σ H) (Wout := W) (c := .ref (ca X.K c0)) h1 h2 nd hi hln ⟨hg, hd, .inl hm⟩ tk hb (fun a oe cls d pn hz hf => ⟨fun pins s σ H D J ⟨c, dd, hc, hsb, e, hx, hh⟩ => ?_⟩)) fun D σ H ⟨B, ρ, μ, G, P, R, h, eo⟩ => ?_
  · subst e
    exact (hs a oe d pn c dd hc hsb hz hf hx).run pins s σ H D J hh
  · refine ⟨B, ρ, μ, G, _, R, h, ⟨eo.nx, eo.rt, eo.bk, eo.ct, fun xv d ρ' σ' μ' G' H' h0 R' g rr => ?_⟩⟩
    obtain ⟨hc, rr'⟩ := rr
    refine ⟨subX xv.1 c0, ka.xm xv.1 c0 hc hc0, fun hb a ha => ?_, fun hb => ?_⟩
    · have h0 := h0.t hb
      obtain ⟨dd, hx, rx⟩ : ∃ dd, XD xv.1 d dd ∧ Rep X.K B G' (.exc a dd xv.1 xv.2) (.ref a) := by
        rcases rr' with ⟨e1, e2, e3⟩ | ⟨dd, vs, e1, e2, e3, e4⟩
        · exact ⟨0, .inl ⟨e1, e3⟩, by simp only [Rep]; exact ⟨trivial, .inl e1⟩⟩
        · exact ⟨dd, .inr e1, by simp only [Rep]; exact ⟨trivial, .inr ⟨vs, e2, e3, e4⟩⟩⟩
      have eo2 := eo.go g
      exact ⟨xv.1, dd, hc, hb, rfl, hx, B, _, μ', G', _, R'.set i rx, h0 a dd, ⟨fun r s μ2 G2 H2 z R2 g2 => eo2.nx _ _ μ2 G2 H2 z (R2.clear i) g2, eo2.rt, fun r s μ2 G2 H2 z R2 g2 => eo2.bk _ _ μ2 G2 H2 z (R2.clear i) g2, fun r s μ2 G2 H2 z R2 g2 => eo2.ct _ _ μ2 G2 H2 z (R2.clear i) g2, fun _ _ _ _ _ _ _ z => z.elim⟩⟩
    · have h0 := h0.f hb
      exact eo.xc xv d ρ' σ' μ' G' H' h0 R' g ⟨hc, rr'⟩
theorem subX_eq {c c0 : Cl} (h : subX c c0 = true) (n : c0 ≠ .PrintError) : c = c0 := by
  unfold subX at h
  rcases Bool.or_eq_true_iff.mp h with z | z
  · exact of_decide_eq_true z
  · exact absurd (of_decide_eq_true z) n
theorem takes_no {X : Cx} : L2N.Takes X Wno := fun u s' z => by
  obtain ⟨_, _, _, _, _, _, _, _, _, _, _, _, _, _, _, _, w⟩ := z
  exact w.elim
/-- within the suite: e.f -/
def fXf (a dd : Addr) (c : Cl) (f : Str) : FU := fun p μ q _ => match p with
  | .exc a' d' c' ys => a' = a ∧ d' = dd ∧ c' = c ∧ (match fldAt f c.flds ys with
    | some y => q y μ
    | none => False)
  | _ => False
theorem fldAt_mem {f : Str} : ∀ {gs : List Str} {xs : List PV} {x : PV}, fldAt f gs xs = some x → gs ≠ []
  | [], xs, x, e => by cases xs <;> simp [fldAt] at e
  | _ :: _, _, _, _ => by simp
theorem e_xf {X : Cx} {a dd : Addr} {oe : Obj} {c : Cl} {d : Option Addr} {pn : List (Addr × Obj)} {e : Expr} {de : DE} {pos : Pos} {f : Str} (hc : xcB X.K c = true) (hf : f ∈ c.flds) (hz : L2N.Zn (.ref (ca X.K c)) d oe) (hv : ∃ vs, oe.data = .fields vs) (hx : XD c d dd)
    (he : EJ (X.suite a ((a, oe) :: pn)) Wno e de) (hb : attributeBase e f X.env (eval e X.env) = eval e X.env := by rfl) : EJ (X.suite a ((a, oe) :: pn)) Wno (.Attribute e f pos) (dUn (fXf a dd c f) de) := pe_imp (pe_xf (xcB_xf hc) (xcB_no hc hf) hz.zc hv he hb) fun σ H Q ⟨B, ρ, μ, G, q, x, R, h, gv, gx⟩ =>
  ⟨B, ρ, μ, G, _, x, R, h, fun p v μ1 G1 H1 h0 g1 r1 => by
    cases p with
    | exc a' d' c' ys =>
      obtain ⟨rfl, rfl, rfl, h1⟩ := h0
      cases e2 : fldAt f c'.flds ys with
      | none => simp only [e2] at h1
      | some y =>
        simp only [e2] at h1
        obtain ⟨rfl, z⟩ := r1.exc_inv
        rcases z with z | ⟨vs, e3, e4, rs⟩
        · exact absurd z (fldAt_mem e2)
        · obtain ⟨m, u, e5, r5⟩ := fldAt_ok e2 rs
          rcases hx with ⟨hx, _⟩ | hx
          · exact absurd hx (fldAt_mem e2)
          · exact ⟨rfl, rfl, d', _, u, hx, g1.ok.sub _ _ e3, e5, gv _ _ _ _ _ h1 g1 r5⟩
    | _ => exact h0.elim, gx⟩
/-- within the suite defs may be called: what is handled is known -/
theorem suite_md {X : Cx} {a : Addr} {oe : Obj} {cls : Value} {d : Option Addr} {pn : List (Addr × Obj)} (hz : L2N.Zn cls d oe) (hv : ∃ vs, oe.data = .fields vs) : Md (X.suite a ((a, oe) :: pn)) true := by
  obtain ⟨vs, e⟩ := hv
  exact .inr ⟨rfl, (a, oe), ⟨rfl, vs, e, hz.2.2 vs e⟩, List.mem_cons_self⟩
theorem suite_tk {X : Cx} {a : Addr} {pn : List (Addr × Obj)} : L2N.Takes (X.suite a pn) Wno := fun u s' z => by
  obtain ⟨_, _, _, _, _, _, _, _, _, _, _, _, _, _, _, _, w⟩ := z
  exact w.elim
theorem suite_rm {X : Cx} {a : Addr} {pn : List (Addr × Obj)} {k : Nat} (h : L2H.RoomH k X.A) : L2H.RoomH k (X.suite a pn).A := ⟨h.dp, h.un⟩
end Px

/-! # own classes: instances made, methods, classmethods; defs with a star -/
namespace Px
open PySem PySem.Spec PyProof.Rows L2

abbrev Fs := List (Str × PV)
def putP (f : Str) (p : PV) : Fs → Fs
  | [] => [(f, p)]
  | (g, x) :: r => match decEq g f with
    | Decidable.isTrue _ => (g, p) :: r
    | Decidable.isFalse _ => (g, x) :: putP f p r
theorem putP_mem {f : Str} {p : PV} {l : List Str} (hf : f ∈ l) : ∀ {fs : Fs}, (∀ z ∈ fs, z.1 ∈ l) → ∀ z ∈ putP f p fs, z.1 ∈ l
  | [], _, z, hz => by
    have : z = (f, p) := by simpa [putP] using hz
    rw [this]; exact hf
  | (g, x) :: fs, h, z, hz => by
    unfold putP at hz
    split at hz
    · rcases List.mem_cons.mp hz with e | e
      · rw [e]; exact h (g, x) List.mem_cons_self
      · exact h z (List.mem_cons_of_mem _ e)
    · rcases List.mem_cons.mp hz with e | e
      · rw [e]; exact h (g, x) List.mem_cons_self
      · exact putP_mem hf (fun y hy => h y (List.mem_cons_of_mem _ hy)) z e
theorem FRep.put {K : Frg} {B : BX} {G : Hp} {f : Str} {p : PV} {v : V} (r : Rep K B G p v) : ∀ {fs : Fs} {ws : List (Str × V)}, FRep K B G fs ws → FRep K B G (putP f p fs) (putF f v ws)
  | [], _, .nil => .cons ⟨rfl, r⟩ .nil
  | (g, x) :: fs, (h, y) :: ws, .cons ⟨e, q⟩ t => by
    have e : g = h := e
    subst e
    unfold putP putF
    cases z : decEq g f with
    | isTrue z1 => rw [if_pos z1]; exact .cons ⟨rfl, r⟩ t
    | isFalse z1 => rw [if_neg z1]; exact .cons ⟨rfl, q⟩ (FRep.put r t)
theorem FRep.len {K : Frg} {B : BX} {G : Hp} {fs : Fs} {ws : List (Str × V)} (h : FRep K B G fs ws) : fs.length = ws.length := Paired.length h
/-- the fields, if they are all there in their order -/
def takeF : List Str → Fs → Option (List PV)
  | [], [] => some []
  | f :: fs, (g, x) :: r => (match decEq f g with
    | Decidable.isTrue _ => (match takeF fs r with
      | some xs => some (x :: xs)
      | none => none)
    | Decidable.isFalse _ => none)
  | _, _ => none
theorem takeF_ok {K : Frg} {B : BX} {G : Hp} : ∀ {gs : List Str} {fs : Fs} {xs : List PV} {ws : List (Str × V)}, takeF gs fs = some xs → FRep K B G fs ws → ∃ vs, ws = gs.zip vs ∧ vs.length = gs.length ∧ Reps K B G xs vs
  | [], [], xs, ws, e, h => by cases e; cases h; exact ⟨[], rfl, rfl, .nil⟩
  | [], _ :: _, xs, ws, e, h => by cases e
  | g :: gs, [], xs, ws, e, h => by cases e
  | g :: gs, (g', x) :: fs, xs, ws, e, h => by
    cases h with
    | cons q t =>
      rename_i w ws'
      obtain ⟨w1, w2⟩ := w
      obtain ⟨q1, q2⟩ := q
      have q1 : g' = w1 := q1
      subst q1
      unfold takeF at e
      cases z : decEq g g' with
      | isFalse z' => rw [z] at e; cases e
      | isTrue z' =>
        rw [z] at e
        subst z'
        cases e2 : takeF gs fs with
        | none => simp only [e2] at e; cases e
        | some ys =>
          simp only [e2] at e
          cases e
          obtain ⟨vs, e3, l, r⟩ := takeF_ok e2 t
          exact ⟨w2 :: vs, by rw [e3]; rfl, by simp [l], .cons q2 r⟩
/-! ## C(..) -/
/-- the new instance at y is as it shall be: it is never changed again -/
def mkEnd (y : Addr) (q : QV) : QV := fun r μ => match r with
  | .non => (match μ y with
    | some (.ins c fs) => (match takeF c.flds fs with
      | some xs => q (.obj c xs) (μ.del y)
      | none => False)
    | _ => False)
  | _ => False
/-- .. or may be changed -/
def mkEndC (y : Addr) (q : QV) : QV := fun r μ => match r with
  | .non => q (.cell y) μ
  | _ => False
def mkQ (fz : Bool) (y : Addr) (q : QV) : QV := match fz with
  | true => mkEnd y q
  | false => mkEndC y q
/-- a promise of C(..) by the promise of its __init__ -/
def MkC (fz : Bool) (c : Cl) (ct kc : Ct) : Prop := ∀ ps μ q x, kc ps μ q x → ∀ y, μ y = none → ct (.cell y :: ps) (μ.put y (.ins c [])) (mkQ fz y q) (fun xv μ2 => x xv (μ2.del y))
theorem spI_of {K : Frg} {W : WX} {fz : Bool} {ct : Ct} {B : BX} {ρ : En} {μ : Mu} {σ : L2.St} {G H : Hp} {c : Cl} {ps : List PV} {us : List V} {q : QV} {x : QX} {Q : VK} {y dx : Addr} (R : Rel K B ρ μ σ G H) (r : Reps K B G ps us) (h : ∀ y, μ y = none → ct (.cell y :: ps) (μ.put y (.ins c [])) (mkQ fz y q) (fun xv μ2 => x xv (μ2.del y)))
    (gv : GoodV K B μ G H q Q) (gx : GoodX K W B μ G H σ x) (kc : kcB K c = true) (hy : H y = none) (hdx : H dx = none) (ne : dx ≠ y) : spP K ct (.ref y :: us) (upd (upd H dx (.own y)) y (.ins (ca K c) dx [])) (fun v H2 => v = .non ∧ Q (.ref y) H2) (fun cls d H' => W cls d σ H') := by
  have o := R.ok
  have g1 := o.new2 (u := .own y) hdx
  have hy1 : upd H dx (.own y) y = none := by rw [upd_ne (Ne.symm ne)]; exact hy
  have g2 := g1.ok.newC (u := .ins (ca K c) dx []) (c := .ins c []) hy1 ⟨dx, [], rfl, kc, fun _ z => (nomatch z), .nil⟩
  have g12 := g1.trans g2
  refine ⟨B, _, G, .cell y :: ps, _, _, g12.ok, .cons (rep_cell y) (r.mono g12.gx), h y (o.freeM hy), fun p v μ' G' H' hp g rr => ?_, fun xv d μ' G' H' hx g rr => ?_⟩
  · have gg := g12.trans g
    cases fz with
    | true =>
      cases p with
      | non =>
        unfold mkQ mkEnd at hp
        cases e : μ' y with
        | none => simp only [e] at hp
        | some cc =>
          cases cc with
          | ins c' fs =>
            simp only [e] at hp
            cases e2 : takeF c'.flds fs with
            | none => simp only [e2] at hp
            | some xs =>
              simp only [e2] at hp
              obtain ⟨ga, nb, u, ha, dx', ws, rfl, kc, fl, fr⟩ := g.ok.cell y _ e
              have gf := g.ok.goFrz (by rw [e]; intro z; cases z) ha ga nb
              obtain ⟨vs, rfl, l, rs⟩ := takeF_ok e2 fr
              refine ⟨rr.non_inv, gv _ _ _ _ _ hp (gg.trans gf) ?_⟩
              simp only [Rep]
              exact ⟨y, dx', vs, rfl, kc, upd_same, l, rs.mono gf.gx⟩
          | _ => simp only [e] at hp
      | _ => exact hp.elim
    | false =>
      cases p with
      | non => exact ⟨rr.non_inv, gv _ _ _ _ _ hp gg (rep_cell y)⟩
      | _ => exact hp.elim
  · have gd := g.ok.goDel y
    exact gx xv d _ G' H' hx ((g12.trans g).trans gd) rr
theorem roomH_make {k : Nat} {A : Around} (r : L2H.RoomH (k + 1) A) (C : Addr) (us : List Value) (kw : List (Str × Value)) : L2H.RoomH k (A.under (.builtin "type.__call__" ⟨.ref C :: us, kw⟩)) :=
  ⟨by have := r.dp; rw [make_depth]; omega, by have := r.un; rw [make_units]; omega⟩
section
variable {X : Cx} {W : WX} {k : Nat} {c : Cl} {fI : Addr} {ks : List Str} {fz : Bool} {ct : Ct} {p0 pos : Pos} {e : Expr} {es : List Expr} {ds dk : DA} {kws : List Keyword}
theorem run_mk {pins : List (Addr × Obj)} {σ : L2.St} {H : Hp} {s : Shared} {Q : VK} {C : Addr} {us wz : List Value} {vs : List V} {sp : Sp} (M : Mk X.K C fI) (Fn : FnS false X.prog X.w X.K X.mg X.base k fI ks sp) (hc : X.calm = true) (hr : L2H.RoomH (k + 1) X.A) (tk : L2N.Takes X W) (J : Inv X pins σ H s) (hl : wz.length = ks.length) (r : Vals vs (us ++ wz))
    (h : ∀ y dx, H y = none → H dx = none → dx ≠ y → sp (.ref y :: vs) (upd (upd H dx (.own y)) y (.ins C dx [])) (fun v H2 => v = .non ∧ Q (.ref y) H2) (fun cls d H' => W cls d σ H')) :
    wpAny (model X.prog X.w) X.A (call (.ref C) us (ks.zip wz)) (EP X pins σ Q) X.xe s := by
  have hq := h (s.heap.objs.size + 1) s.heap.objs.size (J.hok.fresh (Nat.le_succ _)) (J.hok.fresh (Nat.le_refl _)) (Nat.ne_of_lt (Nat.lt_succ_self _))
  have J2 := Inv.made (C := C) J
  have r2 : Vals (V.ref (s.heap.objs.size + 1) :: vs) ((Value.ref (s.heap.objs.size + 1) :: us) ++ wz) := .cons rfl r
  refine wpAny_call (make_map (f := fI) J.kIn M.makes M.init (beq_iff_eq.mp M.fn) (codeAny_mono (Fn _ X.stack _ _ (Value.ref (s.heap.objs.size + 1) :: us) wz _ _ _ (.inl (J.ok.hd hc)) (roomH_make hr C us _) (J2.env0.make C us _) hl r2 hq) fun rr s' hq' => ?_))
  cases rr with
  | error er => exact tk er s' (L2N.XE.of_call J2 (fun _ _ _ z => z) hq')
  | ok fl =>
    cases fl with
    | ret u =>
      obtain ⟨v, H', J3, rv, ev, q3⟩ := J2.after hq'
      subst ev
      exact ⟨rv, ⟨V.ref (s.heap.objs.size + 1), H', J3, rfl, q3⟩⟩
    | next => exact False.elim hq'
    | brk => exact False.elim hq'
    | cont => exact False.elim hq'
theorem e_make {kcc : Ct} (kc : kcB X.K c = true) (mc : MkC fz c ct kcc) (M : Mk X.K (ca X.K c) fI) (Fn : FnS false X.prog X.w X.K X.mg X.base k fI [] (spP X.K ct)) (hc : X.calm = true) (hr : L2H.RoomH (k + 1) X.A) (tk : L2N.Takes X W) (hm : X.mg c.name = some (.ref (ca X.K c))) (ha : AJ X W (e :: es) ds) (hg : Gl X c.name := by rfl)
    (h1 : (c.name == ("__debug__" : Str)) = false := by decide) (h2 : starEach (e :: es) X.env = (false, eval e X.env) :: starEach es X.env := by rfl) (h3 : (backTo pos (starEach es X.env)).any (·.1) = false := by rfl) : EJ X W (.Call (.Name c.name p0) (e :: es) [] pos) (dCall kcc ds) := by
  refine ⟨fun pins s σ H Q J ⟨B, ρ, μ, G, q, z, R, h, gv, gx⟩ => ?_⟩
  refine wpAny_Call_Name_kw (ld_glob J hg hm ?_ h1)
  refine PySem.W.callWith_K (h₀ := X.base) J.ok.mod.kin M.kp (thn (ha.run pos pins s σ H (fun vs H1 => ∀ y dx, H1 y = none → H1 dx = none → dx ≠ y → spP X.K ct (.ref y :: vs) (upd (upd H1 dx (.own y)) y (.ins (ca X.K c) dx [])) (fun v H2 => v = .non ∧ Q (.ref y) H2) fun cls d H' => W cls d σ H') J
    ⟨B, ρ, μ, G, _, z, R, h, fun ps vs μ1 G1 H1 h1 g1 r1 y dx hy hd ne => spI_of (R.go g1) r1 (mc _ _ _ _ h1) (gv.go g1) (gx.go g1) kc hy hd ne, gx⟩) fun us s1 ⟨vs, H1, J1, r, q1⟩ => ⟨J1.kIn, ?_⟩) h2 h3
  exact run_mk (wz := []) M Fn hc hr tk J1 rfl (by rw [List.append_nil]; exact r) q1
theorem e_make0 {kcc : Ct} (kc : kcB X.K c = true) (mc : MkC fz c ct kcc) (M : Mk X.K (ca X.K c) fI) (Fn : FnS false X.prog X.w X.K X.mg X.base k fI [] (spP X.K ct)) (hc : X.calm = true) (hr : L2H.RoomH (k + 1) X.A) (tk : L2N.Takes X W) (hm : X.mg c.name = some (.ref (ca X.K c))) (hg : Gl X c.name := by rfl)
    (h1 : (c.name == ("__debug__" : Str)) = false := by decide) : EJ X W (.Call (.Name c.name p0) [] [] pos) (dCall kcc dNil) := by
  refine ⟨fun pins s σ H Q J ⟨B, ρ, μ, G, q, z, R, h, gv, gx⟩ => ?_⟩
  refine wpAny_Call_Name_kw (ld_glob J hg hm ?_ h1)
  exact PySem.W.callWith_K0 J.kIn M.kp (run_mk (us := []) (wz := []) M Fn hc hr tk J rfl .nil fun y dx hy hd ne => spI_of R .nil (mc _ _ _ _ h) gv gx kc hy hd ne)
/-- with keywords -/
theorem e_makeK {kcc : Ct} (kc : kcB X.K c = true) (mc : MkC fz c ct kcc) (M : Mk X.K (ca X.K c) fI) (Fn : FnS false X.prog X.w X.K X.mg X.base k fI ks (spP X.K ct)) (hc : X.calm = true) (hr : L2H.RoomH (k + 1) X.A) (tk : L2N.Takes X W) (hm : X.mg c.name = some (.ref (ca X.K c))) (ha : AJ X W (e :: es) ds) (hkw : KJ X W kws dk) {n : Nat} (hn : ks.length = n := by rfl) (hg : Gl X c.name := by rfl)
    (k1 : (backToKw pos (keywordEach kws X.env)).all (·.1.isSome) = true := by rfl) (k2 : (backToKw pos (keywordEach kws X.env)).filterMap (·.1) = ks := by rfl)
    (h1 : (c.name == ("__debug__" : Str)) = false := by decide) (h2 : starEach (e :: es) X.env = (false, eval e X.env) :: starEach es X.env := by rfl)
    (h3 : ((backTo pos (starEach (e :: es) X.env)).any (·.1) || (backToKw pos (keywordEach kws X.env)).any (·.1.isNone)) = false := by rfl) : EJ X W (.Call (.Name c.name p0) (e :: es) kws pos) (dCallK n kcc ds dk) := by
  subst hn
  refine ⟨fun pins s σ H Q J ⟨B, ρ, μ, G, q, z, R, h, gv, gx⟩ => ?_⟩
  refine wpAny_Call_Name_kw (ld_glob J hg hm ?_ h1)
  refine PySem.W.callWith_KW (h₀ := X.base) J.ok.mod.kin M.kp k1 (thn (ha.run pos pins s σ H (fun vs H1 => tA X.K W dk σ H1 fun zs H2 => zs.length = ks.length ∧ ∀ y dx, H2 y = none → H2 dx = none → dx ≠ y → spP X.K ct (.ref y :: (vs ++ zs)) (upd (upd H2 dx (.own y)) y (.ins (ca X.K c) dx [])) (fun v H3 => v = .non ∧ Q (.ref y) H3) fun cls d H' => W cls d σ H') J
    ⟨B, ρ, μ, G, _, z, R, h, fun ps vs μ1 G1 H1 h1 g1 r1 => ⟨B, ρ, μ1, G1, _, z, R.go g1, h1, fun zs ws μ2 G2 H2 ⟨hz, h2⟩ g2 r2 => ⟨by rw [r2.length]; exact hz, fun y dx hy hd ne => spI_of (R.go (g1.trans g2)) ((r1.mono g2.gx).append r2) (mc _ _ _ _ h2) (gv.go (g1.trans g2)) (gx.go (g1.trans g2)) kc hy hd ne⟩, gx.go g1⟩, gx⟩) fun us s1 ⟨vs, H1, J1, r, q1⟩ => ?_) h3 h2
  refine thn (hkw.run pos pins s1 σ H1 _ J1 q1) fun ws s2 ⟨zs, H2, J2, rz, hz, q2⟩ => ⟨J2.kIn, ?_⟩
  rw [k2]
  exact run_mk M Fn hc hr tk J2 (by rw [← rz.length]; exact hz) (r.append rz) q2
/-- v(e, ..): v a local that holds the class c -/
def isCls (c : Cl) (p : PV) : Bool := match p with
  | .cls d => decide (d = c)
  | _ => false
theorem isCls_ok {c : Cl} {p : PV} (h : isCls c p = true) : p = .cls c := by
  cases p with
  | cls d => rw [of_decide_eq_true h]
  | _ => cases h
def dMkV (c : Cl) (kc : Ct) (df : DE) (ds : DA) : DE := fun ρ μ q x => df ρ μ (fun p μ1 => br (isCls c p) (dCall kc ds ρ μ1 q x) False) x
theorem e_mkV {x : Str} {df : DE} {kcc : Ct} (kc : kcB X.K c = true) (mc : MkC fz c ct kcc) (M : Mk X.K (ca X.K c) fI) (Fn : FnS false X.prog X.w X.K X.mg X.base k fI [] (spP X.K ct)) (hc : X.calm = true) (hr : L2H.RoomH (k + 1) X.A) (tk : L2N.Takes X W) (hf : EJ X W (.Name x p0) df) (ha : AJ X W (e :: es) ds)
    (h2 : starEach (e :: es) X.env = (false, eval e X.env) :: starEach es X.env := by rfl) (h3 : (backTo pos (starEach es X.env)).any (·.1) = false := by rfl) : EJ X W (.Call (.Name x p0) (e :: es) [] pos) (dMkV c kcc df ds) := by
  refine ⟨fun pins s σ H Q J ⟨B, ρ, μ, G, q, z, R, h, gv, gx⟩ => ?_⟩
  refine wpAny_Call_Name_kw (thn (hf.run pins s σ H (fun v H1 => ∃ μ1 G1, Go X.K B μ G H μ1 G1 H1 ∧ v = .ref (ca X.K c) ∧ dCall kcc ds ρ μ1 q z) J
    ⟨B, ρ, μ, G, _, z, R, h, fun p v μ1 G1 H1 h0 g1 r1 => by
      obtain ⟨e1, h1⟩ := br_and h0
      have e1 := isCls_ok e1
      subst e1
      exact ⟨μ1, G1, g1, r1.cls_inv, h1⟩, gx⟩) fun u s1 ⟨v, H1, J1, rv, μ1, G1, g1, ev, hd⟩ => ?_)
  subst ev
  obtain rfl : u = Value.ref (ca X.K c) := rv
  refine PySem.W.callWith_K (h₀ := X.base) J.ok.mod.kin M.kp (thn (ha.run pos pins s1 σ H1 (fun vs H2 => ∀ y dx, H2 y = none → H2 dx = none → dx ≠ y → spP X.K ct (.ref y :: vs) (upd (upd H2 dx (.own y)) y (.ins (ca X.K c) dx [])) (fun v H3 => v = .non ∧ Q (.ref y) H3) fun cls d H' => W cls d σ H') J1
    ⟨B, ρ, μ1, G1, _, z, R.go g1, hd, fun ps vs μ2 G2 H2 h1 g2 r1 y dx hy hd ne => spI_of (R.go (g1.trans g2)) r1 (mc _ _ _ _ h1) (gv.go (g1.trans g2)) (gx.go (g1.trans g2)) kc hy hd ne, gx.go g1⟩) fun us s2 ⟨vs, H2, J2, r, q1⟩ => ⟨J2.kIn, ?_⟩) h2 h3
  exact run_mk (wz := []) M Fn hc hr tk J2 rfl (by rw [List.append_nil]; exact r) q1
theorem star_pv {pins : List (Addr × Obj)} {σ : L2.St} {H G : Hp} {μ : Mu} {s : Shared} {B : BX} {p : PV} {v : V} {u : Value} {t : Bool} {xs : List PV} {E : Value → Shared → Prop} {Q : List Value → Shared → Prop} (J : Inv X pins σ H s) (o : Ok X.K B μ G H) (r : Rep X.K B G p v) (rv : RelV v u) (hp : seqOf μ p = some (t, xs))
    (hQ : ∀ vs us s', Inv X pins σ H s' → Vals vs us → Reps X.K B G xs vs → Q us s') : PySem.W.StarOf (model X.prog X.w) X.A E u Q s := by
  obtain ⟨a, vs, rfl, rs, hh⟩ := seq_ok o r hp
  obtain rfl : u = Value.ref a := rv
  rcases hh with ⟨_, hh⟩ | ⟨_, hh⟩
  · exact StX.star_lst J (.inl (.inl hh)) fun us s' J' rr => hQ vs us s' J' rr rs
  · exact star_tup J hh fun us s' J' rr => hQ vs us s' J' rr rs
/-- v(*e) -/
theorem e_mkVS {x : Str} {p1 : Pos} {df de : DE} {kcc : Ct} (kc : kcB X.K c = true) (mc : MkC fz c ct kcc) (M : Mk X.K (ca X.K c) fI) (Fn : FnS false X.prog X.w X.K X.mg X.base k fI [] (spP X.K ct)) (hc : X.calm = true) (hr : L2H.RoomH (k + 1) X.A) (tk : L2N.Takes X W) (hf : EJ X W (.Name x p0) df) (he : EJ X W e de)
    (h1 : starEach [.Starred e p1] X.env = [(true, eval e X.env)] := by rfl) : EJ X W (.Call (.Name x p0) [.Starred e p1] [] pos) (dMkV c kcc df (dStar de dNil)) := by
  refine ⟨fun pins s σ H Q J ⟨B, ρ, μ, G, q, z, R, h, gv, gx⟩ => ?_⟩
  refine wpAny_Call_Name_kw (thn (hf.run pins s σ H (fun v H1 => ∃ μ1 G1, Go X.K B μ G H μ1 G1 H1 ∧ v = .ref (ca X.K c) ∧ dCall kcc (dStar de dNil) ρ μ1 q z) J
    ⟨B, ρ, μ, G, _, z, R, h, fun p v μ1 G1 H1 h0 g1 r1 => by
      obtain ⟨e1, h1⟩ := br_and h0
      have e1 := isCls_ok e1
      subst e1
      exact ⟨μ1, G1, g1, r1.cls_inv, h1⟩, gx⟩) fun u s1 ⟨v, H1, J1, rv, μ1, G1, g1, ev, hd⟩ => ?_)
  subst ev
  obtain rfl : u = Value.ref (ca X.K c) := rv
  refine PySem.W.callWith_S (h₀ := X.base) J.ok.mod.kin M.kp (thn (he.run pins s1 σ H1 (fun v H2 => ∃ μ2 G2 p t xs, Go X.K B μ G H μ2 G2 H2 ∧ Rep X.K B G2 p v ∧ seqOf μ2 p = some (t, xs) ∧ kcc (xs ++ []) μ2 q z) J1
    ⟨B, ρ, μ1, G1, _, z, R.go g1, hd, fun p v μ2 G2 H2 h2 g2 r2 => by
      cases e0 : seqOf μ2 p with
      | none => simp only [e0] at h2
      | some zz =>
        obtain ⟨t, xs⟩ := zz
        simp only [e0] at h2
        exact ⟨μ2, G2, p, t, xs, g1.trans g2, r2, e0, h2⟩, gx.go g1⟩) fun u2 s2 ⟨v2, H2, J2, rv2, μ2, G2, p, t, xs, g2, r2, hp, h2⟩ => ?_) h1
  refine star_pv J2 g2.ok r2 rv2 hp fun vs us s3 J3 rr rs => ⟨J3.kIn, ?_⟩
  rw [List.append_nil] at h2
  exact run_mk (wz := []) M Fn hc hr tk J3 rfl (by rw [List.append_nil]; exact rr) fun y dx hy hdx ne => spI_of (R.go g2) rs (mc _ _ _ _ h2) (gv.go g2) (gx.go g2) kc hy hdx ne
end

/-! ## o.f = e -/
def setAt (f : Str) (o p : PV) (μ : Mu) (q : Mu → Prop) : Prop := match o with
  | .cell a => (match μ a with
    | some (.ins c fs) => br (memS f c.flds && decide (fs.length < 1000)) (q (μ.put a (.ins c (putP f p fs)))) False
    | _ => False)
  | _ => False
def dAttrSet (f : Str) (dO d : DE) : DS := fun P ρ μ => d ρ μ (fun p μ1 => dO ρ μ1 (fun o μ2 => setAt f o p μ2 fun μ3 => P.nx ρ μ3) (fun xv μ' => P.xc xv ρ μ')) (fun xv μ' => P.xc xv ρ μ')
theorem s_attr {X : Cx} {W : WX} {f : Str} {o e : Expr} {d dO : DE} {pos' pos : Pos} (ho : EJ X W o dO) (hv : EJ X W e d)
    (hsw : swapsWith e (some (.Attribute o f pos')) pos.line X.env = pure false := by rfl) : SJ X W (.Assign [.Attribute o f pos'] e pos) (dAttrSet f dO d) :=
  ps_imp (ps_fld ho hv hsw) fun D σ H ⟨B, ρ, μ, G, P, R, h, eo⟩ =>
  ⟨B, ρ, μ, G, _, _, R, h, fun p v μ1 G1 H1 h1 g1 r1 => ⟨B, ρ, μ1, G1, _, _, R.go g1, h1, fun o w μ2 G2 H2 h2 g2 r2 => by
    have g := g1.trans g2
    cases o with
    | cell a =>
      unfold setAt at h2
      cases e0 : μ2 a with
      | none => simp only [e0] at h2
      | some cc =>
        cases cc with
        | ins c fs =>
          simp only [e0] at h2
          obtain ⟨hb, h2⟩ := br_and h2
          obtain ⟨b2, b3⟩ := He.ba hb
          obtain ⟨ga, nb, u, ha, dx, ws, rfl, kc, fl, fr⟩ := g2.ok.cell a _ e0
          have k := kcB_ok kc
          have gp := g2.ok.goPut (d := .ins c (putP f p fs)) (u := .ins (ca X.K c) dx (putF f v ws)) e0 ⟨dx, _, rfl, kc, putP_mem (memS_ok b2) fl, fr.put (r1.mono g2.gx)⟩
          exact ⟨a, ca X.K c, dx, ws, r2.cell_inv, ha, k.cls, k.no f (memS_ok b2), by rw [← fr.len]; exact of_decide_eq_true b3, eo.nx _ _ _ _ _ h2 (R.go (g.trans gp)) (g.trans gp)⟩
        | _ => simp only [e0] at h2
    | _ => exact h2.elim, (eo.go g1).gx (R.go g1)⟩, eo.gx R⟩

/-! ## defs with a star -/
section
variable {P : Program} {w : World} {K : Frg} {mg : Str → Option Value} {base : Heap} {x qual : Str} {params : Arguments} {body : List Stmt} {scope : Scope} {dvs : List V} {kws : List (Str × V)} {f : Addr} {fd : FuncData} {N ps : List Str} {k : Nat}
theorem cxUpN : StX.CXUp (L2N.CX P w) := by
  rintro outer s H s2 H2 E e s' un kp ho ⟨a, B, H', cls, d, ea, fl, hok, ub, na, os, ag, he⟩
  refine ⟨a, B, H', cls, d, ea, fl, hok, ⟨fun b o q n hb => ub.keep b o (kp b o q) (un.free b o q n (by simp)) hb, fun b o q hb => ub.slot b o (kp b o q) hb, fun b o q n => ub.free b o (kp b o q) (un.free b o q n (by simp)),
    fun b o q hb => ub.there b o (kp b o q) hb, fun b xs q => ub.tups b xs (un.tups b xs q), fun b o xs q => ub.frzs b o xs (un.frzs b o xs q), fun b ps q => ?_⟩, na, by rw [os]; exact ho, ag, he⟩
  obtain ⟨m1, e1⟩ := un.tbls b ps q
  obtain ⟨m2, e2⟩ := ub.tbls b _ e1
  exact ⟨m1 ++ m2, by rw [e2, Array.append_assoc]⟩
theorem fnS_of_R {sp : Sp} {k : Nat} (Fn : FnR P w K mg base (L2N.CX P w) k f sp) : FnS false P w K mg base k f [] sp := fun A outer s H us ws vs Q E hm hr e0 hl r h => by
  have hw : ws = [] := List.eq_nil_of_length_eq_zero hl
  subst hw
  rw [List.append_nil] at r
  rcases hm with z | ⟨z, _⟩
  · exact Fn A outer s H us vs Q E ⟨z, hr.dp, hr.un⟩ e0 r h
  · cases z
/-- def f(a, .., *v): n by place, the others one tuple -/
def starC (n : Nat) (c : Ct) : Ct := fun as μ q z => n ≤ as.length ∧ (as.drop n).length ≤ sizeLine ∧ c (as.take n ++ [.tup (as.drop n)]) μ q z
theorem spP_star {n : Nat} {c : Ct} {vs : List V} {H : Hp} {Q : VK} {E : XK} (h : spP K (starC n c) vs H Q E) {p : Addr} (hp : H p = none) : spP K c (vs.take n ++ [.ref p]) (upd H p (.tup (vs.drop n))) Q E := by
  obtain ⟨B, μ, G, as, q, z, o, r, ⟨hn, hl, hc⟩, hq, hx⟩ := h
  have g := o.new1 (u := .tup (vs.drop n)) hp
  exact ⟨B, μ, _, _, q, z, g.ok, ((r.take n).mono g.gx).append (.cons (rep_tup (.inl (.inl upd_same)) ((r.drop n).mono g.gx)) .nil), hc, hq.go g, fun xv d μ' G' H' h1 g' => hx xv d μ' G' H' h1 (g.trans g')⟩
theorem fn_star {qs : List Str} {pv : Str} (Fn : FunD K x qual params body scope [] kws f fd) (S : FnScope N (qs ++ [pv]) scope) (c : Ct) (d : DS) (hb : ∀ (kV doc pm : Value) (an : Option Addr) (cdv ct : Value) (us rest : List Value), us.length = qs.length → bindArgs (PySem.W.fnOf x qual params body scope .none kV doc pm an cdv ct) ⟨us ++ rest, []⟩ = (newTuple rest >>= fun t => pure (qs.zip us ++ [(pv, t)])))
    (der : ∀ (cm : Bool) (pn : List (Addr × Obj)) (cd : Value) (A : Around) (outer : List Env) (s : Shared) (H : Hp) (E : XK), (false = false → cm = true) → Here false (cxG cm pn P w K mg base N qual scope f cd A outer s H E) (fun cls dd _ H' => E cls dd H') k →
      BJ (cxG cm pn P w K mg base N qual scope f cd A outer s H E) (fun cls dd _ H' => E cls dd H') body d)
    (pure_ : ∀ as μ q z, c as μ q z → d (endsOf q z) (startE N.length as) μ) : FnS false P w K mg base (k + 1) f [] (spP K (starC qs.length c)) := by
  obtain ⟨oc, od, dV, kV, doc, pm, an, cdv, ct, osl, rfl, lk, hcd, hD, _⟩ := Fn.ex
  rcases hD with ⟨_, rfl⟩ | ⟨e, _⟩
  · refine fnS_of_R (FnR.imp (StX.fn_star (ps := qs) (pv := pv) (sp := spP K c) lk hcd S cxUpN (fun us rest hu => ?_) fun A outer s H vs Q E hr hs => ⟨_, der true [] cdv A outer s H E (fun _ => rfl) (here_of (L2H.roomH_of hr) (.inl rfl)), body_of pure_ hs⟩) fun vs H Q E h => ?_)
    · exact hb kV doc pm an cdv ct us rest hu
    · refine ⟨vs.take qs.length, vs.drop qs.length, (List.take_append_drop _ _).symm, ?_, ?_, fun p hp => spP_star h hp⟩
      · obtain ⟨B, μ, G, as, q, z, _, r, ⟨hn, hl, _⟩, _⟩ := h
        rw [List.length_take, r.length]; omega
      · obtain ⟨B, μ, G, as, q, z, _, r, ⟨hn, hl, _⟩, _⟩ := h
        rw [(r.drop _).length]; exact hl
  · exact absurd rfl e
end

/-! ## methods, classmethods -/
/-- the class of a receiver -/
def rcv (μ : Mu) : PV → Option Cl
  | .obj c _ => some c
  | .cell a => (match μ a with
    | some (.ins c _) => some c
    | _ => none)
  | _ => none
theorem frep_none {K : Frg} {B : BX} {G : Hp} {m : Str} : ∀ {fs : List (Str × PV)} {ws : List (Str × V)}, (∀ p ∈ fs, p.1 ≠ m) → FRep K B G fs ws → ws.lookup m = none
  | [], ws, e, r => by cases r; rfl
  | (g, y) :: fs, ws, e, r => by
    cases r with
    | cons q t =>
      rename_i w ws'
      obtain ⟨h, u⟩ := w
      obtain ⟨q1, q2⟩ := q
      have q1 : g = h := q1
      subst q1
      have hb : (m == g) = false := by
        have : m ≠ g := fun z => e (g, y) List.mem_cons_self z.symm
        simpa using this
      simp only [List.lookup, hb]
      exact frep_none (fun p hp => e p (List.mem_cons_of_mem _ hp)) t
theorem rcv_ok {K : Frg} {B : BX} {μ : Mu} {G H : Hp} {p : PV} {v : V} {m : Str} {c : Cl} (o : Ok K B μ G H) (r : Rep K B G p v) (h : rcv μ p = some c) (hm : m ∉ c.flds) : ∃ a dx ws, v = .ref a ∧ H a = some (.ins (ca K c) dx ws) ∧ ws.lookup m = none := by
  cases p with
  | obj c' xs =>
    cases h
    obtain ⟨a, dx, vs, rfl, _, ea, hl, rs⟩ := r.obj_inv
    exact ⟨a, dx, _, rfl, o.sub _ _ ea, lookup_zip_none hm⟩
  | cell a =>
    unfold rcv at h
    cases e : μ a with
    | none => simp only [e] at h; cases h
    | some cc =>
      cases cc with
      | ins c' fs =>
        simp only [e] at h
        cases h
        obtain ⟨_, _, u, ha, dx, ws, rfl, _, fl, fr⟩ := o.cell a _ e
        exact ⟨a, dx, ws, r.cell_inv, ha, frep_none (fun p hp z => hm (z ▸ fl p hp)) fr⟩
      | _ => simp only [e] at h; cases h
  | _ => cases h
def dMeth (tab : Cl → Option Ct) (d : DE) (ds : DA) : DE := fun ρ μ q x => d ρ μ (fun p μ1 => match rcv μ1 p with
  | some c => (match tab c with
    | some ct => ds ρ μ1 (fun ps μ2 => ct (p :: ps) μ2 q x) x
    | none => False)
  | none => False) x
section
variable {X : Cx} {W : WX} {hot : Bool} {k : Nat} {m : Str} {p0 apos pos : Pos} {o e : Expr} {es : List Expr} {d : DE} {ds dk : DA} {ks : List Str} {kws : List Keyword}
/-- what is known of a method: for each class of the table the def at f keeps its promise -/
def MTab (hot : Bool) (X : Cx) (k : Nat) (m : Str) (ks : List Str) (tab : Cl → Option Ct) : Prop := ∀ c ct, tab c = some ct → m ∉ c.flds ∧ ∃ f, Cls X.K (ca X.K c) ∧ Meth X.K (ca X.K c) m f ∧ FnS hot X.prog X.w X.K X.mg X.base k f ks (spP X.K ct)
theorem dMeth_inv {tab : Cl → Option Ct} {ρ : En} {μ1 : Mu} {p : PV} {q : QV} {x : QX} {A : Cl → Ct → Prop} (h : match rcv μ1 p with | some c => (match tab c with | some ct => A c ct | none => False) | none => False) : ∃ c ct, rcv μ1 p = some c ∧ tab c = some ct ∧ A c ct := by
  cases e : rcv μ1 p with
  | none => simp only [e] at h
  | some c =>
    simp only [e] at h
    cases e2 : tab c with
    | none => simp only [e2] at h
    | some ct => simp only [e2] at h; exact ⟨c, ct, rfl, e2, h⟩
theorem e_meth {tab : Cl → Option Ct} {pl : Sem Bool} (T : MTab hot X k m [] tab) (md : Md X hot) (hr : L2H.RoomH k X.A) (tk : L2N.Takes X W) (ho : EJ X W o d) (ha : AJ X W (e :: es) ds)
    (h2 : starEach (e :: es) X.env = (false, eval e X.env) :: starEach es X.env := by rfl) (h3 : (backTo pos (starEach es X.env)).any (·.1) = false := by rfl)
    (h4 : eval (.Call (.Attribute o m apos) (e :: es) [] pos) X.env = (do
      let ov ← eval o X.env
      standAt apos.atName
      let (g, first) ← holding [ov] (getMethod ov m pl)
      callWith pos g first (backTo pos (starEach (e :: es) X.env)) (backToKw pos (keywordEach [] X.env))) := by rfl) : EJ X W (.Call (.Attribute o m apos) (e :: es) [] pos) (dMeth tab d ds) := by
  refine ⟨fun pins s σ H Q J ⟨B, ρ, μ, G, q, z, R, h, gv, gx⟩ => ?_⟩
  refine PySem.W.methodCall_KW (pl := pl) (thn (ho.run pins s σ H (fun v H1 => ∃ μ1 G1 p c ct, Go X.K B μ G H μ1 G1 H1 ∧ Rep X.K B G1 p v ∧ rcv μ1 p = some c ∧ tab c = some ct ∧ ds ρ μ1 (fun ps μ2 => ct (p :: ps) μ2 q z) z) J ⟨B, ρ, μ, G, _, z, R, h, fun p v μ1 G1 H1 h0 g1 r1 => by
      obtain ⟨c, ct, e1, e2, h1⟩ := dMeth_inv (ρ := ρ) (q := q) (x := z) (A := fun c ct => ds ρ μ1 (fun ps μ2 => ct (p :: ps) μ2 q z) z) h0
      exact ⟨μ1, G1, p, c, ct, g1, r1, e1, e2, h1⟩, gx⟩)
    fun u s1 ⟨v, H1, J1, rv, μ1, G1, p, c, ct, g1, r1, e1, e2, h1⟩ => ?_) h4
  obtain ⟨hmf, f, hcl, hme, Fn⟩ := T c ct e2
  obtain ⟨a, dx, ws, rfl, ea, hlk⟩ := rcv_ok g1.ok r1 e1 hmf
  obtain rfl : u = Value.ref a := rv
  refine getmeth_ok J1 ea hcl hme hlk ?_
  refine PySem.W.callWith_K (first := [.ref a]) (h₀ := X.base) J.ok.mod.kin hme.kp (thn (ha.run pos pins s1 σ H1 (fun ws H2 => spP X.K ct (.ref a :: ws) H2 Q fun cls d H' => W cls d σ H') J1 ⟨B, ρ, μ1, G1, _, z, R.go g1, h1, fun ps ws μ2 G2 H2 h2 g2 r2 => spP_of (R.go (g1.trans g2)) (.cons (r1.mono g2.gx) r2) h2 (gv.go (g1.trans g2)) (gx.go (g1.trans g2)), gx.go g1⟩) fun us s2 ⟨ws, H2, J2, r, q2⟩ => ⟨J2.kIn, ?_⟩) h2 h3
  exact run_s (us := .ref a :: us) (ws := []) (vs := .ref a :: ws) Fn md hr tk J2 rfl (by rw [List.append_nil]; exact .cons rfl r) q2
theorem e_meth0 {tab : Cl → Option Ct} {pl : Sem Bool} (T : MTab hot X k m [] tab) (md : Md X hot) (hr : L2H.RoomH k X.A) (tk : L2N.Takes X W) (ho : EJ X W o d)
    (h4 : eval (.Call (.Attribute o m apos) [] [] pos) X.env = (do
      let ov ← eval o X.env
      standAt apos.atName
      let (g, first) ← holding [ov] (getMethod ov m pl)
      callWith pos g first (backTo pos (starEach [] X.env)) (backToKw pos (keywordEach [] X.env))) := by rfl) : EJ X W (.Call (.Attribute o m apos) [] [] pos) (dMeth tab d dNil) := by
  refine ⟨fun pins s σ H Q J ⟨B, ρ, μ, G, q, z, R, h, gv, gx⟩ => ?_⟩
  refine PySem.W.methodCall_KW (pl := pl) (thn (ho.run pins s σ H (fun v H1 => ∃ μ1 G1 p c ct, Go X.K B μ G H μ1 G1 H1 ∧ Rep X.K B G1 p v ∧ rcv μ1 p = some c ∧ tab c = some ct ∧ ct [p] μ1 q z) J ⟨B, ρ, μ, G, _, z, R, h, fun p v μ1 G1 H1 h0 g1 r1 => by
      obtain ⟨c, ct, e1, e2, h1⟩ := dMeth_inv (ρ := ρ) (q := q) (x := z) (A := fun c ct => dNil ρ μ1 (fun ps μ2 => ct (p :: ps) μ2 q z) z) h0
      exact ⟨μ1, G1, p, c, ct, g1, r1, e1, e2, h1⟩, gx⟩)
    fun u s1 ⟨v, H1, J1, rv, μ1, G1, p, c, ct, g1, r1, e1, e2, h1⟩ => ?_) h4
  obtain ⟨hmf, f, hcl, hme, Fn⟩ := T c ct e2
  obtain ⟨a, dx, ws, rfl, ea, hlk⟩ := rcv_ok g1.ok r1 e1 hmf
  obtain rfl : u = Value.ref a := rv
  refine getmeth_ok J1 ea hcl hme hlk ?_
  exact PySem.W.callWith_K0 (first := [.ref a]) J1.kIn hme.kp (run_s (us := [.ref a]) (ws := []) (vs := [.ref a]) Fn md hr tk J1 rfl (.cons rfl .nil) (spP_of (R.go g1) (.cons r1 .nil) h1 (gv.go g1) (gx.go g1)))
variable {c : Cl} {mc : Value} {pm g : Addr} {ct : Ct}
/-- C.m(e, ..), m a classmethod -/
def dCm (c : Cl) (ct : Ct) (d : DE) (ds : DA) : DE := fun ρ μ q x => d ρ μ (fun p μ1 => br (isCls c p) (ds ρ μ1 (fun ps μ2 => ct (.cls c :: ps) μ2 q x) x) False) x
theorem run_cms {pins : List (Addr × Obj)} {σ : L2.St} {H : Hp} {s : Shared} {C u : Addr} {sp : Sp} {Q : VK} {us : List Value} {vs : List V} (Fn : FnS hot X.prog X.w X.K X.mg X.base k g [] sp) (md : Md X hot) (hr : L2H.RoomH k X.A) (tk : L2N.Takes X W) (J : Inv X ((u, PySem.W.methodObj (.ref g) (.ref C)) :: pins) σ H s)
    (r : Vals vs us) (h : sp (.ref C :: vs) H Q (fun cls d H' => W cls d σ H')) : wpAny (model X.prog X.w) X.A (call (.ref u) us) (EP X pins σ Q) X.xe s := by
  have hm : X.A.handled = none ∨ (hot = true ∧ ∃ p, L2H.Hot1 X.A p ∧ L2H.PinOk X.stack H s p) := by
    rcases md with z | ⟨z, p, hp, mem⟩
    · exact .inl (J.ok.hd z)
    · have P1 := J.pin p (List.mem_append_left _ mem)
      exact .inr ⟨z, p, hp, ⟨P1.1, P1.2.1, fun hq => (List.mem_cons.mp (J.stkSub p.1 hq)).elim P1.2.2.1 P1.2.2.2.1, P1.2.2.2.2⟩⟩
  refine wpAny_call (PySem.W.method_call (ClX.pin_at J) (codeAny_mono (Fn X.A X.stack s H (.ref C :: us) [] (.ref C :: vs) Q _ hm hr J.env0 rfl (by rw [List.append_nil]; exact .cons rfl r) h) fun rr s' hq => ?_))
  cases rr with
  | error er => exact tk er s' (L2N.XE.of_call (ClX.unpin J) (fun _ _ _ z => z) hq)
  | ok fl =>
    cases fl with
    | ret u => exact ClX.unpinE (J.after hq)
    | next => exact False.elim hq
    | brk => exact False.elim hq
    | cont => exact False.elim hq
theorem e_cmeth (kn : knB X.K c = true) {pl : Sem Bool} (rd : ClX.CRead X.K (ca X.K c) mc) (cm : ClX.CMet X.K (ca X.K c) mc m pm g) (Fn : FnS hot X.prog X.w X.K X.mg X.base k g [] (spP X.K ct)) (md : Md X hot) (hr : L2H.RoomH k X.A) (tk : L2N.Takes X W) (ho : EJ X W o d) (ha : AJ X W (e :: es) ds)
    (h2 : starEach (e :: es) X.env = (false, eval e X.env) :: starEach es X.env := by rfl) (h3 : (backTo pos (starEach es X.env)).any (·.1) = false := by rfl)
    (h4 : eval (.Call (.Attribute o m apos) (e :: es) [] pos) X.env = (do
      let ov ← eval o X.env
      standAt apos.atName
      let (g, first) ← holding [ov] (getMethod ov m pl)
      callWith pos g first (backTo pos (starEach (e :: es) X.env)) (backToKw pos (keywordEach [] X.env))) := by rfl) : EJ X W (.Call (.Attribute o m apos) (e :: es) [] pos) (dCm c ct d ds) := by
  refine ⟨fun pins s σ H Q J ⟨B, ρ, μ, G, q, z, R, h, gv, gx⟩ => ?_⟩
  refine PySem.W.methodCall_KW (pl := pl) (thn (ho.run pins s σ H (fun v H1 => ∃ μ1 G1, Go X.K B μ G H μ1 G1 H1 ∧ v = .ref (ca X.K c) ∧ ds ρ μ1 (fun ps μ2 => ct (.cls c :: ps) μ2 q z) z) J ⟨B, ρ, μ, G, _, z, R, h, fun p v μ1 G1 H1 h0 g1 r1 => by
      obtain ⟨e1, h1⟩ := br_and h0
      have e1 := isCls_ok e1
      subst e1
      exact ⟨μ1, G1, g1, r1.cls_inv, h1⟩, gx⟩) fun u s1 ⟨v, H1, J1, rv, μ1, G1, g1, ev, h1⟩ => ?_) h4
  subst ev
  obtain rfl : u = Value.ref (ca X.K c) := rv
  refine ClX.getmethcm_ok J1 rd cm fun s2 J2 => ?_
  refine ClX.callwith_cm J2 (ClX.base_none J1 (Nat.le_refl _)) cm.fi (thn (ha.run pos _ s2 σ H1 (fun ws H2 => spP X.K ct (.ref (ca X.K c) :: ws) H2 Q fun cls d H' => W cls d σ H') J2 ⟨B, ρ, μ1, G1, _, z, R.go g1, h1, fun ps ws μ2 G2 H2 h2 g2 r2 => spP_of (R.go (g1.trans g2)) (.cons (rep_cls c kn) r2) h2 (gv.go (g1.trans g2)) (gx.go (g1.trans g2)), gx.go g1⟩) fun us s3 ⟨ws, H2, J3, r, q2⟩ => ⟨⟨ClX.pin_at J3, J3.kIn⟩, ?_⟩) h2 h3
  exact run_cms Fn md hr tk J3 r q2
theorem e_cmeth0 (kn : knB X.K c = true) {pl : Sem Bool} (rd : ClX.CRead X.K (ca X.K c) mc) (cm : ClX.CMet X.K (ca X.K c) mc m pm g) (Fn : FnS hot X.prog X.w X.K X.mg X.base k g [] (spP X.K ct)) (md : Md X hot) (hr : L2H.RoomH k X.A) (tk : L2N.Takes X W) (ho : EJ X W o d)
    (h4 : eval (.Call (.Attribute o m apos) [] [] pos) X.env = (do
      let ov ← eval o X.env
      standAt apos.atName
      let (g, first) ← holding [ov] (getMethod ov m pl)
      callWith pos g first (backTo pos (starEach [] X.env)) (backToKw pos (keywordEach [] X.env))) := by rfl) : EJ X W (.Call (.Attribute o m apos) [] [] pos) (dCm c ct d dNil) := by
  refine ⟨fun pins s σ H Q J ⟨B, ρ, μ, G, q, z, R, h, gv, gx⟩ => ?_⟩
  refine PySem.W.methodCall_KW (pl := pl) (thn (ho.run pins s σ H (fun v H1 => ∃ μ1 G1, Go X.K B μ G H μ1 G1 H1 ∧ v = .ref (ca X.K c) ∧ ct [.cls c] μ1 q z) J ⟨B, ρ, μ, G, _, z, R, h, fun p v μ1 G1 H1 h0 g1 r1 => by
      obtain ⟨e1, h1⟩ := br_and h0
      have e1 := isCls_ok e1
      subst e1
      exact ⟨μ1, G1, g1, r1.cls_inv, h1⟩, gx⟩) fun u s1 ⟨v, H1, J1, rv, μ1, G1, g1, ev, h1⟩ => ?_) h4
  subst ev
  obtain rfl : u = Value.ref (ca X.K c) := rv
  refine ClX.getmethcm_ok J1 rd cm fun s2 J2 => ?_
  exact PySem.W.callWith_M0 (first := []) ⟨ClX.pin_at J2, J2.kIn⟩ cm.fi (run_cms (us := []) (vs := []) Fn md hr tk J2 .nil (spP_of (R.go g1) (.cons (rep_cls c kn) .nil) h1 (gv.go g1) (gx.go g1)))
/-- C.NAME, a constant of the class -/
def cvP (c : Cl) (pv : PV) : FU := fun p μ q _ => br (isCls c p) (q pv μ) False
theorem e_cval {f : Str} {v : V} {u : Value} {pv : PV} (rd : ClX.CRead X.K (ca X.K c) mc) (cv : ClX.CVal X.K (ca X.K c) mc f v u) (rp : ∀ B G, Rep X.K B G pv v) (ho : EJ X W o d) (hb : attributeBase o f X.env (eval o X.env) = eval o X.env := by rfl) : EJ X W (.Attribute o f pos) (dUn (cvP c pv) d) :=
  pe_imp (ClX.pe_cval ho hb) fun σ H Q ⟨B, ρ, μ, G, q, x, R, h, gv, gx⟩ => ⟨B, ρ, μ, G, _, x, R, h, fun p w μ1 G1 H1 h0 g1 r1 => by
    obtain ⟨e1, h1⟩ := br_and h0
    have e1 := isCls_ok e1
    subst e1
    exact ⟨ca X.K c, mc, v, u, r1.cls_inv, rd, cv, gv _ _ _ _ _ h1 g1 (rp _ _)⟩, gx⟩
end
end Px

namespace Px
open PySem PySem.Spec PyProof.Rows L2
/-! ## facts by a check of the written part, read off the head's one run -/
/-- where a def stands -/
inductive At where
  | glo (x : Str)
  | meth (c m : Str)
  | cm (c m : Str)
  | pr (c m : Str)
/-- the record of a classmethod C.m, its def -/
abbrev cmRec (K : Frg) (C : Addr) (m : Str) : Addr := He.ma K C m
abbrev cmFn (K : Frg) (C : Addr) (m : Str) : Addr := He5.wf K C "classmethod" m
abbrev prFn (K : Frg) (C : Addr) (m : Str) : Addr := He5.wf K C "property" m
def At.ad (K : Frg) : At → Addr
  | .glo x => He.ga K x
  | .meth c m => He.ma K (He.ga K c) m
  | .cm c m => cmFn K (He.ga K c) m
  | .pr c m => prFn K (He.ga K c) m
/-- one def of the text -/
structure DefP where
  at_ : At
  name : Str
  qual : Str
  params : Arguments
  body : List Stmt
  scope : Scope
  dfl : List He.Dv := []
  kwd : List (Str × He.Dv) := []
abbrev FnV := He.FnW
def fnV (K : Frg) (p : At) : FnV := match K.lookup (p.ad K) with
  | some ⟨_, _, .func fd, _⟩ => some (fd.name, fd.qualname, fd.params, fd.body, fd.scope, fd.globals, fd.closure, fd.builtins)
  | _ => none
def DefP.val (d : DefP) : FnV := some (d.name, d.qual, d.params, .stmts d.body, d.scope, mainGlobals, [], builtinsNs)
def DefP.dvs (K : Frg) (d : DefP) : List V := d.dfl.map (He.Dv.v K)
def DefP.kws (K : Frg) (d : DefP) : List (Str × V) := d.kwd.map fun q => (q.1, q.2.v K)
def DefP.ok (K : Frg) (d : DefP) : Bool := PySem.W.keepIn K (.ref (d.at_.ad K)) && (match K.lookup (d.at_.ad K) with
  | some ⟨_, _, .func fd, _⟩ => PySem.W.codeIn K fd.code d.qual && (He.dflB K fd.defaults (d.dvs K) && He.kwdB K fd.kwdefaults (d.kws K))
  | _ => false)
theorem DefP.funD {K : Frg} {d : DefP} (e : fnV K d.at_ = d.val) (c : d.ok K = true) : ∃ fd, FunD K d.name d.qual d.params d.body d.scope (d.dvs K) (d.kws K) (d.at_.ad K) fd := by
  obtain ⟨kp, c2⟩ := He.ba c
  unfold fnV at e
  cases q : K.lookup (d.at_.ad K) with
  | none => rw [q] at c2; cases c2
  | some o =>
    obtain ⟨oc, od, dt, osl⟩ := o
    rw [q] at c2 e
    cases dt with
    | func fd =>
      obtain ⟨n1, n2, n3, n4, n5, n6, n7, n8, n9, n10, n11, n12, n13, n14, n15⟩ := fd
      have e2 : (some (n1, n2, n3, n4, n5, n6, n7, n15) : FnV) = some (d.name, d.qual, d.params, .stmts d.body, d.scope, mainGlobals, [], builtinsNs) := e
      simp only [Option.some.injEq, Prod.mk.injEq] at e2
      obtain ⟨h1, h2, h3, h4, h5, h6, h7, h8⟩ := e2
      subst h1 h2 h3 h4 h5 h6 h7 h8
      have c3 : (PySem.W.codeIn K n13 d.qual && (He.dflB K n8 (d.dvs K) && He.kwdB K n9 (d.kws K))) = true := c2
      obtain ⟨k1, k2⟩ := He.ba c3
      obtain ⟨k3, k4⟩ := He.ba k2
      exact ⟨_, ⟨oc, od, n8, n9, n10, n11, n12, n13, n14, osl, rfl, q, k1, He.dflB_ok k3, He.kwdB_ok k4⟩, kp⟩
    | _ => cases c2
/-- an error class with its one field: its __init__ -/
structure ErrD where
  c : Cl
  f : Str
  qual : Str
  params : Arguments
  body : List Stmt
  scope : Scope
def errAd (K : Frg) (e : ErrD) : Addr := He.ma K (ca K e.c) "__init__"
/-- the function as it stands: its closure is one cell, which holds the class -/
def errV (K : Frg) (e : ErrD) : FnV := match K.lookup (errAd K e) with
  | some ⟨_, _, .func fd, _⟩ => some (fd.name, fd.qualname, fd.params, fd.body, fd.scope, fd.globals, [], fd.builtins)
  | _ => none
def ErrD.val (e : ErrD) : FnV := some (("__init__" : Str), e.qual, e.params, .stmts e.body, e.scope, mainGlobals, [], builtinsNs)
def ErrD.ok (file : Str) (K : Frg) (e : ErrD) : Bool := PySem.W.excInitIn K (ca K e.c) He.veBase "ValueError.__new__" && ((match PySem.W.clsIn K (ca K e.c) with
    | some cd => cd.hasDict && (HandSPX.refsVE cd.mro && decide (PySem.W.alongIn K "__init__" ((cd.mro.dropWhile (· != .ref (ca K e.c))).drop 1) = some (some (.builtin "ValueError.__init__"))))
    | none => false) && (decide (PySem.W.findIn K (.ref (ca K e.c)) "__setattr__" = some (some (.builtin "object.__setattr__"))) && (decide (PySem.W.findIn K (.ref (ca K e.c)) e.f = some none) && (decide (PySem.W.findIn K (.ref (ca K e.c)) "__init__" = some (some (.ref (errAd K e)))) &&
  (decide (PySem.W.typeIn K (.ref (errAd K e)) = some (.type "function")) && (PySem.W.keepIn K (.ref (ca K e.c)) && (decide (PySem.W.subIn K (.ref (ca K e.c)) (.type "BaseException") = some true) && (decide (PySem.W.typeIn K (.ref (ca K e.c)) = some (.type "type")) && (decide (PySem.W.subIn K (.ref (ca K e.c)) (.type "ValueError") = some true) &&
  (decide (PySem.W.subIn K (.ref (ca K e.c)) (.ref (ca K e.c)) = some true) && (decide (PySem.W.nsIn K cStatics "thirdparty.any" = some none) && (match K.lookup (errAd K e) with
    | some ⟨_, _, .func fd, _⟩ => (match fd.code, fd.closure with
      | .ref cda, [(x, cc)] => decide (fd.defaults = Value.none) && (decide (x = "__class__") && (PySem.W.codeIn K (.ref cda) e.qual && ((match K.lookup cc with
          | some ⟨_, _, .cell (some (.ref C)), _⟩ => decide (C = ca K e.c)
          | _ => false) && (match K.lookup cda with
          | some ⟨_, _, .fields vs, _⟩ => (match (vs[2]? : Option Value) with
            | some (Value.str z _) => decide (z = file)
            | _ => false)
          | _ => false))))
      | _, _ => false)
    | _ => false))))))))))))
theorem ErrD.errF {P : Program} {K : Frg} {e : ErrD} {file : Str} (v : errV K e = e.val) (c : e.ok file K = true) (hfile : (P.main.file == file) = true) (hs : (P.main.scope.names.lookup ("super" : Str)).isSome = false) (nf : e.f ≠ "self" ∧ e.f ≠ "super" ∧ e.f ≠ "__class__" ∧ e.f ≠ "__debug__")
    (hb : ∃ (msg : Str) (j : Nat) (a1 a2 p1 p2 p3 p4 p5 p6 q1 q2 q3 q4 : Pos), e.params = eArgs e.f a1 a2 ∧ e.body = eBody e.f msg j p1 p2 p3 p4 p5 p6 q1 q2 q3 q4 ∧ e.scope = eScope e.f ∧
      (∀ (cc cda : Addr) (kV doc pm ct : Value) (an : Option Addr) (u v : Value), bindArgs (PySem.W.fnX "__init__" e.qual (eArgs e.f a1 a2) (eBody e.f msg j p1 p2 p3 p4 p5 p6 q1 q2 q3 q4) (eScope e.f) [("__class__", cc)] .none kV doc pm an (.ref cda) ct) ⟨[u, v], []⟩ = pure ([("self", u), (e.f, v)] : List (Str × Value))) ∧
      ∀ env : Env, MCall msg j p1 p2 p3 p4 p5 env) : ErrF P K (ca K e.c) (errAd K e) e.f := by
  obtain ⟨c1, c⟩ := He.ba c
  obtain ⟨c2, c⟩ := He.ba c
  obtain ⟨c3, c⟩ := He.ba c
  obtain ⟨c4, c⟩ := He.ba c
  obtain ⟨c5, c⟩ := He.ba c
  obtain ⟨c6, c⟩ := He.ba c
  obtain ⟨c7, c⟩ := He.ba c
  obtain ⟨c8, c⟩ := He.ba c
  obtain ⟨c9, c⟩ := He.ba c
  obtain ⟨c10, c⟩ := He.ba c
  obtain ⟨c11, c⟩ := He.ba c
  obtain ⟨c12, c13⟩ := He.ba c
  refine ⟨c1, ?_, of_decide_eq_true c3, of_decide_eq_true c4, of_decide_eq_true c5, of_decide_eq_true c6, c7, of_decide_eq_true c8, of_decide_eq_true c9, of_decide_eq_true c10, of_decide_eq_true c11, of_decide_eq_true c12, ?_, hs, nf⟩
  · cases q : PySem.W.clsIn K (ca K e.c) with
    | none => rw [q] at c2; cases c2
    | some cd =>
      rw [q] at c2
      obtain ⟨d1, d2⟩ := He.ba c2
      obtain ⟨d3, d4⟩ := He.ba d2
      exact ⟨cd, rfl, d1, d3, of_decide_eq_true d4⟩
  · obtain ⟨msg, j, a1, a2, p1, p2, p3, p4, p5, p6, q1, q2, q3, q4, b1, b2, b3, b4, b5⟩ := hb
    unfold errV at v
    cases q : K.lookup (errAd K e) with
    | none => rw [q] at c13; cases c13
    | some o =>
      obtain ⟨oc, od, dt, osl⟩ := o
      rw [q] at c13 v
      cases dt with
      | func fd =>
        obtain ⟨n1, n2, n3, n4, n5, n6, n7, n8, n9, n10, n11, n12, n13, n14, n15⟩ := fd
        have e2 : (some (n1, n2, n3, n4, n5, n6, [], n15) : FnV) = some (("__init__" : Str), e.qual, e.params, .stmts e.body, e.scope, mainGlobals, [], builtinsNs) := v
        simp only [Option.some.injEq, Prod.mk.injEq] at e2
        obtain ⟨h1, h2, h3, h4, h5, h6, _, h8⟩ := e2
        subst h1 h2 h3 h4 h5 h6 h8
        cases n13 with
        | ref cda =>
          match n7, c13 with
          | [(x, cc)], c13 =>
            obtain ⟨f0, c14⟩ := He.ba c13
            have f0 : n8 = Value.none := of_decide_eq_true f0
            obtain ⟨f1, c15⟩ := He.ba c14
            obtain ⟨f2, c16⟩ := He.ba c15
            obtain ⟨f3, f4⟩ := He.ba c16
            clear c14 c15 c16 c13
            subst f0
            have f1 : x = "__class__" := of_decide_eq_true f1
            subst f1
            cases qc : K.lookup cc with
            | none => rw [qc] at f3; cases f3
            | some o2 =>
              obtain ⟨oc2, od2, dt2, osl2⟩ := o2
              rw [qc] at f3
              cases dt2 with
              | cell cv =>
                match cv, f3 with
                | some (.ref C), f3 =>
                  have f3 : C = ca K e.c := of_decide_eq_true f3
                  subst f3
                  cases qd : K.lookup cda with
                  | none => rw [qd] at f4; cases f4
                  | some o3 =>
                    obtain ⟨oc3, od3, dt3, osl3⟩ := o3
                    rw [qd] at f4
                    cases dt3 with
                    | fields vs =>
                      cases qv : vs[2]? with
                      | none => simp only [qv] at f4; cases f4
                      | some vv =>
                        simp only [qv] at f4
                        cases vv with
                        | str z tz =>
                          have f4 : z = file := of_decide_eq_true f4
                          subst f4
                          exact ⟨oc, od, e.qual, msg, j, .none, n9, n10, n11, n12, cda, cc, n14, osl, a1, a2, p1, p2, p3, p4, p5, p6, q1, q2, q3, q4, _, _, vs, z, tz, by rw [b1, b2, b3], f2, by first | exact qc | rfl, rfl, by first | exact qd | rfl, rfl, qv, hfile, fun u v => b4 cc cda n9 n10 n11 n14 n12 u v, b5⟩
                        | _ => cases f4
                    | _ => cases f4
              | _ => cases f3
        | _ => cases c13
      | _ => cases c13

/-! ## defs of a class that say super(): the class stands in their cell -/
structure SupD where
  c : Cl
  m : Str
  qual : Str
  params : Arguments
  body : List Stmt
  scope : Scope
  kwd : List (Str × He.Dv) := []
def SupD.kws (K : Frg) (e : SupD) : List (Str × V) := e.kwd.map fun q => (q.1, q.2.v K)
def supAd (K : Frg) (e : SupD) : Addr := He.ma K (ca K e.c) e.m
def supV (K : Frg) (e : SupD) : FnV := match K.lookup (supAd K e) with
  | some ⟨_, _, .func fd, _⟩ => some (fd.name, fd.qualname, fd.params, fd.body, fd.scope, fd.globals, [], fd.builtins)
  | _ => none
def SupD.val (e : SupD) : FnV := some (e.m, e.qual, e.params, .stmts e.body, e.scope, mainGlobals, [], builtinsNs)
def SupD.ok (file : Str) (K : Frg) (e : SupD) : Bool := (PySem.W.clsIn K (ca K e.c)).isSome && (decide (PySem.W.nsIn K cStatics "thirdparty.any" = some none) && (match K.lookup (supAd K e) with
    | some ⟨_, _, .func fd, _⟩ => (match fd.code, fd.closure with
      | .ref cda, [(x, cc)] => decide (fd.defaults = Value.none) && (decide (x = "__class__") && (PySem.W.codeIn K (.ref cda) e.qual && ((match K.lookup cc with
          | some ⟨_, _, .cell (some (.ref C)), _⟩ => decide (C = ca K e.c)
          | _ => false) && ((match K.lookup cda with
          | some ⟨_, _, .fields vs, _⟩ => (match (vs[2]? : Option Value) with
            | some (Value.str z _) => decide (z = file)
            | _ => false)
          | _ => false) && He.kwdB K fd.kwdefaults (e.kws K)))))
      | _, _ => false)
    | _ => false))
end Px

/-! # the head's one run, and what is read off it -/
namespace Px
open PySem PySem.Spec PyProof.Rows L2
/-- a set of addresses, by their binary digits -/
inductive Tr where
  | nil
  | node (l r : Tr) (b : Bool)
def Tr.has : Nat → Tr → Nat → Bool
  | 0, _, _ => false
  | _ + 1, .nil, _ => false
  | f + 1, .node l r b, n => (match n with
    | 0 => b
    | n => (match Nat.beq (n % 2) 0 with
      | true => Tr.has f l (n / 2)
      | false => Tr.has f r (n / 2)))
def Tr.put : Nat → Tr → Nat → Tr
  | 0, t, _ => t
  | f + 1, .nil, n => (match n with
    | 0 => .node .nil .nil true
    | n => (match Nat.beq (n % 2) 0 with
      | true => .node (Tr.put f .nil (n / 2)) .nil false
      | false => .node .nil (Tr.put f .nil (n / 2)) false))
  | f + 1, .node l r b, n => (match n with
    | 0 => .node l r true
    | n => (match Nat.beq (n % 2) 0 with
      | true => .node (Tr.put f l (n / 2)) r b
      | false => .node l (Tr.put f r (n / 2)) b))
/-- those of the addresses that are new, and all -/
def newA : List Addr → Tr → List Addr → Tr × List Addr
  | [], t, acc => (t, acc)
  | a :: as, t, acc => (match Tr.has 40 t a with
    | true => newA as t acc
    | false => newA as (Tr.put 40 t a) (a :: acc))
def nextA (g : Addr → Option Obj) : List Addr → Tr → List Addr → Tr × List Addr
  | [], t, acc => (t, acc)
  | a :: as, t, acc => (match g a with
    | some o => (match newA (He.refsD o) t acc with
      | (t, acc) => nextA g as t acc)
    | none => nextA g as t acc)
def growA (g : Addr → Option Obj) : Nat → List Addr → Tr → List Addr → List Addr
  | 0, _, _, all => all
  | n + 1, as, t, all => (match nextA g as t [] with
    | (t, new) => growA g n new t (all ++ new))
def asP (g : Addr → Option Obj) (n : Nat) : List Addr := growA g n [mainGlobals, cStatics] (Tr.put 40 (Tr.put 40 .nil mainGlobals) cStatics) [mainGlobals, cStatics]
structure Want where
  n : Nat
  file : Str
  fa : List He.Fa
  hs : List Cl
  xs : List Cl
  more : Frg → Bool
  fn : List DefP
  er : List ErrD
  su : List SupD := []
abbrev AlP : Type := Bool × List FnV
def Want.ok (t : Want) (K : Frg) : Bool := (t.fa.all fun f => f.ok K) && (kaB K t.hs t.xs && ((t.hs.all (kcB K) && t.xs.all (xcB K)) && (t.more K && ((t.fn.all fun d => d.ok K) && ((t.er.all fun e => e.ok t.file K) && t.su.all fun e => e.ok t.file K)))))
def Want.see (t : Want) (K : Frg) : AlP := (t.ok K, (t.fn.map fun d => fnV K d.at_) ++ ((t.er.map fun e => errV K e) ++ t.su.map fun e => supV K e))
def Want.val (t : Want) : AlP := (true, t.fn.map DefP.val ++ (t.er.map ErrD.val ++ t.su.map SupD.val))
def Says (t : Want) (K : Frg) : Prop := t.see K = t.val
def Want.obs (t : Want) (g : Addr → Option Obj) : AlP := t.see (He.frG g (asP g t.n))
def Want.hook (t : Want) : PySem.W.Hook where
  α := AlP
  obs := fun s => t.obs s.heap.get?
  val := fun _ => t.val
  says := fun _ h => ∃ K : Frg, K.In h ∧ Says t K
  of := fun _ _ e => ⟨_, He.frG_in, e⟩
  keeps := fun _ _ _ ⟨K, hK, c⟩ k => ⟨K, PySem.W.Frag.In.keeps hK k, c⟩
theorem Want.obs_eq {t : Want} {g : Addr → Option Obj} {s : Shared} (h : ∀ a, g a = s.heap.get? a) : t.obs g = t.hook.obs s := by
  have e : g = s.heap.get? := funext h
  rw [e] <;> rfl
section
variable {t : Want} {K : Frg}
theorem Says.ok (c : Says t K) : t.ok K = true := congrArg (fun z : AlP => z.1) c
theorem Says.fact (c : Says t K) (i : Nat) {f : He.Fa} (h : t.fa[i]? = some f := by rfl) : f.ok K = true := List.all_eq_true.mp (He.ba c.ok).1 f (List.mem_of_getElem? h)
theorem Says.ka (c : Says t K) : KA K := kaB_ok (He.ba (He.ba c.ok).2).1
theorem Says.kc (c : Says t K) {d : Cl} (h : d ∈ t.hs) : kcB K d = true := List.all_eq_true.mp (He.ba (He.ba (He.ba (He.ba c.ok).2).2).1).1 d h
theorem Says.xc (c : Says t K) {d : Cl} (h : d ∈ t.xs) : xcB K d = true := List.all_eq_true.mp (He.ba (He.ba (He.ba (He.ba c.ok).2).2).1).2 d h
theorem Says.more (c : Says t K) : t.more K = true := (He.ba (He.ba (He.ba (He.ba c.ok).2).2).2).1
theorem Says.vals (c : Says t K) : (t.fn.map fun d => fnV K d.at_) ++ ((t.er.map fun e => errV K e) ++ (t.su.map fun e => supV K e)) = t.fn.map DefP.val ++ (t.er.map ErrD.val ++ t.su.map SupD.val) := congrArg (fun z : AlP => z.2) c
theorem Says.def_ (c : Says t K) (i : Nat) {d : DefP} (h : t.fn[i]? = some d := by rfl) : ∃ fd, FunD K d.name d.qual d.params d.body d.scope (d.dvs K) (d.kws K) (d.at_.ad K) fd := by
  have c2 := (He.ba (He.ba (He.ba (He.ba (He.ba c.ok).2).2).2).2).1
  have e1 := (List.append_inj c.vals (by simp)).1
  have e2 : (t.fn.map fun d => fnV K d.at_)[i]? = (t.fn.map DefP.val)[i]? := by rw [e1]
  rw [List.getElem?_map, List.getElem?_map, h] at e2
  exact DefP.funD (Option.some.inj e2) (List.all_eq_true.mp c2 d (List.mem_of_getElem? h))
theorem Says.err (c : Says t K) (i : Nat) {d : ErrD} (h : t.er[i]? = some d := by rfl) : errV K d = d.val ∧ d.ok t.file K = true := by
  have c2 := (He.ba (He.ba (He.ba (He.ba (He.ba (He.ba c.ok).2).2).2).2).2).1
  have e0 := (List.append_inj c.vals (by simp)).2
  have e1 := (List.append_inj e0 (by simp)).1
  have e2 : (t.er.map fun e => errV K e)[i]? = (t.er.map ErrD.val)[i]? := by rw [e1]
  rw [List.getElem?_map, List.getElem?_map, h] at e2
  exact ⟨Option.some.inj e2, List.all_eq_true.mp c2 d (List.mem_of_getElem? h)⟩
theorem Says.sup (c : Says t K) (i : Nat) {d : SupD} (h : t.su[i]? = some d := by rfl) : supV K d = d.val ∧ d.ok t.file K = true := by
  have c2 := (He.ba (He.ba (He.ba (He.ba (He.ba (He.ba c.ok).2).2).2).2).2).2
  have e0 := (List.append_inj c.vals (by simp)).2
  have e1 := (List.append_inj e0 (by simp)).2
  have e2 : (t.su.map fun e => supV K e)[i]? = (t.su.map SupD.val)[i]? := by rw [e1]
  rw [List.getElem?_map, List.getElem?_map, h] at e2
  exact ⟨Option.some.inj e2, List.all_eq_true.mp c2 d (List.mem_of_getElem? h)⟩
end
end Px

namespace Px
open PySem PySem.Spec PyProof.Rows L2
/-! ## further facts, by checks -/
/-- attributes of the class are read as the builtin way reads them -/
theorem cread_ok {K : Frg} {C : Addr} (h : PySem.W.readsIn K C (.type "type") = true) : ClX.CRead K C (.type "type") := by
  refine ⟨h, ?_⟩
  unfold PySem.W.readsIn at h
  obtain ⟨h, _⟩ := He.ba h
  obtain ⟨h, _⟩ := He.ba h
  obtain ⟨h, h3⟩ := He.ba h
  obtain ⟨_, h2⟩ := He.ba h
  unfold PySem.W.specialIn
  rw [beq_iff_eq.mp h2, Option.bind_some]
  exact beq_iff_eq.mp h3
/-- a class is read as type.__getattribute__ reads it; its classmethod m -/
def cmB (K : Frg) (c : Cl) (m : Str) : Bool := PySem.W.readsIn K (ca K c) (.type "type") && (He5.wrapB K (ca K c) "classmethod" "classmethod.__get__" m && PySem.W.fnIn K (cmFn K (ca K c) m))
theorem cmB_ok {K : Frg} {c : Cl} {m : Str} (h : cmB K c m = true) : ClX.CRead K (ca K c) (.type "type") ∧ ClX.CMet K (ca K c) (.type "type") m (cmRec K (ca K c) m) (cmFn K (ca K c) m) := by
  obtain ⟨h1, h⟩ := He.ba h
  obtain ⟨h2, h3⟩ := He.ba h
  exact ⟨cread_ok h1, He5.cmet_of h2 h3⟩
/-- C.NAME is an int -/
def isVal (i : Int) : Option PySem.W.CFound → Bool
  | some (.val v) => (match v with
    | .int j _ => decide (j = i)
    | _ => false)
  | _ => false
theorem isVal_ok {i : Int} {r : Option PySem.W.CFound} (h : isVal i r = true) : ∃ t, r = some (.val (.int i t)) := by
  unfold isVal at h
  split at h
  · split at h
    · rename_i j t
      have e := of_decide_eq_true h
      exact ⟨t, by rw [e]⟩
    · cases h
  · cases h
def cvB (K : Frg) (c : Cl) (f : Str) (i : Int) : Bool := PySem.W.readsIn K (ca K c) (.type "type") && isVal i (PySem.W.findCls K (.ref (ca K c)) (.type "type") f)
theorem cvB_ok {K : Frg} {c : Cl} {f : Str} {i : Int} (h : cvB K c f i = true) : ClX.CRead K (ca K c) (.type "type") ∧ ∃ u, ClX.CVal K (ca K c) (.type "type") f (.int i) u := by
  obtain ⟨h1, h2⟩ := He.ba h
  obtain ⟨t, e⟩ := isVal_ok h2
  exact ⟨cread_ok h1, _, ⟨e, ⟨t, rfl⟩⟩⟩
/-! ## the law's own end -/
theorem law_end {l : PySem.W.OpenLaw} {q : Program} {loose : List Str} {XP : (Str → Option Value) → Heap → Prop} {d : DefRec} {t : Want} {k : Nat} {x : Str} {sp : Frg → Sp} (hn : l.most = some 63) (hdf : d.params.defaults = []) (hr : Room k callerA)
    (Fn : ∀ (w : World) (mg : Str → Option Value) (fa : Addr) (h : Heap) (K : Frg), K.In h → Says t K → h.Ns mainGlobals mg → mg d.name = some (.ref fa) → ∃ (fd : FuncData), (∀ (s : Shared) (u : Value), BindsTo s fd ⟨[u], []⟩ [(x, u)]) ∧ ∀ base : Heap, K.In base → base.Ns mainGlobals mg → FnOk l.prog w K mg base (L2N.CX l.prog w) k fa fd [x] (sp K))
    (hsp : ∀ (K : Frg) (H : Hp) (a : Addr) (ns : List Int), ns.length ≤ 63 → (∀ z ∈ ns, Builtin.Int.intBits z ≤ 1048576) → Only H → SqL K H a (ns.map V.int) → sp K [.ref a] H (fun v _ => v = .bl true) fun _ _ _ => False) :
    PySem.W.WalkO q loose XP t.hook.says l.row.toRowW d [] (fun f vs => PySem.call f vs) := by
  refine Att.attach_callB hn hdf fun w s₀ s₁ mg mb fa o pm cd doc a vs ns G Y ho hd hcd hmg hobj hints hlen hbits hg => ?_
  obtain ⟨K, KX, cs⟩ := Y
  obtain ⟨fd, hb, hF⟩ := Fn w mg fa _ K KX cs G.T.g hmg
  refine law_call KX G.T.g G.T.b G.T.builtins G.T.nolimit hg hobj hints (Nat.le_trans hlen (by decide)) hr hF hb (fun H hO hS => hsp K H a ns hlen hbits hO hS) fun H e s' z => ?_
  obtain ⟨_, _, _, _, _, _, _, _, _, _, _, _, zz⟩ := z
  exact zz.elim
end Px

namespace Px
open PySem PySem.Spec PyProof.Rows L2
/-! ## the box that a law draws from, by the raw rules -/
def tInt (t : TE) : TE := tCB (fun xs H Q => (∃ i, xs = [.int i] ∧ Q (.int i) H) ∨ ∃ k, xs = [.bl k] ∧ Q (.int (if k then 1 else 0)) H) (tCons t tNil)
def tLen (K : Frg) (t : TE) : TE := tCB (fun xs H Q => ∃ x n, xs = [x] ∧ LenV K x H n ∧ Q (.int n) H) (tCons t tNil)
def tAdd (a b : TE) : TE := tOp (rI0 fun i j => .int (i + j)) a b
def tMul (a b : TE) : TE := tOp (rI CMul fun i j => .int (i * j)) a b
def tMod (a b : TE) : TE := tOp (rI (fun _ j => 0 < j) fun i j => .int (i % j)) a b
def tFdv (a b : TE) : TE := tOp (rI CDivW fun i j => .int (i / j)) a b
/-- [[int(c) for c in script[:63]], 0, 1] -/
def tBox (K : Frg) : TS := tRet (tLst (tCons (tLc (iList K (L2.tSl (rSlL K) (tVar 0) tNoPart (tPart (tC (.int 63))))) (gName 1) tYes (tInt (tVar 1)) [1]) (tCons (tC (.int 0)) (tCons (tC (.int 1)) tNil))))
theorem int_run {t : TE} {σ : L2.St} {H : Hp} {Q : VK} (h : t σ H fun v H1 => ∃ i, v = .int i ∧ Q (.int i) H1) (m : ∀ R R' : VK, (∀ v H, R v H → R' v H) → t σ H R → t σ H R') : tInt t σ H Q := m _ _ (fun v H1 ⟨i, e, q⟩ => .inl ⟨i, by rw [e], q⟩) h
theorem box_run {K : Frg} {D : Ends} {H : Hp} {a : Addr} {ns : List Int} {N : List Str} (hN : N.length = 2) (hl : ns.length ≤ 63) (hs : SqL K H a (ns.map V.int))
    (h : ∀ (b c : Addr) (H' : Hp) (ms : List Int), Sub H H' → H b = none → H c = none → b ≠ c → ms.length ≤ 63 → H' b = some (.lst [.ref c, .int 0, .int 1]) → H' c = some (.lst (ms.map V.int)) → D.rt (.ref b) H') : tBox K D (L2.start N [.ref a]) H := by
  have s0 : L2.start N [.ref a] = [some (.ref a), none] := by
    unfold L2.start
    rw [hN] <;> rfl
  rw [s0]
  refine ⟨_, rfl, 63, rfl, a, _, rfl, hs, fun p hp => ⟨p, rfl, ⟨_, SqL.of upd_same⟩, fun c hc => ?_⟩⟩
  have hcl : ∃ ms : List Int, cutV (ns.map V.int) none (some 63) = ms.map V.int ∧ ms.length ≤ 63 := by
    refine ⟨(ns.drop (HT.sIx (ns.map V.int).length 0 none)).take (HT.sIx (ns.map V.int).length (ns.map V.int).length (some 63) - HT.sIx (ns.map V.int).length 0 none), ?_, ?_⟩
    · unfold cutV
      rw [List.map_take, List.map_drop]
    · rw [List.length_take, List.length_drop]; omega
  obtain ⟨ms, em, lm⟩ := hcl
  rw [em] at hc ⊢
  have np : c ≠ p := fun z => by rw [z, upd_same] at hc; cases hc
  have hc0 : H c = none := by rw [upd_ne np] at hc; exact hc
  refine lc_list (K := K) (a := p) (xs := ms.map V.int) (fun i H' => H' = upd (upd H p (.lst (ms.map V.int))) c (.lst ((ms.take i).map V.int))) (by rfl) (fun i H' _ e => ?_) (fun i x H' hx e => ?_) (fun H' e => ?_)
  · rw [e]; exact SqL.of (by rw [upd_ne np.symm]; exact upd_same)
  · rw [List.getElem?_map] at hx
    cases q : ms[i]? with
    | none => rw [q] at hx; cases hx
    | some z =>
      rw [q] at hx
      cases hx
      have hi : i < ms.length := (List.getElem?_eq_some_iff.mp q).1
      refine ⟨rfl, ?_⟩
      simp only [tYes, if_true]
      refine ⟨.int z, rfl, .inl ⟨z, rfl, (ms.take i).map V.int, ?_, ?_, ?_⟩⟩
      · rw [e]; exact upd_same
      · rw [List.length_map, List.length_take]
        exact Nat.lt_of_le_of_lt (Nat.min_le_left _ _) (Nat.lt_of_lt_of_le hi (Nat.le_trans lm (by decide)))
      · rw [e, upd_upd, List.take_add_one, q, List.map_append] <;> rfl
  · rw [List.length_map, List.take_length] at e
    refine ⟨by show 3 ≤ sizeLine; decide, fun b hb => ?_⟩
    rw [e] at hb ⊢
    have nc : b ≠ c := fun z => by rw [z, upd_same] at hb; cases hb
    have nb : b ≠ p := fun z => by rw [z, upd_ne np.symm, upd_same] at hb; cases hb
    have hb0 : H b = none := by rw [upd_ne nc, upd_ne nb] at hb; exact hb
    refine h b c _ ms (fun y o ey => ?_) hb0 hc0 nc lm upd_same ?_
    · rw [upd_ne (ne_of_none ey hb0), upd_ne (ne_of_none ey hc0), upd_ne (ne_of_none ey hp)]; exact ey
    · rw [upd_ne nc.symm, upd_same]
/-! ## the draw: slots box, size, cells, place, cell, state, power -/
def tPlc (K : Frg) : TT := tTest (tOp (rI0 fun i j => V.bl (decide (i < j))) (tVar 3) (tLen K (tVar 2)))
def tCel (K : Frg) : TE := tOp (rIx K) (tVar 2) (tVar 3)
def tDrawA (K : Frg) : TS := tSeq (tAsg (tCel K) (gName 4)) (tSeq (tAsg (tFdv (tVar 4) (tVar 1)) (gSub (tVar 2) (tVar 3) rSetL)) (tRet (tMod (tInt (tVar 4)) (tVar 1))))
def tDrawB (K : Frg) : TS := tSeq (tAsg (tAdd (tVar 3) (tC (.int 1))) (gSub (tVar 0) (tC (.int 1)) rSetL))
  (tSeq (tAsg (tMod (tInt (tAdd (tAdd (tAdd (tMul (tOp (rIx K) (tVar 0) (tC (.int 2))) (tC (.int 48271))) (tMul (tMod (tInt (tVar 4)) (tC (.int 2147483629))) (tC (.int 69621)))) (tVar 3)) (tC (.int 1)))) (tC (.int 2147483647))) (gName 5))
  (tSeq (tAsg (tVar 5) (gSub (tVar 0) (tC (.int 2)) rSetL))
  (tSeq (tAsg (tMod (tInt (tAdd (tMul (tVar 5) (tVar 5)) (tMul (tVar 5) (tC (.int 16807))))) (tC (.int 998244353))) (gName 6))
  (tRet (tMod (tInt (tFdv (tVar 6) (tC (.int 5)))) (tVar 1))))))
def tDraw (K : Frg) : TS := tSeq (tAsg (tOp (rIx K) (tVar 0) (tC (.int 0))) (gName 2)) (tSeq (tAsg (tOp (rIx K) (tVar 0) (tC (.int 1))) (gName 3)) (tSeq (tIfS (tTest (tOp rEq (tLen K (tVar 2)) (tC (.int 0)))) (tRet (tC (.int 0))) tNext)
  (tSeq (tIfS (tAnd (tPlc K) (tTest (tOp (rI0 fun i j => V.bl (decide (j ≤ i))) (tCel K) (tOp (rI CPow fun i j => .int (i ^ j.toNat)) (tC (.int 10)) (tC (.int 18)))))) (tDrawA K) tNext)
  (tSeq (tAsg (tC (.int 0)) (gName 4)) (tSeq (tIfS (tPlc K) (tAsg (tCel K) (gName 4)) tNext) (tDrawB K))))))
structure Drw (n : Int) (A : Prop) : Prop where
  pos : 0 < n
  sm : n.natAbs < 2 ^ 9000
  go : A
theorem draw_of {n : Int} {A : Prop} (h0 : 0 < n) (h1 : n < 100000) (h : A) : Drw n A := by
  exact ⟨h0, Nat.lt_of_lt_of_le (show n.natAbs < 100000 by omega) (Nat.le_trans (by decide : 100000 ≤ 2 ^ 17) (Nat.pow_le_pow_right (by decide) (by decide))), h⟩
def cDraw : Ct := fun ps μ q _ => match ps with
  | [.box, .int n] => Drw n (∀ r : Int, 0 ≤ r → r < n → q (.int r) μ)
  | _ => False
theorem cDraw_inv {ps : List PV} {μ : Mu} {q : QV} {x : QX} (h : cDraw ps μ q x) : ∃ n : Int, ps = [.box, .int n] ∧ 0 < n ∧ n.natAbs < 2 ^ 9000 ∧ ∀ r : Int, 0 ≤ r → r < n → q (.int r) μ := by
  unfold cDraw at h
  split at h
  · exact ⟨_, rfl, h.pos, h.sm, h.go⟩
  · exact h.elim
structure Drawn (b c : Addr) (H H' : Hp) : Prop where
  box : BoxAt H' b c
  keep : ∀ a, a ≠ b → a ≠ c → H' a = H a
section
variable {K : Frg} {D : Ends} {b c : Addr} {n : Int} {H : Hp}
theorem drawB_run {p st z : Int} {ns : List Int} {H : Hp} (hn : 0 < n) (hn2 : n.natAbs < 2 ^ 9000) (hbc : b ≠ c) (e1 : H b = some (.lst [.ref c, .int p, .int st])) (e2 : H c = some (.lst (ns.map V.int))) (h0 : 0 ≤ p) (h1 : 0 ≤ st) (h2 : st < 2147483647) (h3 : ns.length ≤ 63)
    (h : ∀ r H', 0 ≤ r → r < n → Drawn b c H H' → D.rt (.int r) H') : tDrawB K D [some (.ref b), some (.int n), some (.ref c), some (.int p), some (.int z), none, none] H := by
  refine ⟨_, rfl, _, _, rfl, rfl, _, rfl, b, _, 1, 1, rfl, rfl, e1, rfl, ?_⟩
  have e1' : ∀ v, upd H b (.lst ([V.ref c, .int p, .int st].set 1 v)) b = some (.lst [V.ref c, v, .int st]) := fun v => upd_same
  have m1 := Int.emod_nonneg z (b := 2147483629) (by decide)
  have m2 := Int.emod_lt_of_pos z (b := 2147483629) (by decide)
  refine ⟨_, rfl, .inl ⟨b, _, 2, .int st, rfl, rfl, SqL.of (e1' _), rfl, _, _, rfl, rfl, .inl ⟨by omega, by omega⟩, ?_⟩⟩
  refine ⟨_, rfl, .inl ⟨_, rfl, _, _, rfl, rfl, (by show (0 : Int) < 2147483629; decide), _, _, rfl, rfl, .inl ⟨by omega, by omega⟩, _, _, rfl, rfl, _, rfl, _, _, rfl, rfl, _, _, rfl, rfl, .inl ⟨_, rfl, _, _, rfl, rfl, (by show (0 : Int) < 2147483647; decide), ?_⟩⟩⟩
  have s1 : 0 ≤ (st * 48271 + z % 2147483629 * 69621 + p + 1) % 2147483647 := Int.emod_nonneg _ (by decide)
  have s3 : (st * 48271 + z % 2147483629 * 69621 + p + 1) % 2147483647 < 2147483647 := Int.emod_lt_of_pos _ (by decide)
  refine ⟨_, rfl, _, rfl, b, _, 2, 2, rfl, rfl, e1' _, rfl, ?_⟩
  refine ⟨_, rfl, _, rfl, _, _, rfl, rfl, .inl ⟨by omega, by omega⟩, _, rfl, _, _, rfl, rfl, .inl ⟨by omega, by omega⟩, _, _, rfl, rfl, .inl ⟨_, rfl, _, _, rfl, rfl, (by show (0 : Int) < 998244353; decide), ?_⟩⟩
  refine ⟨_, rfl, _, _, rfl, rfl, wide_div (b := 8) (by decide) (by decide) (by decide) (by decide), .inl ⟨_, rfl, _, rfl, _, _, rfl, rfl, hn, ?_⟩⟩
  refine h _ _ (Int.emod_nonneg _ (by omega)) (Int.emod_lt_of_pos _ hn) ⟨⟨hbc, ns, p + 1, _, upd_same, ?_, by omega, s1, s3, h3⟩, fun a n1 n2 => ?_⟩
  · rw [upd_ne hbc.symm, upd_ne hbc.symm]; exact e2
  · rw [upd_ne n1, upd_ne n1]
theorem draw_run {N : List Str} (hN : N.length = 7) (hn : 0 < n) (hn2 : n.natAbs < 2 ^ 9000) (hb : BoxAt H b c) (h : ∀ r H', 0 ≤ r → r < n → Drawn b c H H' → D.rt (.int r) H') : tDraw K D (L2.start N [.ref b, .int n]) H := by
  have s0 : L2.start N [.ref b, .int n] = [some (.ref b), some (.int n), none, none, none, none, none] := by
    unfold L2.start
    rw [hN] <;> rfl
  rw [s0]
  have hb' := hb
  obtain ⟨hbc, ns, p, st, e1, e2, h0, h1, h2, h3⟩ := hb'
  refine ⟨_, rfl, .inl ⟨b, _, 0, .ref c, rfl, rfl, SqL.of e1, rfl, ?_⟩⟩
  refine ⟨_, rfl, .inl ⟨b, _, 1, .int p, rfl, rfl, SqL.of e1, rfl, ?_⟩⟩
  refine ⟨_, rfl, _, _, rfl, .inl ⟨_, SqL.of e2, rfl⟩, rfl, _, rfl, ?_⟩
  refine ite2 (fun z => h 0 H (Int.le_refl _) hn ⟨hb, fun _ _ _ => rfl⟩) fun z => ?_
  have rest : tSeq (tAsg (tC (.int 0)) (gName 4)) (tSeq (tIfS (tPlc K) (tAsg (tCel K) (gName 4)) tNext) (tDrawB K)) D [some (.ref b), some (.int n), some (.ref c), some (.int p), none, none, none] H := by
    refine ⟨_, rfl, _, rfl, _, _, rfl, .inl ⟨_, SqL.of e2, rfl⟩, _, _, rfl, rfl, _, rfl, ?_⟩
    refine ite2 (fun z => ?_) fun z => ?_
    · have z := of_decide_eq_true z
      rw [List.length_map] at z
      obtain ⟨j, rfl⟩ := Int.eq_ofNat_of_zero_le h0
      have hj : j < ns.length := by omega
      refine ⟨_, rfl, _, rfl, .inl ⟨c, _, _, _, rfl, rfl, SqL.of e2, atI_cell hj, ?_⟩⟩
      exact drawB_run hn hn2 hbc e1 e2 h0 h1 h2 h3 h
    · exact drawB_run hn hn2 hbc e1 e2 h0 h1 h2 h3 h
  refine ⟨_, rfl, _, rfl, _, _, rfl, .inl ⟨_, SqL.of e2, rfl⟩, _, _, rfl, rfl, _, rfl, ?_⟩
  refine ite2 (fun z => ?_) fun z => ?_
  · have z := of_decide_eq_true z
    rw [List.length_map] at z
    obtain ⟨j, rfl⟩ := Int.eq_ofNat_of_zero_le h0
    have hj : j < ns.length := by omega
    refine ⟨_, rfl, _, rfl, .inl ⟨c, _, _, _, rfl, rfl, SqL.of e2, atI_cell hj, _, _, rfl, rfl, ⟨by decide, by decide, by decide⟩, _, _, rfl, rfl, _, rfl, ?_⟩⟩
    refine ite2 (fun z2 => ?_) fun z2 => rest
    refine ⟨_, rfl, _, rfl, .inl ⟨c, _, _, _, rfl, rfl, SqL.of e2, atI_cell hj, ?_⟩⟩
    refine ⟨_, rfl, _, rfl, _, _, rfl, rfl, wide_div hn hn2 (by decide) (by decide), _, rfl, _, rfl, c, _, _, j, rfl, rfl, e2, ?_, ?_⟩
    · unfold ixN
      rw [if_pos (by omega), if_pos (by rw [List.length_map]; omega)] <;> rfl
    · refine ⟨_, rfl, .inl ⟨_, rfl, _, rfl, _, _, rfl, rfl, hn, ?_⟩⟩
      refine h _ _ (Int.emod_nonneg _ (by omega)) (Int.emod_lt_of_pos _ hn) ⟨⟨hbc, ns.set j (cellOf ns j / n), j, st, ?_, ?_, h0, h1, h2, ?_⟩, fun a n1 n2 => ?_⟩
      · rw [upd_ne hbc]; exact e1
      · rw [upd_same, List.map_set]
      · rw [List.length_set]; exact h3
      · rw [upd_ne n2]
  · exact rest
end
/-! ## the two defs, the law's own frame -/
def spBox (K : Frg) : Sp := fun vs H Q _ => ∃ (a : Addr) (ns : List Int), vs = [.ref a] ∧ ns.length ≤ 63 ∧ SqL K H a (ns.map V.int) ∧ ∀ (b c : Addr) (H' : Hp) (ms : List Int), Sub H H' → H b = none → H c = none → b ≠ c → ms.length ≤ 63 → H' b = some (.lst [.ref c, .int 0, .int 1]) → H' c = some (.lst (ms.map V.int)) → Q (.ref b) H'
theorem Drawn.go {K : Frg} {B : BX} {μ : Mu} {G H H' : Hp} {b c : Addr} (o : Ok K B μ G H) (hb : B = some (b, c)) (d : Drawn b c H H') : Go K B μ G H μ G H' := by
  obtain ⟨bt, gb, gc⟩ := o.box b c hb
  have kp : ∀ a u, H a = some u → a ≠ b → a ≠ c → H' a = some u := fun a u e n1 n2 => by rw [d.keep a n1 n2]; exact e
  refine ⟨⟨fun a u e => ?_, fun a cc e => ?_, fun b' c' e => ?_⟩, ⟨.refl _, fun a e => ?_, fun a u e nb _ => kp a u e (fun z => nb ⟨b, c, hb, .inl z⟩) (fun z => nb ⟨b, c, hb, .inr z⟩), fun a u e => .inl e, fun a e => .inl e⟩⟩
  · exact kp a u (o.sub a u e) (fun z => by rw [z, gb] at e; cases e) (fun z => by rw [z, gc] at e; cases e)
  · obtain ⟨g1, nb, u, e1, r⟩ := o.cell a cc e
    exact ⟨g1, nb, u, kp a u e1 (fun z => nb ⟨b, c, hb, .inl z⟩) (fun z => nb ⟨b, c, hb, .inr z⟩), r⟩
  · rw [hb] at e
    cases e
    exact ⟨d.box, gb, gc⟩
  · by_cases z1 : a = b
    · obtain ⟨u, e1⟩ := d.box.some1
      rw [z1, e1] at e; cases e
    · by_cases z2 : a = c
      · obtain ⟨u, e1⟩ := d.box.some2
        rw [z2, e1] at e; cases e
      · rw [d.keep a z1 z2] at e
        exact e
section
variable {P : Program} {w : World} {K : Frg} {mg : Str → Option Value} {base : Heap} {x qual : Str} {params : Arguments} {body : List Stmt} {scope : Scope} {dvs : List V} {kws : List (Str × V)} {f : Addr} {fd : FuncData} {N ps : List Str} {k : Nat}
theorem fn_box (Fn : FunD K x qual params body scope dvs kws f fd) (S : FnScope N ps scope) (hN : N.length = 2) (hp : ps.length = 1)
    (der : ∀ (pn : List (Addr × Obj)) (cd : Value) (A : Around) (outer : List Env) (s : Shared) (H : Hp) (E : XK), PSs (cxG true pn P w K mg base N qual scope f cd A outer s H E) body (tBox K)) : FnO false P w K mg base (k + 1) f fd ps (spBox K) := by
  refine fn_o false Fn S (fun vs H Q E ⟨a, ns, e, _⟩ => by rw [e, hp] <;> rfl) fun cm pn cd A outer s H vs Q E hcm he hs => ?_
  obtain rfl := hcm rfl
  obtain ⟨a, ns, rfl, hl, hq, h⟩ := hs
  exact ⟨_, der pn cd A outer s H E, box_run hN hl hq h⟩
theorem fn_draw (Fn : FunD K x qual params body scope dvs kws f fd) (S : FnScope N ps scope) (hN : N.length = 7) (hp : ps.length = 2)
    (der : ∀ (pn : List (Addr × Obj)) (cd : Value) (A : Around) (outer : List Env) (s : Shared) (H : Hp) (E : XK), PSs (cxG true pn P w K mg base N qual scope f cd A outer s H E) body (tDraw K)) : FnO false P w K mg base (k + 1) f fd ps (spP K cDraw) := by
  refine fn_o false Fn S (fun vs H Q E ⟨B, μ, G, as, q, z, _, r, hc, _⟩ => by obtain ⟨n, e, _⟩ := cDraw_inv hc; rw [r.length, e, hp] <;> rfl) fun cm pn cd A outer s H vs Q E hcm he hs => ?_
  obtain rfl := hcm rfl
  obtain ⟨B, μ, G, as, q, z, o, r, hc, hq, hx⟩ := hs
  obtain ⟨n, rfl, n0, n1, hq0⟩ := cDraw_inv hc
  refine ⟨_, der pn cd A outer s H E, ?_⟩
  obtain ⟨v0, ws, rfl, r0, r⟩ := r.cons_inv
  obtain ⟨v1, ws, rfl, r1, r⟩ := r.cons_inv
  obtain rfl := r.nil_inv
  obtain ⟨b, c, hb, rfl⟩ := r0.box_inv
  obtain rfl := r1.int_inv
  refine draw_run hN n0 n1 (o.box _ _ hb).1 fun i H' i0 i1 d => ?_
  exact hq (.int i) _ μ G H' (hq0 i i0 i1) (d.go o hb) (rep_int i)
/-- a call by a raw promise -/
def tRaw (W : WX) (sp : Sp) (t : TA) : TE := fun σ H Q => t σ H fun vs H1 => sp vs H1 Q fun cls d H' => W cls d σ H'
theorem pe_raw {X : Cx} {W : WX} {hot : Bool} {k : Nat} {f : Addr} {sp : Sp} {x : Str} {p0 pos : Pos} {e : Expr} {es : List Expr} {t : TA} (Fn : FnS hot X.prog X.w X.K X.mg X.base k f [] sp) (md : Md X hot) (hr : L2H.RoomH k X.A) (tk : L2N.Takes X W) (hm : X.mg x = some (.ref f)) (hk : PySem.W.keepIn X.K (.ref f) = true) (ha : PA X (e :: es) t) (hg : Gl X x := by rfl)
    (h1 : (x == ("__debug__" : Str)) = false := by decide) (h2 : starEach (e :: es) X.env = (false, eval e X.env) :: starEach es X.env := by rfl) (h3 : (backTo pos (starEach es X.env)).any (·.1) = false := by rfl) : PE X (.Call (.Name x p0) (e :: es) [] pos) (tRaw W sp t) := by
  refine ⟨fun pins s σ H Q J h => ?_⟩
  refine wpAny_Call_Name_kw (ld_glob J hg hm ?_ h1)
  refine PySem.W.callWith_K (h₀ := X.base) J.ok.mod.kin hk (thn (ha.run pos pins s σ H _ J h) fun us s1 ⟨vs, H1, J1, r, q1⟩ => ⟨J1.kIn, ?_⟩) h2 h3
  exact run_s (ws := []) Fn md hr tk J1 rfl (by rw [List.append_nil]; exact r) q1
def spLaw (K : Frg) : Sp := fun vs H Q _ => ∃ (a : Addr) (ns : List Int), vs = [.ref a] ∧ ns.length ≤ 63 ∧ SqL K H a (ns.map V.int) ∧ ∀ H', Q (.bl true) H'
def lawE (n : Nat) : En := none :: some .box :: List.replicate n none
def lawEnds : DEn := { nx := fun _ _ => False, rt := fun p _ => p = .bl true, xc := fun _ _ _ => False }
def mu0 : Mu := fun _ => none
theorem fn_law {n : Nat} {st : Stmt} {rest : List Stmt} {d : DS} (Fn : FunD K x qual params body scope dvs kws f fd) (S : FnScope N ps scope) (hb : body = st :: rest) (hN : N.length = n + 2) (hp : ps.length = 1)
    (first : ∀ (pn : List (Addr × Obj)) (cd : Value) (A : Around) (outer : List Env) (s : Shared) (H : Hp) (E : XK), Here false (cxG true pn P w K mg base N qual scope f cd A outer s H E) (fun cls dd _ H' => E cls dd H') k →
      PS (cxG true pn P w K mg base N qual scope f cd A outer s H E) st (tAsg (tRaw (fun cls dd _ H' => E cls dd H') (spBox K) (tCons (tVar 0) tNil)) (gName 1)))
    (der : ∀ (pn : List (Addr × Obj)) (cd : Value) (A : Around) (outer : List Env) (s : Shared) (H : Hp) (E : XK), Here false (cxG true pn P w K mg base N qual scope f cd A outer s H E) (fun cls dd _ H' => E cls dd H') k →
      BJ (cxG true pn P w K mg base N qual scope f cd A outer s H E) (fun cls dd _ H' => E cls dd H') rest d)
    (pure_ : d lawEnds (lawE n) mu0) : FnO false P w K mg base (k + 1) f fd ps (spLaw K) := by
  refine fn_o false Fn S (fun vs H Q E ⟨a, ns, e, _⟩ => by rw [e, hp] <;> rfl) fun cm pn cd A outer s H vs Q E hcm he hs => ?_
  obtain rfl := hcm rfl
  obtain ⟨a, ns, rfl, hl, hq, h⟩ := hs
  refine ⟨_, by rw [hb]; exact pss_cons (first pn cd A outer s H E he) (der pn cd A outer s H E he), ?_⟩
  have s0 : L2.start N [.ref a] = some (.ref a) :: none :: List.replicate n none := by
    unfold L2.start
    rw [hN] <;> rfl
  rw [s0]
  refine ⟨_, rfl, a, ns, rfl, hl, hq, fun b c H' ms sub hb hc nbc lm e1 e2 => ?_⟩
  refine ⟨some (b, c), lawE n, mu0, H, lawEnds, ⟨⟨sub, fun _ _ z => (nomatch z), fun b' c' e => ?_⟩, ?_, fun i t e => ?_⟩, pure_, ⟨fun _ _ _ _ _ z => z.elim, fun p v μ' G' H'' e _ r => ?_, fun _ _ _ _ _ z => z.elim, fun _ _ _ _ _ z => z.elim, fun _ _ _ _ _ _ _ z => z.elim⟩⟩
  · cases e
    exact ⟨⟨nbc, ms, 0, 1, e1, e2, by decide, by decide, by decide, lm⟩, hb, hc⟩
  · show (List.set (some (V.ref a) :: none :: List.replicate n none) 1 (some (V.ref b))).length = (lawE n).length
    unfold lawE
    simp
  · unfold lawE at e
    match i, e with
    | 0, e => cases e
    | 1, e => cases e; exact ⟨.ref b, rfl, (by show Rep K (some (b, c)) H .box (.ref b); simp only [Rep]; exact ⟨b, c, rfl, rfl⟩)⟩
    | i + 2, e =>
      have e : (List.replicate n (none : Option PV))[i]? = some (some t) := e
      rw [List.getElem?_replicate] at e
      split at e <;> cases e
  · have e : p = .bl true := e
    subst e
    obtain rfl := r.bl_inv
    exact h H''
end
/-! ## x = [e for ..]: the target is stored within the comprehension's frame -/
section
variable {X : Cx} {W : WX} {y : Str} {py spos : Pos} {elt tg iter : Expr} {ifs : List Expr} {scope : Scope} {own : List (Str × Nat)} {pos : Pos} {di : DI} {dt : DT} {de : DE} {t : Tg}
theorem s_setLC (i : Nat) (hc : X.calm = true) (nd : X.N.Nodup) (hsw : swapsWith (.ListComp elt [⟨tg, iter, ifs, 0⟩] scope pos) (some (.Name y py)) spos.line X.env = pure true) (hi : IJ X W tg iter di) (ok : BlkOk X.N X.env.scope scope own)
    (hg : ∀ (s : Shared) (H : Hp) (C : Addr) (cl : List (Str × Addr)) (fp : List Addr), PG (X.blk s H scope (compEnvC scope cl C X.env) fp) tg (tgOf X.K t)) (ht : ∀ (s : Shared) (H : Hp) (C : Addr) (cl : List (Str × Addr)) (fp : List Addr), TsJ (X.blk s H scope (compEnvC scope cl C X.env) fp) Wno ifs dt)
    (he : ∀ (s : Shared) (H : Hp) (C : Addr) (cl : List (Str × Addr)) (fp : List Addr), EJ (X.blk s H scope (compEnvC scope cl C X.env) fp) Wno elt de) (hw : ∀ i ∈ t.idx, i ∈ own.map (·.2) := by decide) (hy : X.N[i]? = some y := by rfl) (hyl : X.env.scope.names.lookup y = some .local := by rfl) (hs : ∀ x, foldedSetIterable iter X.env x = pure x := by intro _; rfl) :
    SJ X W (.Assign [.Name y py] (.ListComp elt [⟨tg, iter, ifs, 0⟩] scope pos) spos) (dSet i (dNew (lComp t (own.map (·.2)) di dt de))) := ps_imp (ps_setLc (i := i) hc nd hy hyl hsw hi ok hg ht he hs) fun D σ H ⟨B, ρ, μ, G, P, R, h, eo⟩ =>
  tlc_of hw ⟨B, ρ, μ, G, _, _, R, h, fun ps l vs μ' G' H' hp g hl gl ml h2 rs => by
    have g2 := g.take hl h2 gl (R.ok.notB hl) (c := .lst ps) ⟨vs, rfl, rs⟩
    exact eo.nx _ _ _ _ _ (hp l ml) ((R.go g2).set i (rep_cell l)) g2, eo.gx R⟩
/-- .. and it is never changed -/
theorem s_setLN (i : Nat) (hc : X.calm = true) (nd : X.N.Nodup) (hsw : swapsWith (.ListComp elt [⟨tg, iter, ifs, 0⟩] scope pos) (some (.Name y py)) spos.line X.env = pure true) (hi : IJ X W tg iter di) (ok : BlkOk X.N X.env.scope scope own)
    (hg : ∀ (s : Shared) (H : Hp) (C : Addr) (cl : List (Str × Addr)) (fp : List Addr), PG (X.blk s H scope (compEnvC scope cl C X.env) fp) tg (tgOf X.K t)) (ht : ∀ (s : Shared) (H : Hp) (C : Addr) (cl : List (Str × Addr)) (fp : List Addr), TsJ (X.blk s H scope (compEnvC scope cl C X.env) fp) Wno ifs dt)
    (he : ∀ (s : Shared) (H : Hp) (C : Addr) (cl : List (Str × Addr)) (fp : List Addr), EJ (X.blk s H scope (compEnvC scope cl C X.env) fp) Wno elt de) (hw : ∀ i ∈ t.idx, i ∈ own.map (·.2) := by decide) (hy : X.N[i]? = some y := by rfl) (hyl : X.env.scope.names.lookup y = some .local := by rfl) (hs : ∀ x, foldedSetIterable iter X.env x = pure x := by intro _; rfl) :
    SJ X W (.Assign [.Name y py] (.ListComp elt [⟨tg, iter, ifs, 0⟩] scope pos) spos) (dSet i (dLst (lComp t (own.map (·.2)) di dt de))) := ps_imp (ps_setLc (i := i) hc nd hy hyl hsw hi ok hg ht he hs) fun D σ H ⟨B, ρ, μ, G, P, R, h, eo⟩ =>
  tlc_of hw ⟨B, ρ, μ, G, _, _, R, h, fun ps l vs μ' G' H' hp g hl gl ml h2 rs => by
    have g2 := g.take1 hl h2 gl ml (R.ok.notB hl)
    exact eo.nx _ _ _ _ _ hp ((R.go g2).set i (rep_lst upd_same (rs.mono (.upd gl)))) g2, eo.gx R⟩
end
end Px

/-! # signs and built-ins that the text's own classes answer -/
namespace Px
open PySem PySem.Spec PyProof.Rows L2
theorem relv_ni {v : V} (h : RelV v .notImplemented) : False := by
  cases v <;> first | (obtain ⟨_, h⟩ := h; cases h) | cases h
theorem back_of {X : Cx} {pins : List (Addr × Obj)} {σ : L2.St} {Q : VK} {u : Value} {s' : Shared} (h : EP X pins σ Q u s') : PySem.W.CmpBack (EP X pins σ Q) u s' := by
  cases u
  case notImplemented =>
    obtain ⟨v, H', J, r, _⟩ := h
    exact relv_ni r
  all_goals exact h
section
open PySem.Calls PySem.W
theorem bool_own {prog : Program} {w : World} {A : Around} {E : Value → Shared → Prop} {s : Shared} {K : Frag} {x C f : Addr} {ox : Obj} {od : Option Obj} {Q : Value → Shared → Prop} {h₀ : Heap} {L : Addr} {m : Str → Option Value} (FF : Fr h₀ L s.heap m) (X₀ : K.In h₀) (I : InstAt s.heap x ox C od) (hs : findIn K (.ref C) "__bool__" = some (some (.ref f))) (hf : isFn K (.ref f) = true)
    (h : wpAny (model prog w) A.in1.in1 (call (.ref f) [.ref x]) (PySem.W.BoolBack fun b s' => Q (.bool b) s') E s) : wpAny (model prog w) A (call (.type "bool") [.ref x]) Q E s := by
  refine callType_codes (T := "bool") (Bi := Builtin.«object.__init__») (Q₁ := fun r s₁ => ∃ y, r = .bool y ∧ Q r s₁) PySem.F.called_bool (PySem.F.typeCall_bool_1 _) PySem.F.entry_object_init ?_ ?_
  · refine codeAny_of_tree ?_
    show wpAny _ A.in1.in1 (do checkBuiltinCall "bool.__new__" ⟨[.type "bool", .ref x], []⟩; again (.builtin "bool.__new__" ⟨[.type "bool", .ref x], []⟩)) _ _ s
    refine wpAny_bind (wpAny_of_eq (PySem.F.newCall_bool_1 _) (wpAny_pure ⟨plainId_quiet (by decide +kernel) _, codeAny_builtin PySem.F.entry_bool_new ?_⟩))
    rw [Around.under_plainId (by decide +kernel) _]
    obtain ⟨hp, g, d, tk, os⟩ := s
    have f1 := PySem.F.conv_sub_bool
    repeat (any_goals (first | assumption | (with_reducible refine PySem.W.truthy_K FF X₀ I hs hf (wpAny_mono h (fun u s' hu => ?_) fun _ _ z => z)) | wp_step))
    cases u <;> first | exact hu.elim | skip
    rename_i b
    show wpAny _ _ (ret (Value.bool b)) _ _ _
    exact wpAny_pure ⟨b, rfl, hu⟩
  · rintro obj s₁ ⟨y, rfl, hq⟩
    exact ⟨PySem.typeIs_bool _ _, PySem.F.args_object_init_2 _ _, object_init_meets PySem.F.called_bool.init.lookup PySem.F.called_bool.made (by decide) prog w A.in1 _ s₁ ⟨PySem.typeIs_bool _ _, rfl, hq⟩⟩
end
/-! ## a + b, ~a -/
def ownB (tab : Cl → Option Ct) : FO := fun a b μ q x => match a with
  | .obj c xs => (match b with
    | .obj d ys => br (decide (d = c)) (match tab c with
      | some ct => ct [.obj c xs, .obj d ys] μ q x
      | none => False) False
    | _ => False)
  | _ => False
def binD (f : F2) (tab : Cl → Option Ct) : FO := fun a b μ q x => match a with
  | .obj c xs => ownB tab (.obj c xs) b μ q x
  | a => f μ a b (fun p => q p μ)
def ownU (tab : Cl → Option Ct) : FU := fun a μ q x => match a with
  | .obj c xs => (match tab c with
    | some ct => ct [.obj c xs] μ q x
    | none => False)
  | _ => False
def noT : Cl → Option Ct := fun _ => none
theorem ownB_inv {tab : Cl → Option Ct} {a b : PV} {μ : Mu} {q : QV} {x : QX} (h : ownB tab a b μ q x) : ∃ c xs ys ct, a = .obj c xs ∧ b = .obj c ys ∧ tab c = some ct ∧ ct [a, b] μ q x := by
  cases a with
  | obj c xs =>
    cases b with
    | obj d ys =>
      obtain ⟨e, h⟩ := br_and h
      have e := of_decide_eq_true e
      subst e
      cases e2 : tab d with
      | none => simp only [e2] at h
      | some ct => simp only [e2] at h; exact ⟨d, xs, ys, ct, rfl, rfl, e2, h⟩
    | _ => exact h.elim
  | _ => exact h.elim
section
variable {X : Cx} {W : WX} {hot : Bool} {k : Nat} {m : Str} {pos : Pos} {a b : Expr} {da db : DE} {tab : Cl → Option Ct}
theorem inst_at {pins : List (Addr × Obj)} {σ : L2.St} {H : Hp} {s : Shared} {p C dx : Addr} {fs : List (Str × V)} (J : Inv X pins σ H s) (e : H p = some (.ins C dx fs)) : ∃ od, PySem.W.InstAt s.heap p (PySem.W.instObj C dx) C (some od) := by
  obtain ⟨mA, O, _⟩ := ins_get J.hok e
  obtain ⟨od, I, _⟩ := O.look
  exact ⟨od, I⟩
theorem oj_own {op : Operator} (T : MTab hot X k m [] tab) (sf : ∀ c ct, tab c = some ct → PySem.W.selfFirst X.K (ca X.K c) = true) (md : Md X hot) (hr : L2H.RoomH k X.A) (tk : L2N.Takes X W) (hop : PySem.dunder op.info.2 = m := by rfl) : OpJ X W (binaryOp op) (ownB tab) := fun pins s σ H B ρ μ G p r va vb u u2 q z Q J R rp rr rv rw2 h gv gx => by
  obtain ⟨c, fs, gs, ct, rfl, rfl, et, hc⟩ := ownB_inv h
  obtain ⟨x, dx, vs, rfl, _, ex, _⟩ := rp.obj_inv
  obtain ⟨y, dy, ws, rfl, _, ey, _⟩ := rr.obj_inv
  obtain rfl : u = Value.ref x := rv
  obtain rfl : u2 = Value.ref y := rw2
  obtain ⟨_, f, _, me, Fn⟩ := T c ct et
  obtain ⟨od, I1⟩ := inst_at J (R.ok.sub _ _ ex)
  obtain ⟨od2, I2⟩ := inst_at J (R.ok.sub _ _ ey)
  obtain ⟨mm, fr⟩ := J.fr
  exact PySem.W.binop_K fr J.ok.mod.kin I1 I2.type (sf c ct et) (by rw [hop]; exact me.at_) me.fn (wpAny_mono (run_s (us := [.ref x, .ref y]) (ws := []) (vs := [.ref x, .ref y]) (Q := Q) Fn md hr tk J rfl (by rw [List.append_nil]; exact .cons rfl (.cons rfl .nil)) (spP_of R (.cons rp (.cons rr .nil)) hc gv gx)) (fun _ _ z => back_of z) fun _ _ z => z)
theorem OpJ.withOwn {op : Value → Value → Sem Value} {f : F2} (h : OpJ X W op (fo f)) (g : OpJ X W op (ownB tab)) : OpJ X W op (binD f tab) := h.or g fun a b μ q x z => by
  cases a with
  | obj c xs => exact .inr z
  | _ => exact .inl z
theorem uj_own (T : MTab hot X k "__invert__" [] tab) (md : Md X hot) (hr : L2H.RoomH k X.A) (tk : L2N.Takes X W) : UnJ X W (unaryOp .Invert) (ownU tab) := fun pins s σ H B ρ μ G p v u q z Q J R rp rv h gv gx => by
  cases p with
  | obj c fs =>
    unfold ownU at h
    cases et : tab c with
    | none => simp only [et] at h
    | some ct =>
      simp only [et] at h
      obtain ⟨x, dx, vs, rfl, _, ex, _⟩ := rp.obj_inv
      obtain rfl : u = Value.ref x := rv
      obtain ⟨_, f, _, me, Fn⟩ := T c ct et
      obtain ⟨od, I1⟩ := inst_at J (R.ok.sub _ _ ex)
      obtain ⟨mm, fr⟩ := J.fr
      exact PySem.W.ksp_inv fr J.ok.mod.kin I1 me.at_ me.fn (run_s (us := [.ref x]) (ws := []) (vs := [.ref x]) (Q := Q) Fn md hr tk J rfl (by rw [List.append_nil]; exact .cons rfl .nil) (spP_of R (.cons rp .nil) h gv gx))
  | _ => exact h.elim

/-! ## defs called from within a builtin: they raise nothing -/
theorem run_in {A' : Around} {pins : List (Addr × Obj)} {σ : L2.St} {H : Hp} {s : Shared} {Q : VK} {f : Addr} {sp : Sp} {us : List Value} {vs : List V} {E : Value → Shared → Prop} (Fn : FnS hot X.prog X.w X.K X.mg X.base k f [] sp) (hc : X.calm = true) (hf : A'.frames = X.A.frames) (hh : A'.handled = X.A.handled) (hr : L2H.RoomH k A') (J : Inv X pins σ H s)
    (r : Vals vs us) (h : sp vs H Q (fun _ _ _ => False)) : wpAny (model X.prog X.w) A' (call (.ref f) us) (EP X pins σ Q) E s := by
  have e := J.env0
  have e0 : Env0 X.prog X.w X.K X.mg X.base A' X.stack s H := ⟨by rw [hf]; exact e.frames, e.mod, e.bs, e.bsz, e.funs, e.frf, e.hok, e.bare⟩
  refine wpAny_call (codeAny_mono (Fn A' X.stack s H us [] vs Q _ (.inl (by rw [hh]; exact J.ok.hd hc)) hr e0 rfl (by rw [List.append_nil]; exact r) h) fun rr s' hq => ?_)
  cases rr with
  | error er =>
    have z : L2N.XE X Wno er s' := L2N.XE.of_call J (fun _ _ _ z => z) hq
    obtain ⟨_, _, _, _, _, _, _, _, _, _, _, _, _, _, _, _, w⟩ := z
    exact w.elim
  | ok fl =>
    cases fl with
    | ret u => exact J.after hq
    | next => exact False.elim hq
    | brk => exact False.elim hq
    | cont => exact False.elim hq
theorem room_in {k n : Nat} {A : Around} (h : L2H.RoomH (k + 1) A) (hn : n ≤ 16) : L2H.RoomH k { A with units := A.units + n } := ⟨by have := h.dp; show A.depth + 3 * k + 5 < _; omega, by have := h.un; show A.units + n + 16 * k + 200 < _; omega⟩
theorem spP_ok {K : Frg} {ct : Ct} {B : BX} {μ : Mu} {G H : Hp} {ps : List PV} {vs : List V} {q : QV} {Q : VK} (o : Ok K B μ G H) (r : Reps K B G ps vs) (h : ct ps μ q (fun _ _ => False)) (gv : GoodV K B μ G H q Q) : spP K ct vs H Q (fun _ _ _ => False) :=
  ⟨B, μ, G, ps, q, fun _ _ => False, o, r, h, gv, fun _ _ _ _ _ z => z.elim⟩
/-- what a builtin does with an own object: the def's promise, its value in ok -/
def rOwn1 (K : Frg) (tab : Cl → Option Ct) (ok : V → Prop) : List V → Hp → VK → Prop := fun vs H Q => ∃ c ct x dx ws, tab c = some ct ∧ vs = [.ref x] ∧ H x = some (.ins (ca K c) dx ws) ∧ spP K ct vs H (fun v H' => ok v ∧ Q v H') (fun _ _ _ => False)
def own1 (tab : Cl → Option Ct) (ok : QV → QV) : FC := fun ps μ q _ => match ps with
  | [.obj c xs] => (match tab c with
    | some ct => ct [.obj c xs] μ (ok q) noX
    | none => False)
  | _ => False
theorem cj_own {fn : Value} {ok : QV → QV} {okv : V → Prop} (h1 : ∀ (B : BX) (G : Hp) p v q μ, ok q p μ → Rep X.K B G p v → okv v ∧ q p μ) (ho : CallR X fn (rOwn1 X.K tab okv)) : CaJ X W fn (own1 tab ok) := fun pins s σ H B ρ μ G ps vs us q x Q J R rs ru h gv gx => by
  unfold own1 at h
  split at h
  · rename_i c xs
    cases et : tab c with
    | none => simp only [et] at h
    | some ct =>
      simp only [et] at h
      refine ho pins s σ H vs us Q J ru ?_
      obtain ⟨v, ws, rfl, r1, rn⟩ := rs.cons_inv
      obtain rfl := rn.nil_inv
      obtain ⟨y, dx, ys, rfl, _, ey, _⟩ := r1.obj_inv
      exact ⟨c, ct, y, dx, _, et, rfl, R.ok.sub _ _ ey, spP_ok R.ok rs h fun p v μ' G' H' hp g rr => by
        obtain ⟨o1, o2⟩ := h1 _ _ p v q μ' hp rr
        exact ⟨o1, gv p v μ' G' H' o2 g rr⟩⟩
  · exact h.elim
def okLen (q : QV) : QV := fun p μ => match p with
  | .int n => 0 ≤ n ∧ n < 2 ^ 63 ∧ q (.int n) μ
  | _ => False
def okStr (q : QV) : QV := fun p μ => match p with
  | .str z => q (.str z) μ
  | _ => False
def okBl (q : QV) : QV := fun p μ => match p with
  | .bl z => q (.bl z) μ
  | _ => False
theorem ow_len {K : Frg} (B : BX) (G : Hp) (p : PV) (v : V) (q : QV) (μ : Mu) (h : okLen q p μ) (r : Rep K B G p v) : (∃ n : Int, v = .int n ∧ 0 ≤ n ∧ n < 2 ^ 63) ∧ q p μ := by
  cases p with
  | int n => exact ⟨⟨n, r.int_inv, h.1, h.2.1⟩, h.2.2⟩
  | _ => exact h.elim
theorem ow_str {K : Frg} (B : BX) (G : Hp) (p : PV) (v : V) (q : QV) (μ : Mu) (h : okStr q p μ) (r : Rep K B G p v) : (∃ z : Str, v = .str z) ∧ q p μ := by
  cases p with
  | str n => exact ⟨⟨n, r.str_inv⟩, h⟩
  | _ => exact h.elim
theorem ow_bl {K : Frg} (B : BX) (G : Hp) (p : PV) (v : V) (q : QV) (μ : Mu) (h : okBl q p μ) (r : Rep K B G p v) : (∃ z : Bool, v = .bl z) ∧ q p μ := by
  cases p with
  | bl n => exact ⟨⟨n, r.bl_inv⟩, h⟩
  | _ => exact h.elim
theorem cr_len (T : MTab hot X k "__len__" [] tab) (hc : X.calm = true) (hr : L2H.RoomH (k + 1) X.A) : CallR X (.builtin "len") (rOwn1 X.K tab fun v => ∃ n : Int, v = .int n ∧ 0 ≤ n ∧ n < 2 ^ 63) := by
  intro pins s σ H xs us Q J r h
  obtain ⟨c, ct, x, dx, ws, et, rfl, ex, hs⟩ := h
  obtain ⟨_, f, _, me, Fn⟩ := T c ct et
  cases r with
  | cons r0 rn =>
    cases rn
    cases r0
    obtain ⟨od, I⟩ := inst_at J ex
    obtain ⟨mm, fr⟩ := J.fr
    refine PySem.W.len_K fr J.ok.mod.kin I me.at_ me.fn (wpAny_mono (run_in (A' := X.A.in1) (vs := [.ref x]) Fn hc rfl rfl (room_in hr (n := 1) (by decide)) J (.cons rfl .nil) hs) (fun u s' hu => ?_) fun _ _ z => z)
    obtain ⟨v, H', J', rv, ⟨n, rfl, n0, n1⟩, hQ⟩ := hu
    obtain ⟨t, rfl⟩ := rv
    exact ⟨⟨n0, n1⟩, .int n, H', J'.tok _, ⟨_, rfl⟩, hQ⟩
theorem cr_repr (T : MTab hot X k "__repr__" [] tab) (hc : X.calm = true) (hr : L2H.RoomH (k + 1) X.A) : CallR X (.builtin "repr") (rOwn1 X.K tab fun v => ∃ z : Str, v = .str z) := by
  intro pins s σ H xs us Q J r h
  obtain ⟨c, ct, x, dx, ws, et, rfl, ex, hs⟩ := h
  obtain ⟨_, f, _, me, Fn⟩ := T c ct et
  cases r with
  | cons r0 rn =>
    cases rn
    cases r0
    obtain ⟨od, I⟩ := inst_at J ex
    obtain ⟨mm, fr⟩ := J.fr
    refine PySem.W.repr_K (by have := hr.un; show X.A.units + 1 < _; omega) fr J.ok.mod.kin I me.at_ me.fn (wpAny_mono (run_in (A' := X.A.in1) (vs := [.ref x]) Fn hc rfl rfl (room_in hr (n := 1) (by decide)) J (.cons rfl .nil) hs) (fun u s' hu => ?_) fun _ _ z => z)
    obtain ⟨v, H', J', rv, ⟨z, rfl⟩, hQ⟩ := hu
    obtain ⟨t, rfl⟩ := rv
    exact ⟨.str z, H', J', ⟨_, rfl⟩, hQ⟩
theorem cr_str (T : MTab hot X k "__str__" [] tab) (hc : X.calm = true) (hr : L2H.RoomH (k + 1) X.A) : CallR X (.type "str") (rOwn1 X.K tab fun v => ∃ z : Str, v = .str z) := by
  intro pins s σ H xs us Q J r h
  obtain ⟨c, ct, x, dx, ws, et, rfl, ex, hs⟩ := h
  obtain ⟨_, f, _, me, Fn⟩ := T c ct et
  cases r with
  | cons r0 rn =>
    cases rn
    cases r0
    obtain ⟨od, I⟩ := inst_at J ex
    refine PySem.W.kso_call (by have := hr.un; show X.A.units + 1 + 1 < _; omega) J.kIn I me.at_ me.fn (wpAny_mono (run_in (A' := X.A.in1.in1) (vs := [.ref x]) Fn hc rfl rfl (room_in hr (n := 2) (by decide)) J (.cons rfl .nil) hs) (fun u s' hu => ?_) fun _ _ z => z)
    obtain ⟨v, H', J', rv, ⟨z, rfl⟩, hQ⟩ := hu
    obtain ⟨t, rfl⟩ := rv
    exact ⟨.str z, H', J', ⟨_, rfl⟩, hQ⟩
theorem cr_bool (T : MTab hot X k "__bool__" [] tab) (hc : X.calm = true) (hr : L2H.RoomH (k + 1) X.A) : CallR X (.type "bool") (rOwn1 X.K tab fun v => ∃ z : Bool, v = .bl z) := by
  intro pins s σ H xs us Q J r h
  obtain ⟨c, ct, x, dx, ws, et, rfl, ex, hs⟩ := h
  obtain ⟨_, f, _, me, Fn⟩ := T c ct et
  cases r with
  | cons r0 rn =>
    cases rn
    cases r0
    obtain ⟨od, I⟩ := inst_at J ex
    obtain ⟨mm, fr⟩ := J.fr
    refine bool_own fr J.ok.mod.kin I me.at_ me.fn (wpAny_mono (run_in (A' := X.A.in1.in1) (vs := [.ref x]) Fn hc rfl rfl (room_in hr (n := 2) (by decide)) J (.cons rfl .nil) hs) (fun u s' hu => ?_) fun _ _ z => z)
    obtain ⟨v, H', J', rv, ⟨z, rfl⟩, hQ⟩ := hu
    cases rv
    exact ⟨.bl z, H', J', rfl, hQ⟩

/-- a builtin of one value: own objects answer by their table -/
def bltD (f : Mu → List PV → (PV → Prop) → Prop) (tab : Cl → Option Ct) (ok : QV → QV) : FC := fun ps μ q x => match ps with
  | [.obj c xs] => own1 tab ok [.obj c xs] μ q x
  | ps => f μ ps (fun p => q p μ)
theorem CaJ.withOwn {fn : Value} {f : Mu → List PV → (PV → Prop) → Prop} {ok : QV → QV} (h : CaJ X W fn (fc f)) (g : CaJ X W fn (own1 tab ok)) : CaJ X W fn (bltD f tab ok) := h.or g fun ps μ q x z => by
  unfold bltD at z
  split at z
  · exact .inr z
  · exact .inl z
theorem cj_lenO (T : MTab hot X k "__len__" [] tab) (hc : X.calm = true) (hr : L2H.RoomH (k + 1) X.A) : CaJ X W (.builtin "len") (bltD fLen tab okLen) := cj_len.withOwn (cj_own ow_len (cr_len T hc hr))
theorem cj_boolO (T : MTab hot X k "__bool__" [] tab) (hc : X.calm = true) (hr : L2H.RoomH (k + 1) X.A) : CaJ X W (.type "bool") (bltD fBool tab okBl) := cj_bool.withOwn (cj_own ow_bl (cr_bool T hc hr))
def fNo : Mu → List PV → (PV → Prop) → Prop := fun _ _ _ => False
theorem cj_reprO (T : MTab hot X k "__repr__" [] tab) (hc : X.calm = true) (hr : L2H.RoomH (k + 1) X.A) : CaJ X W (.builtin "repr") (own1 tab okStr) := cj_own ow_str (cr_repr T hc hr)
/-- str(..) of an int -/
def fStr : Mu → List PV → (PV → Prop) → Prop := fun _ ps q => match ps with
  | [.int i] => i.natAbs.log2 < 1920 ∧ q (.str (toString i))
  | _ => False
theorem pcl_str {K : Frg} : PCl K (fun xs H Q => ∃ i, xs = [.int i] ∧ i.natAbs.log2 < 1920 ∧ Q (.str (toString i)) H) fStr := fun B μ G H ps vs q Q o rs h gv => by
  unfold fStr at h
  split at h
  · exact ⟨_, rs.int1, h.1, gv _ _ _ _ h.2 (.refl o) (rep_str _)⟩
  · exact h.elim
theorem cj_strO (T : MTab hot X k "__str__" [] tab) (hc : X.calm = true) (hr : L2H.RoomH (k + 1) X.A) : CaJ X W (.type "str") (bltD fStr tab okStr) := CaJ.withOwn (.of call_str_int pcl_str) (cj_own ow_str (cr_str T hc hr))
/-! ## truth -/
def trD (tab : Cl → Option Ct) : FT := fun p μ q x => match p with
  | .bl b => q b μ
  | .obj c xs => (match tab c with
    | some ct => ct [.obj c xs] μ (qB q) noX
    | none => False)
  | _ => False
theorem tj_own (T : MTab hot X k "__bool__" [] tab) (hc : X.calm = true) (hr : L2H.RoomH k X.A) : TrJ X W (trD tab) := fun pins s σ H B ρ μ G p v u q x Q J R rp ru h gv gx => by
  cases p with
  | bl b =>
    rw [rp.bl_inv] at ru
    cases ru
    exact wpAny_truthy_bool ⟨H, J, gv b μ G H h (.refl R.ok)⟩
  | obj c fs =>
    unfold trD at h
    cases et : tab c with
    | none => simp only [et] at h
    | some ct =>
      simp only [et] at h
      obtain ⟨y, dx, vs, rfl, _, ey, _⟩ := rp.obj_inv
      obtain rfl : u = Value.ref y := ru
      obtain ⟨_, f, _, me, Fn⟩ := T c ct et
      obtain ⟨od, I⟩ := inst_at J (R.ok.sub _ _ ey)
      obtain ⟨mm, fr⟩ := J.fr
      refine PySem.W.truthy_K fr J.ok.mod.kin I me.at_ me.fn (wpAny_mono (run_in (A' := X.A) (vs := [.ref y]) (Q := fun v H' => ∃ b, v = .bl b ∧ Q b H') Fn hc rfl rfl hr J (.cons rfl .nil) (spP_ok R.ok (.cons rp .nil) h fun p v μ' G' H' h0 g rr => ?_)) (fun w s' hw => ?_) fun _ _ z => z)
      · obtain ⟨b, rfl, hb⟩ := qB_inv h0
        exact ⟨b, rr.bl_inv, gv b μ' G' H' hb g⟩
      · obtain ⟨z, H', J', rz, b, rfl, hQ⟩ := hw
        cases rz
        exact ⟨H', J', hQ⟩
  | _ => exact h.elim
/-! ## b in a -/
def inD (tab : Cl → Option Ct) : FO := fun y p μ q x => match p with
  | .obj c xs => (match tab c with
    | some ct => ct [.obj c xs, y] μ (okBl q) noX
    | none => False)
  | p => inF false μ y p (fun r => q r μ)
theorem oj_inO (T : MTab hot X k "__contains__" [] tab) (hc : X.calm = true) (hr : L2H.RoomH k X.A) : OpJ X W (compareOp .In) (inD tab) := by
  refine OpJ.or (f := fo (inF false)) (g := fun y p μ q x => ∃ c xs ct, p = .obj c xs ∧ tab c = some ct ∧ ct [p, y] μ (okBl q) noX) oj_in (fun pins s σ H B ρ μ G y p vy vp uy up q x Q J R ry rp ruy rup ⟨c, xs, ct, e, et, h⟩ gv gx => ?_) fun y p μ q x h => ?_
  · subst e
    obtain ⟨z, dx, vs, rfl, _, ez, _⟩ := rp.obj_inv
    obtain rfl : up = Value.ref z := rup
    obtain ⟨_, f, _, me, Fn⟩ := T c ct et
    obtain ⟨od, I⟩ := inst_at J (R.ok.sub _ _ ez)
    obtain ⟨mm, fr⟩ := J.fr
    refine PySem.W.in_K fr J.ok.mod.kin I me.at_ me.fn (wpAny_mono (run_in (A' := X.A) (vs := [.ref z, vy]) (Q := fun v H' => ∃ b, v = .bl b ∧ Q (.bl b) H') Fn hc rfl rfl hr J (.cons rfl (.cons ruy .nil)) (spP_ok R.ok (.cons rp (.cons ry .nil)) h fun p v μ' G' H' h0 g rr => ?_)) (fun w s' hw => ?_) fun _ _ z => z)
    · cases p with
      | bl b => obtain rfl := rr.bl_inv; exact ⟨b, rfl, gv _ _ _ _ _ h0 g (rep_bl b)⟩
      | _ => exact h0.elim
    · obtain ⟨zz, H', J', rz, b, rfl, hQ⟩ := hw
      cases rz
      exact wpAny_truthy_bool ⟨.bl b, H', J', rfl, hQ⟩
  · cases p with
    | obj c xs =>
      unfold inD at h
      cases et : tab c with
      | none => simp only [et] at h
      | some ct => simp only [et] at h; exact .inr ⟨c, xs, ct, rfl, et, h⟩
    | _ => exact .inl h
/-! ## v(..): v a local that holds an own object -/
theorem callWith_own {M : Model} {B : Around} {EE : Value → Shared → Prop} {s0 : Shared} {y C : Addr} {oy : Obj} {args : List (Bool × Sem Value)} {kws : List (Option Str × Sem Value)} {pos : Pos} {R : Value → Shared → Prop} (plain : (args.any (·.1) || kws.any (·.1.isNone)) = false) (dt : oy.data = .plain)
    (run : wpAny M B (evalArgs (.ref y) true args kws) (fun v t => (∃ od, PySem.W.InstAt t.heap y oy C od) ∧ wpAny M B (call (.ref y) ([] ++ v.pos) v.kw) R EE t) EE s0) : wpAny M B (callWith pos (.ref y) [] args kws) R EE s0 := by
  unfold callWith
  refine wpAny_bind (wpAny_holding (wpAny_mono run (fun v t ⟨⟨od, I⟩, c⟩ => wpAny_bind (wpAny_standAt ?_)) fun _ _ z => z))
  simp only [plain]
  refine wpAny_bind ((PySem.W.kco_keeper (M := M) I dt).here ?_)
  have behind : ∀ {m : Sem Value}, wpAny M B m R EE t → wpAny M B (m >>= fun r => holding [r] point >>= fun _ => pure r) R EE t := fun hm => wpAny_bind (wpAny_mono hm (fun _ _ hr => wpAny_bind (wpAny_holding (wpAny_point (wpAny_pure hr)))) fun _ _ z => z)
  exact behind (wpAny_operateT c)
def dCallO (tab : Cl → Option Ct) (df : DE) (ds : DA) : DE := fun ρ μ q x => df ρ μ (fun p μ1 => match p with
  | .obj c xs => (match tab c with
    | some ct => ds ρ μ1 (fun ps μ2 => ct (.obj c xs :: ps) μ2 q x) x
    | none => False)
  | _ => False) x
theorem e_callO {x : Str} {p0 : Pos} {e : Expr} {es : List Expr} {df : DE} {ds : DA} (T : MTab false X k "__call__" [] tab) (hfn : ∀ c ct f, tab c = some ct → Meth X.K (ca X.K c) "__call__" f → PySem.W.fnIn X.K f = true) (hc : X.calm = true) (hr : L2H.RoomH k X.A) (tk : L2N.Takes X W) (hf : EJ X W (.Name x p0) df) (ha : AJ X W (e :: es) ds)
    (h2 : starEach (e :: es) X.env = (false, eval e X.env) :: starEach es X.env := by rfl) (h3 : (backTo pos (starEach es X.env)).any (·.1) = false := by rfl) : EJ X W (.Call (.Name x p0) (e :: es) [] pos) (dCallO tab df ds) := by
  refine ⟨fun pins s σ H Q J ⟨B, ρ, μ, G, q, z, R, h, gv, gx⟩ => ?_⟩
  refine wpAny_Call_Name_kw (thn (hf.run pins s σ H (fun v H1 => ∃ μ1 G1 c fs ct, Go X.K B μ G H μ1 G1 H1 ∧ Rep X.K B G1 (.obj c fs) v ∧ tab c = some ct ∧ ds ρ μ1 (fun ps μ2 => ct (.obj c fs :: ps) μ2 q z) z) J
    ⟨B, ρ, μ, G, _, z, R, h, fun p v μ1 G1 H1 h0 g1 r1 => by
      cases p with
      | obj c fs =>
        cases et : tab c with
        | none => simp only [et] at h0
        | some ct => simp only [et] at h0; exact ⟨μ1, G1, c, fs, ct, g1, r1, et, h0⟩
      | _ => exact h0.elim, gx⟩) fun u s1 ⟨v, H1, J1, rv, μ1, G1, c, fs, ct, g1, r1, et, h1⟩ => ?_)
  obtain ⟨y, dx, vs, rfl, _, ey, _⟩ := r1.obj_inv
  obtain rfl : u = Value.ref y := rv
  obtain ⟨_, f, _, me, Fn⟩ := T c ct et
  obtain ⟨od, I⟩ := inst_at J1 (g1.ok.sub _ _ ey)
  have hpl : ((backTo pos (starEach (e :: es) X.env)).any (·.1) || (backToKw pos (keywordEach [] X.env)).any (·.1.isNone)) = false := by
    rw [h2]
    show ((false || (backTo pos (starEach es X.env)).any (·.1)) || false) = false
    rw [h3] <;> rfl
  refine callWith_own (oy := PySem.W.instObj (ca X.K c) dx) (C := ca X.K c) hpl rfl ?_
  have run := ha.run pos pins s1 σ H1 (fun ws H2 => (∃ vs, H2 y = some (.ins (ca X.K c) dx vs)) ∧ spP X.K ct (.ref y :: ws) H2 Q fun cls d H' => W cls d σ H') J1
    ⟨B, ρ, μ1, G1, _, z, R.go g1, h1, fun ps ws μ2 G2 H2 h2 g2 r2 => ⟨⟨_, g2.ok.sub _ _ (g2.gx _ _ ey)⟩, spP_of (R.go (g1.trans g2)) (.cons (r1.mono g2.gx) r2) h2 (gv.go (g1.trans g2)) (gx.go (g1.trans g2))⟩, gx.go g1⟩
  rw [h2] at run ⊢
  refine PySem.Calls.evalArgs_plain (thn run fun us s2 ⟨ws, H2, J2, r, ⟨vs2, ey2⟩, q2⟩ => ?_)
  obtain ⟨od2, I2⟩ := inst_at J2 ey2
  refine ⟨⟨_, I2⟩, wpAny_call (PySem.W.kco_code J2.kIn I2 rfl me.at_ me.fn (hfn c ct f et me) (codeAny_mono (Fn X.A X.stack s2 H2 (.ref y :: us) [] (.ref y :: ws) Q _ (.inl (J2.ok.hd hc)) hr J2.env0 rfl (by rw [List.append_nil]; exact .cons rfl r) q2) fun rr s' hq => ?_))⟩
  cases rr with
  | error er => exact tk er s' (L2N.XE.of_call J2 (fun _ _ _ z => z) hq)
  | ok fl =>
    cases fl with
    | ret u => exact J2.after hq
    | next => exact False.elim hq
    | brk => exact False.elim hq
    | cont => exact False.elim hq
end
end Px

/-! # defs that say super().m(..): they hold the class in a cell; keywords -/
namespace Px
open PySem PySem.Spec PyProof.Rows L2
open NdefX (NF NScope CellsAt startF envF ncx inv_startN)
open PySem.W (findIn typeIn keepIn subIn clsIn nsIn codeIn alongIn fnX envX)
/-! ## keywords -/
section
variable {P : Program} {w : World} {K : Frg} {mg : Str → Option Value} {base : Heap} {x qual : Str} {params : Arguments} {body : List Stmt} {scope : Scope} {kws : List (Str × V)} {f : Addr} {fd : FuncData} {ps ks : List Str} {k : Nat} {sp : Sp}
/-- parameters by place, then those of ks by keyword -/
def BindsK (fd : FuncData) (ps ks : List Str) : Prop := ∀ (s : Shared) (us ws : List Value), ws.length = ks.length → us.length + ws.length = ps.length → BindsTo s fd ⟨us, ks.zip ws⟩ (ps.zip (us ++ ws))
theorem bindsK_of (F : FunD K x qual params body scope [] kws f fd) (h : ∀ (kV doc pm : Value) (an : Option Addr) (cdv ct : Value) (us ws : List Value), ws.length = ks.length → us.length + ws.length = ps.length → bindArgs (PySem.W.fnOf x qual params body scope .none kV doc pm an cdv ct) ⟨us, ks.zip ws⟩ = pure (ps.zip (us ++ ws))) : BindsK fd ps ks := by
  obtain ⟨oc, od, dV, kV, doc, pm, an, cdv, ct, osl, rfl, lk, hcd, hD, _⟩ := F.ex
  rcases hD with ⟨_, rfl⟩ | ⟨e, _⟩
  · exact fun s us ws h1 h2 => BindsTo.of_eq (h kV doc pm an cdv ct us ws h1 h2)
  · exact absurd rfl e
theorem FnO.sK {hot : Bool} (Fn : FnO hot P w K mg base k f fd ps sp) (b : BindsK fd ps ks) : FnS hot P w K mg base k f ks sp := fun A outer s H us ws vs Q E hm hr e0 hl r h => by
  have hv : us.length + ws.length = ps.length := by
    rw [← List.length_append, ← r.length]
    exact Fn.calm.len _ _ _ _ h
  have bb := b s us ws hl hv
  rcases hm with z | ⟨z, p, h1, h2⟩
  · exact Fn.calm.run A outer s H ⟨us, ks.zip ws⟩ (us ++ ws) vs Q E ⟨z, hr.dp, hr.un⟩ e0 bb r h
  · exact (Fn.hot z).run A outer s H ⟨us, ks.zip ws⟩ (us ++ ws) vs Q E p hr h1 h2 e0 bb r h
end
/-! ## the def at f, made in the class at D -/
structure SupF (P : Program) (K : Frg) (f D : Addr) (x qual : Str) (params : Arguments) (body : List Stmt) (scope : Scope) (kwd : List (Str × V)) (cda cc : Addr) : Prop where
  fn : ∃ (oc : Value) (od : Option Addr) (kV doc pm : Value) (an : Option Addr) (ct : Value) (osl : Array (Option Value)), K.lookup f = some ⟨oc, od, .func (fnX x qual params body scope [("__class__", cc)] .none kV doc pm an (.ref cda) ct), osl⟩ ∧ KwdV K kV kwd
  cd : codeIn K (.ref cda) qual = true
  cel : ∃ o : Obj, K.lookup cc = some o ∧ o.data = .cell (some (.ref D))
  fil : ∃ (o : Obj) (vs : Array Value) (file : Str) (tf : Tok), K.lookup cda = some o ∧ o.data = .fields vs ∧ vs[2]? = some (.str file tf) ∧ ((P.main.file : Str) == file) = true
  cls : ∃ c, clsIn K D = some c
  sup : (P.main.scope.names.lookup ("super" : Str)).isSome = false
  op : nsIn K cStatics "thirdparty.any" = some none
/-- in objects of the class at C: super().m is the def at f2 -/
structure SupM (K : Frg) (C D : Addr) (m : Str) (f2 : Addr) : Prop where
  sub : subIn K (.ref C) (.ref D) = some true
  at_ : PySem.W.ks_superIn K C D m = some (some (.ref f2))
  ty : typeIn K (.ref f2) = some (.type "function")
  fi : PySem.W.fnIn K f2 = true
  nm : (m == ("__class__" : Str)) = false
section
variable {X : Cx} {f D C x cda cc f2 L : Addr} {nm qual m : Str} {kwd : List (Str × V)} {params : Arguments} {body : List Stmt} {scope : Scope} {pins : List (Addr × Obj)} {σ : L2.St} {H : Hp} {s : Shared} {dx : Addr} {ws : List (Str × V)}
/-- super(), then .m: a bound method, pinned -/
theorem sup_meth {E : Value → Shared → Prop} {body' : List Stmt} {p0 p1 : Pos} {ar : Arg} {pl : Sem Bool} {whole : Sem Value} {Q : Value → Shared → Prop} {cont : Value → List Value → Sem Value} (T : SupF X.prog X.K f D nm qual params body scope kwd cda cc) (M : SupM X.K C D m f2) (J : Inv X pins σ H s) (hC : Cls X.K C) (henv : X.env = envX qual scope L f (.ref cda) [("__class__", cc)])
    (hk : scope.kind = .function) (hks : scope.names.lookup ("super" : Str) = some .globalImplicit) (hkc : scope.names.lookup ("__class__" : Str) = some .free) (hka : scope.names.lookup ar.arg = some .local) (hp : (params.posonlyargs ++ params.args).head? = some ar) (hN : X.N[0]? = some ar.arg) (h0 : σ[0]? = some (some (.ref x))) (hx : H x = some (.ins C dx ws))
    (hsu : X.mg "super" = none)
    (h : ∀ q s', Inv X ((q, PySem.W.methodObj (.ref f2) (.ref x)) :: pins) σ H s' → wpAny (model X.prog X.w) X.A (cont (.ref q) []) Q E s') :
    _root_.PySem.wpAt (model X.prog X.w) X.A (.func body' X.env) (attributeBase (.Call (.Name "super" p0) [] [] p1) m X.env whole) (fun ov s₁ => wpAny (model X.prog X.w) X.A (getMethod ov m pl) (fun fx s₂ => wpAny (model X.prog X.w) X.A (cont fx.1 fx.2) Q E s₂) E s₁) E s := by
  obtain ⟨oc, od, kV, doc, pm, an, ct, osl, ho, _⟩ := T.fn
  obtain ⟨o2, hcc, hcell⟩ := T.cel
  obtain ⟨o3, vs, file, tf, hcda, hfl, hvs, hfile⟩ := T.fil
  obtain ⟨cdD, hD⟩ := T.cls
  have KX := J.kIn
  obtain ⟨mA, O, _⟩ := ins_get J.hok hx
  obtain ⟨odx, I, _⟩ := O.look
  obtain ⟨oD, hD1, hD2⟩ : ∃ oD, s.heap.get? D = some oD ∧ oD.data = .cls cdD := by
    unfold clsIn at hD
    split at hD
    · rename_i c d cd' sl hd
      cases hD
      exact ⟨_, KX _ _ hd, rfl⟩
    · cases hD
  obtain ⟨mm, hn, hloc⟩ := J.loc
  obtain ⟨u, ru, l⟩ := hloc 0 ar.arg (.ref x) hN h0 (.inl (by rw [henv]; exact hka))
  obtain rfl : u = Value.ref x := ru
  have hself : mm ar.arg = some (.ref x) := by
    rcases l with ⟨_, hm⟩ | ⟨hk', _⟩
    · exact hm
    · have hk' : X.env.scope.names.lookup ar.arg = some .cell ∨ X.env.scope.names.lookup ar.arg = some .free := hk'
      rw [henv] at hk'
      have e : scope.names.lookup ar.arg = some .local := hka
      rcases hk' with z | z
      · have z : scope.names.lookup ar.arg = some .cell := z
        rw [e] at z; cases z
      · have z : scope.names.lookup ar.arg = some .free := z
        rw [e] at z; cases z
  obtain ⟨mb, hb1, hb2⟩ := J.mod.blt
  have hkc' : X.env.kindOf ("__class__" : Str) = some .free := by rw [henv]; exact hkc
  have hks' : X.env.kindOf ("super" : Str) = some .globalImplicit := by rw [henv]; exact hks
  have hka' : X.env.kindOf ar.arg = some .local := by rw [henv]; exact hka
  have hkk : X.env.scope.kind = .function := by rw [henv]; exact hk
  refine ks_wpAt_super_base (env := X.env) (f := f) (cc := cda) hks' hkc' M.nm (by rw [henv]) (KX _ _ ho) rfl hp (by rw [henv]) (KX _ _ hcda) hfl hvs hfile T.sup ?_
  refine PySem.W.ks_loadName_global hkk hks' (Calls.loadGlobal_builtin (env := X.env) (by rw [J.ok.glob]; exact J.mod.glob.keeps J.bk) hsu (by rw [J.ok.blt]; exact hb1.keeps J.bk) ((hb2 _ (by decide)).trans (by decide +kernel)) ⟨rfl, ?_⟩)
  refine wpAny_loadName_free hkk hkc' (c := cc) (by rw [henv]; simp [envX, List.lookup]) ⟨o2, KX _ _ hcc, hcell⟩ ?_
  refine wpAny_loadName_local hkk hka' hn hself ?_
  refine ks_wpAny_isType_cls hD1 hD2 ⟨rfl, ?_⟩
  refine ks_wpAny_call_super hD1 hD2 I.at_ I.cls (fun c e => ?_) (PySem.W.looks_subIn KX M.sub) fun h1 hso k1 => ?_
  · have := I.no
    unfold PySem.W.notCls at this
    rw [e] at this
    exact Bool.noConfusion this
  · obtain ⟨hp, g, dd, tk, os⟩ := s
    have J1 : Inv X pins σ H ⟨h1, g, dd, tk, os⟩ := J.kept (t' := tk) k1
    have KX1 := J1.kIn
    obtain ⟨mA1, O1, _⟩ := ins_get J1.hok hx
    obtain ⟨odx1, I1, _⟩ := O1.look
    cases hc : clsIn X.K C with
    | none =>
      have z := M.at_
      unfold PySem.W.ks_superIn at z
      rw [hc] at z; cases z
    | some cd =>
      have hm := M.at_
      unfold PySem.W.ks_superIn at hm
      rw [hc] at hm
      obtain ⟨of, hof, hofc⟩ : ∃ of, h1.get? f2 = some of ∧ of.cls = .type "function" := by
        have ht' : (X.K.lookup f2).map (·.cls) = some (.type "function") := M.ty
        cases z : X.K.lookup f2 with
        | none => rw [z] at ht'; cases ht'
        | some of => rw [z] at ht'; exact ⟨of, KX1 _ _ z, Option.some.inj ht'⟩
      refine ks_wpAny_getMethod_super hso (PySem.W.looks_opaque KX1 T.op) (l₀ := cd.mro) ?_ rfl KX1 hm hof hofc (PySem.W.ks_ne KX1 I1 hc) M.nm ?_
      · exact fun A Q E s k q => wpAny_bind ((PySem.W.looks_clsIn KX1 hc) A _ E s k (wpAny_pure q))
      · exact h _ _ (ClX.met_new J1)
end
/-- super().m(e, .., k=..) as the whole body: an __init__ -/
def dSup (tab : Cl → Option Ct) (n : Nat) (ds dk : DA) : DS := fun P ρ μ => match nth ρ 0 with
  | some p => (match rcv μ p with
    | some c => (match tab c with
      | some ct => ds ρ μ (fun ps μ1 => dk ρ μ1 (fun zs μ2 => zs.length = n ∧ ct (p :: (ps ++ zs)) μ2 (fun _ μ3 => P.nx ρ μ3) (fun xv μ3 => P.xc xv ρ μ3)) (fun xv μ3 => P.xc xv ρ μ3)) (fun xv μ3 => P.xc xv ρ μ3)
      | none => False)
    | none => False)
  | none => False
/-- the context of such a def's body -/
abbrev cxS (P : Program) (w : World) (K : Frg) (mg : Str → Option Value) (base : Heap) (N : List Str) (F : NF) (f : Addr) (A : Around) (outer : List Env) (s : Shared) (H : Hp) (E : XK) : Cx := ncx (L2N.CX P w) P w K mg base N F f A outer s H E
section
variable {P : Program} {w : World} {K : Frg} {mg : Str → Option Value} {base : Heap} {k : Nat} {f D cda cc : Addr} {nm qual m : Str} {kwd : List (Str × V)} {params : Arguments} {body : List Stmt} {scope : Scope} {N ps ks : List Str}
theorem here_S {F : NF} {A : Around} {outer : List Env} {s : Shared} {H : Hp} {E : XK} (hr : L2H.RoomH k (A.deeper (envF F f s.heap.objs.size))) : Here false (cxS P w K mg base N F f A outer s H E) (fun cls dd _ H' => E cls dd H') k :=
  ⟨.inl rfl, hr, L2N.takes_of rfl rfl rfl rfl, L2.passes_of rfl⟩
/-- what super().m means in an object of the class c -/
def STab (K : Frg) (P : Program) (w : World) (mg : Str → Option Value) (base : Heap) (k : Nat) (D : Addr) (m : Str) (ks : List Str) (tab : Cl → Option Ct) : Prop := ∀ c ct, tab c = some ct → m ∉ c.flds ∧ Cls K (ca K c) ∧ ∃ f2, SupM K (ca K c) D m f2 ∧ FnS false P w K mg base k f2 ks (spP K ct)
/-- what such a def's body does, at the place -/
def BodyOk (P : Program) (w : World) (K : Frg) (mg : Str → Option Value) (base : Heap) (k : Nat) (f cda cc : Addr) (nm qual : Str) (params : Arguments) (body : List Stmt) (scope : Scope) (N : List Str) (c : Ct) : Prop :=
  ∀ (A : Around) (outer : List Env) (s : Shared) (H : Hp) (vs : List V) (Q : VK) (E : XK) (s1 : Shared), L2H.RoomH k (A.deeper (envF ⟨nm, qual, params, body, scope, [("__class__", cc)], cda⟩ f s.heap.objs.size)) → spP K c vs H Q E →
      Inv (cxS P w K mg base N ⟨nm, qual, params, body, scope, [("__class__", cc)], cda⟩ f A outer s H E) [] (L2.start N vs) H s1 →
      _root_.PySem.wpAt (model P w) (cxS P w K mg base N ⟨nm, qual, params, body, scope, [("__class__", cc)], cda⟩ f A outer s H E).A (.func body (envF ⟨nm, qual, params, body, scope, [("__class__", cc)], cda⟩ f s.heap.objs.size)) (execs body (envF ⟨nm, qual, params, body, scope, [("__class__", cc)], cda⟩ f s.heap.objs.size))
        (fun fl s' => match fl with
          | .ret u => ∃ v H' σ', Inv (cxS P w K mg base N ⟨nm, qual, params, body, scope, [("__class__", cc)], cda⟩ f A outer s H E) [] σ' H' s' ∧ RelV v u ∧ Q v H'
          | .next => ∃ H' σ', Inv (cxS P w K mg base N ⟨nm, qual, params, body, scope, [("__class__", cc)], cda⟩ f A outer s H E) [] σ' H' s' ∧ Q .non H'
          | _ => False) (cxS P w K mg base N ⟨nm, qual, params, body, scope, [("__class__", cc)], cda⟩ f A outer s H E).xe s1
/-- how the values of a call are bound: ds, the defaults' values -/
def BndOk (K : Frg) (nm qual : Str) (params : Arguments) (body : List Stmt) (scope : Scope) (kwd : List (Str × V)) (cda cc : Addr) (ps ks : List Str) (dv : List V) : Prop := ∀ kV : Value, KwdV K kV kwd → ∃ ds : List Value, Vals dv ds ∧ ∀ (s : Shared) (doc pm : Value) (an : Option Addr) (ct : Value) (us ws : List Value), K.In s.heap → ws.length = ks.length → (us ++ ws ++ ds).length = ps.length →
  BindsTo s (fnX nm qual params body scope [("__class__", cc)] .none kV doc pm an (.ref cda) ct) ⟨us, ks.zip ws⟩ (ps.zip (us ++ ws ++ ds))
/-- such a def, by its body at the place -/
theorem fn_at {c : Ct} {dv : List V} {dp : List PV} (T : SupF P K f D nm qual params body scope kwd cda cc) (S : NScope N ps ["__class__"] scope) (hb : BndOk K nm qual params body scope kwd cda cc ps ks dv) (rd : ∀ B G, Reps K B G dp dv)
    (len : ∀ as μ q z, c as μ q z → as.length = ps.length) (hbody : BodyOk P w K mg base k f cda cc nm qual params body scope N c) :
    FnS false P w K mg base (k + 1) f ks (spP K fun as μ q z => c (as ++ dp) μ q z) := fun A outer s H us wz vs' Q E hm hr e0 hl r' h' => by
  have hd : A.handled = none := by
    rcases hm with z | ⟨z, _⟩
    · exact z
    · cases z
  obtain ⟨oc, od, kV, doc, pm, an, ct, osl, ho, hkw⟩ := T.fn
  obtain ⟨ds, rv, hb⟩ := hb kV hkw
  obtain ⟨vs, evs⟩ : ∃ vs, vs = vs' ++ dv := ⟨_, rfl⟩
  have h : spP K c vs H Q E := by
    obtain ⟨B, μ, G, as, q, z, o, rr, hc, hq⟩ := h'
    exact ⟨B, μ, G, as ++ dp, q, z, o, by rw [evs]; exact rr.append (rd _ _), hc, hq⟩
  have r : Vals vs (us ++ wz ++ ds) := by rw [evs]; exact r'.append rv
  have KX : K.In s.heap := e0.mod.kin.keeps fun b o e => (e0.bs b o e).1
  have lim : s.heap.NoLimit := e0.mod.nolimit.keeps fun b o e => (e0.bs b o e).1
  have hlen : vs.length = ps.length := by
    obtain ⟨B, μ, G, as, q, z, _, rr, hc, _⟩ := h
    rw [rr.length]; exact len as μ q z hc
  have hv : (us ++ wz ++ ds).length = ps.length := by rw [← r.length]; exact hlen
  obtain ⟨o2, hcc, hcell⟩ := T.cel
  have hcB : base.get? cc = some o2 := e0.mod.kin _ _ hcc
  have CA : CellsAt [("__class__", cc)] ["__class__"] [none] s.heap H := by
    refine ⟨rfl, fun y c0 e => ?_, fun x y c0 e1 e2 => ?_, fun i y e => ?_⟩
    · have e : (if (y == ("__class__" : Str)) = true then some cc else none) = some c0 := by
        have := e
        simp only [List.lookup] at this
        split at this
        · rename_i z; rw [if_pos z]; exact this
        · cases this
      split at e
      · cases e
        exact ⟨(e0.bs _ _ hcB).2, _, o2, KX _ _ hcc, hcell⟩
      · cases e
    · have key : ∀ z : Str, ([("__class__", cc)] : List (Str × Addr)).lookup z = some c0 → z = "__class__" := fun z hz => by
        simp only [List.lookup] at hz
        split at hz
        · rename_i q; exact beq_iff_eq.mp q
        · cases hz
      rw [key x e1, key y e2]
    · match i, e with
      | 0, e =>
        cases e
        refine ⟨cc, by simp [List.lookup], fun v hv => by cases hv⟩
      | i + 1, e => simp at e
  have hNl : ps.length + 1 ≤ N.length := by
    have q := congrArg List.length S.pre
    rw [List.length_take, List.length_append] at q
    simp only [List.length_cons, List.length_nil] at q
    omega
  have hst : startF N vs [none] = L2.start N vs := by
    unfold startF L2.start
    have e : N.length - vs.length = (N.length - vs.length - 1) + 1 := by omega
    rw [e, List.replicate_succ]
    rfl
  refine ks_codeAny_call_defAt (binds := ps.zip (us ++ wz ++ ds)) (by have := hr.dp; omega) (KX _ _ ho) rfl lim (PySem.W.codeRec_of KX T.cd) rfl (hb s doc pm an ct us wz KX hl hv) S.nocell (fun y hy => S.par y.1 (List.of_mem_zip hy).1) (fun h0 hns k0 => ?_) S.co S.gen S.kind
  have J0 := inv_startN (CX := L2N.CX P w) (P := P) (w := w) (K := K) (mg := mg) (base := base) (E := E) (f := f) (F := ⟨nm, qual, params, body, scope, [("__class__", cc)], cda⟩) (tk := s.toks + (ps.zip (us ++ wz ++ ds)).length) S hd e0 hlen r CA hns k0
  rw [hst] at J0
  refine ks_wpAt_mono (hbody A outer s H vs Q E _ (hr.deeper _) h J0) (fun fl s' hs => ?_) fun e s' z => z
  have fin : ∀ {σ' : L2.St} {H' : Hp} {v : V} {u : Value}, Inv (cxS P w K mg base N ⟨nm, qual, params, body, scope, [("__class__", cc)], cda⟩ f A outer s H E) [] σ' H' s' → RelV v u → Q v H' → CE outer P w H s Q u s' :=
    fun {σ' H' v u} J rv q => ⟨v, H', J.os, J.bare, J.base, J.hok, rv, q⟩
  cases fl with
  | ret u =>
    obtain ⟨v, H', σ', J, rv, q⟩ := hs
    exact fin J rv q
  | next =>
    obtain ⟨H', σ', J, q⟩ := hs
    exact fin (v := V.non) (u := Value.none) J rfl q
  | brk => exact hs.elim
  | cont => exact hs.elim
theorem BndOk.all (hb : ∀ (kV doc pm : Value) (an : Option Addr) (ct : Value) (us ws : List Value), ws.length = ks.length → us.length + ws.length = ps.length → bindArgs (fnX nm qual params body scope [("__class__", cc)] .none kV doc pm an (.ref cda) ct) ⟨us, ks.zip ws⟩ = pure (ps.zip (us ++ ws))) : BndOk K nm qual params body scope kwd cda cc ps ks [] := fun kV _ =>
  ⟨[], .nil, fun s doc pm an ct us ws _ h1 h2 => by
    rw [List.append_nil] at h2 ⊢
    exact BindsTo.of_eq (hb kV doc pm an ct us ws h1 (by rw [← List.length_append]; exact h2))⟩
/-- the keyword-only ones are left out -/
theorem BndOk.dfl (n : Nat) (hk : kwd ≠ []) (hn : n + kwd.length = ps.length) (h : ∀ (D0 : Addr) (doc pm : Value) (an : Option Addr) (ct : Value) (us vs : List Value), us.length = n → vs.length = kwd.length →
      KwChain D0 ((kwd.map (·.1)).zip vs) (bindArgs (fnX nm qual params body scope [("__class__", cc)] .none (.ref D0) doc pm an (.ref cda) ct) ⟨us, []⟩) (ps.zip (us ++ vs))) : BndOk K nm qual params body scope kwd cda cc ps [] (kwd.map (·.2)) := fun kV hK => by
  rcases hK with e | ⟨D0, rfl, hq⟩
  · exact absurd e hk
  · obtain ⟨vs, hl, rk, hks⟩ := kwd_vals hq
    refine ⟨vs, rk, fun s doc pm an ct us ws X h1 h2 => ?_⟩
    have hw : ws = [] := List.eq_nil_of_length_eq_zero h1
    subst hw
    rw [List.append_nil] at h2 ⊢
    have l2 : us.length = n := by
      rw [List.length_append, hl] at h2
      omega
    exact BindsTo.of_looks fun M => KwChain.looks X hks (h D0 doc pm an ct us vs l2 hl)
theorem FnS.nil {hot : Bool} {g : Addr} {c : Ct} (F : FnS hot P w K mg base k g ks (spP K fun as μ q z => c (as ++ []) μ q z)) : FnS hot P w K mg base k g ks (spP K c) := by
  have e : (fun as μ q z => c (as ++ []) μ q z) = c := by
    funext as μ q z
    rw [List.append_nil]
  rw [e] at F
  exact F
end

/-! ## super().__init__(e, .., k=..) alone -/
section
variable {X : Cx} {W : WX} {k : Nat} {ks : List Str}
theorem run_cmsK {pins : List (Addr × Obj)} {σ : L2.St} {H : Hp} {s : Shared} {C u g : Addr} {sp : Sp} {Q : VK} {us wz : List Value} {vs : List V} (Fn : FnS false X.prog X.w X.K X.mg X.base k g ks sp) (hc : X.calm = true) (hr : L2H.RoomH k X.A) (tk : L2N.Takes X W) (J : Inv X ((u, PySem.W.methodObj (.ref g) (.ref C)) :: pins) σ H s)
    (hl : wz.length = ks.length) (r : Vals vs (us ++ wz)) (h : sp (.ref C :: vs) H Q (fun cls d H' => W cls d σ H')) : wpAny (model X.prog X.w) X.A (call (.ref u) us (ks.zip wz)) (EP X pins σ Q) X.xe s := by
  refine wpAny_call (ks_codeAny_call_bound (ClX.pin_at J) (codeAny_mono (Fn X.A X.stack s H (.ref C :: us) wz (.ref C :: vs) Q _ (.inl (J.ok.hd hc)) hr J.env0 hl (.cons rfl r) h) fun rr s' hq => ?_))
  cases rr with
  | error er => exact tk er s' (L2N.XE.of_call (ClX.unpin J) (fun _ _ _ z => z) hq)
  | ok fl =>
    cases fl with
    | ret u => exact ClX.unpinE (J.after hq)
    | next => exact False.elim hq
    | brk => exact False.elim hq
    | cont => exact False.elim hq
end
section
variable {P : Program} {w : World} {K : Frg} {mg : Str → Option Value} {base : Heap} {k : Nat} {f D cda cc : Addr} {nm qual m : Str} {kwd : List (Str × V)} {params : Arguments} {scope : Scope} {N ps ks k2 : List Str} {e : Expr} {es : List Expr} {kws : List Keyword} {p0 p1 p2 pos pos' : Pos} {c : Ct} {ds dk : DA} {tab : Cl → Option Ct} {ar : Arg}
theorem body_supI (T : SupF P K f D nm qual params [.Expr (.Call (.Attribute (.Call (.Name "super" p0) [] [] p1) m p2) (e :: es) kws pos) pos'] scope kwd cda cc) (S : NScope N ps ["__class__"] scope)
    (ST : STab K P w mg base k D m k2 tab) (hsu : mg "super" = none)
    (hks : scope.names.lookup ("super" : Str) = some .globalImplicit) (hkc : scope.names.lookup ("__class__" : Str) = some .free) (hka : scope.names.lookup ar.arg = some .local) (hp : (params.posonlyargs ++ params.args).head? = some ar) (hN : N[0]? = some ar.arg)
    (der : ∀ (F : NF) (A : Around) (outer : List Env) (s : Shared) (H : Hp) (E : XK), F.scope = scope → F.qual = qual → Here false (cxS P w K mg base N F f A outer s H E) (fun cls dd _ H' => E cls dd H') k → AJ (cxS P w K mg base N F f A outer s H E) (fun cls dd _ H' => E cls dd H') (e :: es) ds ∧ KJ (cxS P w K mg base N F f A outer s H E) (fun cls dd _ H' => E cls dd H') kws dk)
    (pure_ : ∀ as μ q z, c as μ q z → dSup tab k2.length ds dk (endsOf q z) (startE N.length as) μ)
    (hev : ∀ env : Env, ∃ pl : Sem Bool, eval (.Call (.Attribute (.Call (.Name "super" p0) [] [] p1) m p2) (e :: es) kws pos) env = (do
      let ov ← attributeBase (.Call (.Name "super" p0) [] [] p1) m env (eval (.Call (.Name "super" p0) [] [] p1) env)
      standAt p2.atName
      let (g, first) ← holding [ov] (getMethod ov m pl)
      callWith pos g first (backTo pos (starEach (e :: es) env)) (backToKw pos (keywordEach kws env))))
    (hst : ∀ env : Env, starEach (e :: es) env = (false, eval e env) :: starEach es env) (k1 : ∀ env : Env, (backToKw pos (keywordEach kws env)).all (·.1.isSome) = true) (kk : ∀ env : Env, (backToKw pos (keywordEach kws env)).filterMap (·.1) = k2)
    (h3 : ∀ env : Env, ((backTo pos (starEach (e :: es) env)).any (·.1) || (backToKw pos (keywordEach kws env)).any (·.1.isNone)) = false) (hsw : ∀ env : Env, swapsWith (.Call (.Attribute (.Call (.Name "super" p0) [] [] p1) m p2) (e :: es) kws pos) none pos'.line env = pure false) (hit : ∀ L, interactive (envX qual scope L f (.ref cda) [("__class__", cc)]) = false) :
    BodyOk P w K mg base k f cda cc nm qual params [.Expr (.Call (.Attribute (.Call (.Name "super" p0) [] [] p1) m p2) (e :: es) kws pos) pos'] scope N c := fun A outer s H vs Q E s1 hr hsp J => by
  have he : Here false (cxS P w K mg base N ⟨nm, qual, params, [.Expr (.Call (.Attribute (.Call (.Name "super" p0) [] [] p1) m p2) (e :: es) kws pos) pos'], scope, [("__class__", cc)], cda⟩ f A outer s H E) (fun cls dd _ H' => E cls dd H') k := here_S hr
  obtain ⟨ha, hkw⟩ := der _ A outer s H E rfl rfl he
  obtain ⟨B, μ, G, as, q, z, o, r, hc, gq, gz⟩ := hsp
  have R : Rel K B (startE N.length as) μ (L2.start N vs) G H := rel_start o r
  have hd := pure_ as μ q z hc
  unfold dSup at hd
  cases e0 : nth (startE N.length as) 0 with
  | none => simp only [e0] at hd
  | some p =>
    simp only [e0] at hd
    cases e1 : rcv μ p with
    | none => simp only [e1] at hd
    | some c0 =>
      simp only [e1] at hd
      cases e2 : tab c0 with
      | none => simp only [e2] at hd
      | some ct =>
        simp only [e2] at hd
        obtain ⟨hmf, hcl, f2, M, Fn⟩ := ST c0 ct e2
        obtain ⟨v, ev, rp⟩ := R.at_ 0 p (nth_some e0)
        obtain ⟨x, dx, ws, rfl, hx, hlk⟩ := rcv_ok R.ok rp e1 hmf
        obtain ⟨pl, hev'⟩ := hev (envX qual scope s.heap.objs.size f (.ref cda) [("__class__", cc)])
        refine ks_wpAt_execs_cons (ks_wpAt_Expr_any ?_ (hit _) (hsw _))
        show _root_.PySem.wpAt _ _ _ (eval (.Call (.Attribute (.Call (.Name "super" p0) [] [] p1) m p2) (e :: es) kws pos) (envX qual scope s.heap.objs.size f (.ref cda) [("__class__", cc)])) _ _ _
        rw [hev']
        refine _root_.PySem.wpAt_bind (_root_.PySem.wpAt_mono (sup_meth (X := cxS P w K mg base N ⟨nm, qual, params, [.Expr (.Call (.Attribute (.Call (.Name "super" p0) [] [] p1) m p2) (e :: es) kws pos) pos'], scope, [("__class__", cc)], cda⟩ f A outer s H E) (pl := pl) (cont := fun g first => callWith pos g first (backTo pos (starEach (e :: es) (envX qual scope s.heap.objs.size f (.ref cda) [("__class__", cc)]))) (backToKw pos (keywordEach kws (envX qual scope s.heap.objs.size f (.ref cda) [("__class__", cc)]))))
          T M J hcl rfl S.kind hks hkc hka hp hN ev hx hsu (fun q' s' J2 => ?_)) (fun ov s₁ h₁ => _root_.PySem.wpAt_of_wpAny (wpAny_bind (wpAny_standAt (wpAny_bind (wpAny_holding (wpAny_mono h₁ (fun fx s₂ h₂ => h₂) fun _ _ x => x)))))) fun _ _ x => x)
        have X0 := he.tk
        refine PySem.W.callWith_of (P := PySem.W.MethP K q' f2 (.ref x)) (h3 _) (PySem.W.keeps_M M.fi) (evalArgs_kw2 (k1 _) (thn (ha.run pos _ s' _ H (fun us H1 => tA K (fun cls dd _ H' => E cls dd H') dk (L2.start N vs) H1 fun zs H2 => zs.length = k2.length ∧ spP K ct (.ref x :: (us ++ zs)) H2 (fun _ H3 => Q .non H3) (fun cls dd H' => E cls dd H')) J2
          ⟨B, _, μ, G, _, _, R, hd, fun as1 us1 μ1 G1 H1 h1 g1 r1 => ⟨B, _, μ1, G1, _, _, R.go g1, h1, fun zs ws2 μ2 G2 H2 ⟨hz, h2⟩ g2 r2 => ⟨by rw [r2.length]; exact hz, ⟨B, μ2, G2, _, _, _, g2.ok, .cons (rp.mono (g1.trans g2).gx) ((r1.mono g2.gx).append r2), h2, fun p3 v3 μ3 G3 H3 h3 g3 r3 => gq _ _ μ3 G3 H3 h3 ((g1.trans g2).trans g3) rep_non, fun xv d μ3 G3 H3 h3 g3 r3 => gz xv d μ3 G3 H3 h3 ((g1.trans g2).trans g3) r3⟩⟩, fun xv d μ3 G3 H3 h3 g3 r3 => gz xv d μ3 G3 H3 h3 (g1.trans g3) r3⟩, fun xv d μ3 G3 H3 h3 g3 r3 => gz xv d μ3 G3 H3 h3 g3 r3⟩) fun us s2 ⟨us1, H1, J3, ru, q1⟩ => ?_) (hst _))
        refine thn (hkw.run pos _ s2 _ H1 _ J3 q1) fun wz s3 ⟨zs, H2, J4, rz, hz, q2⟩ => ⟨⟨ClX.pin_at J4, J4.kIn⟩, ?_⟩
        rw [kk]
        refine wpAny_mono (run_cmsK Fn rfl hr he.tk J4 (by rw [← rz.length]; exact hz) (ru.append rz) q2) (fun u s4 hu => ?_) fun _ _ z => z
        obtain ⟨v4, H4, J5, rv4, q4⟩ := hu
        show _root_.PySem.wpAt _ _ _ (execs [] _) _ _ _
        exact _root_.PySem.wpAt_of_wpAny (wpAny_execs_nil ⟨H4, _, J5, q4⟩)
end

/-! ## the facts, by the head's checks -/
theorem SupD.supF {P : Program} {K : Frg} {e : SupD} {file : Str} (v : supV K e = e.val) (c : e.ok file K = true) (hfile : (P.main.file == file) = true) (hs : (P.main.scope.names.lookup ("super" : Str)).isSome = false) : ∃ cda cc, SupF P K (supAd K e) (ca K e.c) e.m e.qual e.params e.body e.scope (e.kws K) cda cc := by
  obtain ⟨c1, c⟩ := He.ba c
  obtain ⟨c2, c13⟩ := He.ba c
  unfold supV at v
  cases q : K.lookup (supAd K e) with
  | none => rw [q] at c13; cases c13
  | some o =>
    obtain ⟨oc, od, dt, osl⟩ := o
    rw [q] at c13 v
    cases dt with
    | func fd =>
      obtain ⟨n1, n2, n3, n4, n5, n6, n7, n8, n9, n10, n11, n12, n13, n14, n15⟩ := fd
      have e2 : (some (n1, n2, n3, n4, n5, n6, [], n15) : FnV) = some (e.m, e.qual, e.params, .stmts e.body, e.scope, mainGlobals, [], builtinsNs) := v
      simp only [Option.some.injEq, Prod.mk.injEq] at e2
      obtain ⟨h1, h2, h3, h4, h5, h6, _, h8⟩ := e2
      subst h1 h2 h3 h4 h5 h6 h8
      cases n13 with
      | ref cda =>
        match n7, c13 with
        | [(x, cc)], c13 =>
          obtain ⟨f0, c14⟩ := He.ba c13
          have f0 : n8 = Value.none := of_decide_eq_true f0
          obtain ⟨f1, c15⟩ := He.ba c14
          obtain ⟨f2, c16⟩ := He.ba c15
          obtain ⟨f3, c17⟩ := He.ba c16
          obtain ⟨f4, f5⟩ := He.ba c17
          clear c14 c15 c16 c17 c13
          subst f0
          have f1 : x = "__class__" := of_decide_eq_true f1
          subst f1
          cases qc : K.lookup cc with
          | none => rw [qc] at f3; cases f3
          | some o2 =>
            obtain ⟨oc2, od2, dt2, osl2⟩ := o2
            rw [qc] at f3
            cases dt2 with
            | cell cv =>
              match cv, f3 with
              | some (.ref C), f3 =>
                have f3 : C = ca K e.c := of_decide_eq_true f3
                subst f3
                cases qd : K.lookup cda with
                | none => rw [qd] at f4; cases f4
                | some o3 =>
                  obtain ⟨oc3, od3, dt3, osl3⟩ := o3
                  rw [qd] at f4
                  cases dt3 with
                  | fields vs =>
                    cases qv : vs[2]? with
                    | none => simp only [qv] at f4; cases f4
                    | some vv =>
                      simp only [qv] at f4
                      cases vv with
                      | str z tz =>
                        have f4 : z = file := of_decide_eq_true f4
                        subst f4
                        exact ⟨cda, cc, ⟨oc, od, n9, n10, n11, n12, n14, osl, by first | exact q | rfl, He.kwdB_ok f5⟩, f2, ⟨_, by first | exact qc | rfl, rfl⟩, ⟨_, vs, z, tz, by first | exact qd | rfl, rfl, qv, hfile⟩, Option.isSome_iff_exists.mp c1, hs, of_decide_eq_true c2⟩
                      | _ => cases f4
                  | _ => cases f4
            | _ => cases f3
      | _ => cases c13
    | _ => cases c13
/-- super().m in objects of the class c, told in the class d: the def of the class b -/
def supMB (K : Frg) (c d b : Cl) (m : Str) : Bool := decide (PySem.W.subIn K (.ref (ca K c)) (.ref (ca K d)) = some true) && (decide (PySem.W.ks_superIn K (ca K c) (ca K d) m = some (some (.ref (He.ma K (ca K b) m)))) && (decide (PySem.W.typeIn K (.ref (He.ma K (ca K b) m)) = some (.type "function")) && (PySem.W.fnIn K (He.ma K (ca K b) m) && !(m == ("__class__" : Str)))))
theorem supMB_ok {K : Frg} {c d b : Cl} {m : Str} (h : supMB K c d b m = true) : SupM K (ca K c) (ca K d) m (He.ma K (ca K b) m) := by
  obtain ⟨h1, h⟩ := He.ba h
  obtain ⟨h2, h⟩ := He.ba h
  obtain ⟨h3, h⟩ := He.ba h
  obtain ⟨h4, h5⟩ := He.ba h
  exact ⟨of_decide_eq_true h1, of_decide_eq_true h2, of_decide_eq_true h3, h4, by simpa using h5⟩
end Px

/-! # texts: sep.join(..), f'..' -/
namespace Px
open PySem PySem.Spec PyProof.Rows L2
section
variable {X : Cx} {W : WX} {pos : Pos} {a b : Expr} {da db : DE}
/-- sep.join(xs) -/
def joinP (a r : PV) (μ : Mu) (q : QV) : Prop := match a with
  | .str z => (match seqOf μ r with
    | some (_, xs) => ∃ ys : List Str, xs = ys.map .str ∧ (ys.map (·.length)).sum + ys.length * z.length ≤ 16777216 ∧ q (.str (Txt.join z ys)) μ
    | none => False)
  | _ => False
def dJoin (da db : DE) : DE := fun ρ μ q x => da ρ μ (fun p μ1 => (match p with | .str _ => True | _ => False) ∧ db ρ μ1 (fun r μ2 => joinP p r μ2 q) x) x
theorem e_join {apos : Pos} (ha : EJ X W a da) (hb : EJ X W b db) (hs : starEach [b] X.env = [(false, eval b X.env)] := by rfl) (hbase : attributeBase a "join" X.env (eval a X.env) = eval a X.env := by rfl) (hline : (apos.endLine == pos.line) = true := by rfl) :
    EJ X W (.Call (.Attribute a "join" apos) [b] [] pos) (dJoin da db) := pe_imp (pe_join ha hb hs hbase hline) fun σ H Q ⟨B, ρ, μ, G, q, x, R, h, gv, gx⟩ =>
  ⟨B, ρ, μ, G, _, x, R, h, fun p v μ1 G1 H1 ⟨e, h1⟩ g1 r1 => by
    cases p with
    | str z =>
      obtain rfl := r1.str_inv
      refine ⟨⟨z, rfl⟩, B, ρ, μ1, G1, _, x, R.go g1, h1, fun r w μ2 G2 H2 h2 g2 r2 => ?_, gx.go g1⟩
      unfold joinP at h2
      cases e2 : seqOf μ2 r with
      | none => simp only [e2] at h2
      | some zz =>
        obtain ⟨t, xs⟩ := zz
        simp only [e2] at h2
        obtain ⟨ys, rfl, hl, hq⟩ := h2
        obtain ⟨p, vs, rfl, rs, hh⟩ := seq_ok g2.ok r2 e2
        rw [rs.strs] at hh
        refine ⟨z, p, ys, rfl, rfl, ?_, hl, gv _ _ _ _ _ hq (g1.trans g2) (rep_str _)⟩
        rcases hh with ⟨_, hh⟩ | ⟨_, hh⟩
        · exact .inl (.inl (.inl hh))
        · exact .inr hh
    | _ => exact e.elim, gx⟩
/-- {x} of a text or an int -/
def fmtP (p : PV) (q : PV → Prop) : Prop := match p with
  | .str z => z.length ≤ sizeLine ∧ q (.str z)
  | .int i => i.natAbs.log2 < 1920 ∧ q (.str (toString i))
  | _ => False
def dFmt (d : DE) : DE := fun ρ μ q x => d ρ μ (fun p μ1 => fmtP p fun r => q r μ1) x
theorem e_fmt (ha : EJ X W a da) : EJ X W (.FormattedValue a (-1) none pos) (dFmt da) := pe_imp (pe_fmt ha) fun σ H Q ⟨B, ρ, μ, G, q, x, R, h, gv, gx⟩ =>
  ⟨B, ρ, μ, G, _, x, R, h, fun p v μ1 G1 H1 h1 g1 r1 => by
    cases p with
    | str z => exact .inl ⟨z, r1.str_inv, h1.1, gv _ _ _ _ _ h1.2 g1 (rep_str _)⟩
    | int i => exact .inr ⟨i, r1.int_inv, h1.1, gv _ _ _ _ _ h1.2 g1 (rep_str _)⟩
    | _ => exact h1.elim, gx⟩
/-- the parts of an f-string, one behind the other -/
def onStr (p : PV) (q : Str → Prop) : Prop := match p with
  | .str z => q z
  | _ => False
def dParts : List DE → Str → DE
  | [], acc => fun _ μ q _ => q (.str acc) μ
  | d :: ds, acc => fun ρ μ q x => d ρ μ (fun p μ1 => onStr p fun y => (acc ++ y).length ≤ sizeLine ∧ dParts ds (acc ++ y) ρ μ1 q x) x
inductive FJ (X : Cx) (W : WX) : List Expr → List DE → Prop where
  | nil : FJ X W [] []
  | cons {e : Expr} {d : DE} {es : List Expr} {ds : List DE} (h : EJ X W e d) (r : FJ X W es ds) : FJ X W (e :: es) (d :: ds)
theorem FJ.pj : ∀ {es : List Expr} {ds : List DE}, FJ X W es ds → PJ X es (ds.map (tE X.K W))
  | _, _, .nil => .nil
  | _, _, .cons h r => .cons h r.pj
theorem tjs_of {K : Frg} {W : WX} {σ : L2.St} {Q : VK} {B : BX} : ∀ (ds : List DE) (acc : Str) (H : Hp) (ρ : En) (μ : Mu) (G : Hp) (q : QV) (x : QX), Rel K B ρ μ σ G H → dParts ds acc ρ μ q x → GoodV K B μ G H q Q → GoodX K W B μ G H σ x → tJs (ds.map (tE K W)) acc σ H fun out H1 => Q (.str out) H1
  | [], acc, H, ρ, μ, G, q, x, R, h, gv, gx => gv _ _ _ _ _ h (.refl R.ok) (rep_str _)
  | d :: ds, acc, H, ρ, μ, G, q, x, R, h, gv, gx => ⟨B, ρ, μ, G, _, x, R, h, fun p v μ1 G1 H1 h0 g1 r1 => by
      cases p with
      | str y =>
        obtain ⟨hl, h1⟩ := h0
        exact ⟨y, r1.str_inv, hl, tjs_of ds (acc ++ y) H1 ρ μ1 G1 q x (R.go g1) h1 (gv.go g1) (gx.go g1)⟩
      | _ => exact h0.elim, gx⟩
theorem e_fstr {v1 v2 : Expr} {rest : List Expr} {ds : List DE} (h : FJ X W (v1 :: v2 :: rest) ds) : EJ X W (.JoinedStr (v1 :: v2 :: rest) pos) (dParts ds Str.empty) := pe_imp (pe_joined h.pj) fun σ H Q ⟨B, ρ, μ, G, q, x, R, h, gv, gx⟩ => tjs_of ds _ H ρ μ G q x R h gv gx
end
end Px

namespace Px
open PySem PySem.Spec PyProof.Rows L2
/-! ## C.NAME is a tuple of texts -/
def strsOf : List Value → Option (List Str)
  | [] => some []
  | v :: vs => (match v with
    | .str z _ => (match strsOf vs with
      | some zs => some (z :: zs)
      | none => none)
    | _ => none)
theorem strsOf_ok {K : Frg} {B : BX} {G : Hp} : ∀ {vs : List Value} {zs : List Str}, strsOf vs = some zs → Vals (zs.map V.str) vs
  | [], zs, h => by cases h; exact .nil
  | v :: vs, zs, h => by
    unfold strsOf at h
    split at h
    · rename_i z t
      split at h
      · rename_i ws e
        cases h
        exact .cons ⟨t, rfl⟩ (strsOf_ok (K := K) (B := B) (G := G) e)
      · cases h
    · cases h
def tupB (K : Frg) (zs : List Str) (v : Value) : Bool := match v with
  | .ref a => (match K.lookup a with
    | some o => decide (o.cls = .type "tuple") && (match o.data with
      | .seq its _ => decide (its.size ≤ sizeLine) && decide (strsOf its.toList = some zs)
      | _ => false)
    | none => false)
  | _ => false
theorem tupB_ok {K : Frg} {zs : List Str} {v : Value} (h : tupB K zs v = true) : ∃ a, v = .ref a ∧ ∀ B G, Rep K B G (.tup (zs.map .str)) (.ref a) := by
  unfold tupB at h
  split at h
  · rename_i a
    split at h
    · rename_i o lk
      obtain ⟨h1, h⟩ := He.ba h
      split at h
      · rename_i its n ed
        obtain ⟨h2, h3⟩ := He.ba h
        refine ⟨a, rfl, fun B G => rep_tup (vs := zs.map V.str) (.inr ⟨o, its, n, lk, of_decide_eq_true h1, ed, of_decide_eq_true h2, strsOf_ok (K := K) (B := B) (G := G) (of_decide_eq_true h3)⟩) (Reps.ofStrs zs)⟩
      · cases h
    · cases h
  · cases h
def cvTB (K : Frg) (c : Cl) (f : Str) (zs : List Str) : Bool := PySem.W.readsIn K (ca K c) (.type "type") && (match PySem.W.findCls K (.ref (ca K c)) (.type "type") f with
  | some (.val v) => tupB K zs v
  | _ => false)
theorem cvTB_ok {K : Frg} {c : Cl} {f : Str} {zs : List Str} (h : cvTB K c f zs = true) : ClX.CRead K (ca K c) (.type "type") ∧ ∃ a, (∃ u, ClX.CVal K (ca K c) (.type "type") f (.ref a) u) ∧ ∀ B G, Rep K B G (.tup (zs.map .str)) (.ref a) := by
  obtain ⟨h1, h2⟩ := He.ba h
  split at h2
  · rename_i v e
    obtain ⟨a, rfl, r⟩ := tupB_ok h2
    exact ⟨cread_ok h1, a, ⟨_, e, rfl⟩, r⟩
  · cases h2
theorem rcv_new {μ : Mu} {y : Addr} {c : Cl} {fs : Fs} (e : μ y = some (.ins c fs)) : rcv μ (.cell y) = some c := by
  unfold rcv
  simp only [e]
theorem two_len {us ws : List Value} {m n : Nat} (h1 : ws.length = n) (h2 : us.length + ws.length = m + n) : us.length = m := by omega
/-! ## branches, in the plain proofs -/
theorem brT {b : Bool} {A B : Prop} (e : b = true) (h : A) : br b A B := ⟨fun _ => h, fun z => by rw [e] at z; cases z⟩
theorem brF {b : Bool} {A B : Prop} (e : b = false) (h : B) : br b A B := ⟨fun z => (by rw [e] at z; cases z), fun _ => h⟩
theorem brE_t {b : Bool} {A B : Prop} (e : b = true) (h : br b A B) : A := h.t e
theorem brE_f {b : Bool} {A B : Prop} (e : b = false) (h : br b A B) : B := h.f e
theorem brD {c : Prop} [Decidable c] {A B : Prop} (h1 : c → A) (h2 : ¬ c → B) : br (decide c) A B := br_of (fun e => h1 (of_decide_eq_true e)) (fun e => h2 (of_decide_eq_false e))
theorem brN {c : Prop} [Decidable c] {A B : Prop} (h1 : ¬ c → A) (h2 : c → B) : br (!decide c) A B := br_of (fun e => h1 (by simpa using e)) (fun e => h2 (by simpa using e))
theorem nbE {a a' : Bool} {b b' : Int} (h1 : a = a') (h2 : b = b') : (!(decide (a = a') && decide (b = b'))) = false := by subst h1 h2; simp
theorem nb1 {α : Type} [DecidableEq α] (a : α) : (!decide (a = a)) = false := by simp
theorem noT_tab {hot : Bool} {X : Cx} {k : Nat} {m : Str} {ks : List Str} : MTab hot X k m ks noT := fun c ct h => by cases h
/-! ## what a class makes, as a function -/
abbrev Ans := Option (XV ⊕ PV)
abbrev AnsI := Option (XV ⊕ List PV)
/-- a def that computes f -/
def fnC (f : List PV → Ans) : Ct := fun as μ q x => match f as with
  | some (.inr p) => q p μ
  | some (.inl xv) => x xv μ
  | none => False
/-- what an __init__ makes of its arguments: the fields, or what it raises -/
abbrev Kc := Cl → List PV → (List PV → Prop) → (XV → Prop) → Prop
def initK (kc : Kc) : Ct := fun as μ q x => ∃ y c ps, as = .cell y :: ps ∧ μ y = some (.ins c []) ∧ kc c ps (fun vs => vs.length = c.flds.length ∧ q .non (μ.put y (.ins c (c.flds.zip vs)))) (fun xv => x xv μ)
def mkK (c : Cl) (kc : Kc) : Ct := fun ps μ q x => kc c ps (fun vs => vs.length = c.flds.length ∧ q (.obj c vs) μ) (fun xv => x xv μ)
def Mono (kc : Kc) : Prop := ∀ c ps A A' B B', (∀ vs, A vs → A' vs) → (∀ xv, B xv → B' xv) → kc c ps A B → kc c ps A' B'
theorem br_mono {b : Bool} {A A' B B' : Prop} (h : br b A B) (h1 : A → A') (h2 : B → B') : br b A' B' := ⟨fun e => h1 (h.t e), fun e => h2 (h.f e)⟩
theorem takeF_zip : ∀ (gs : List Str) (vs : List PV), vs.length = gs.length → takeF gs (gs.zip vs) = some vs
  | [], [], _ => rfl
  | g :: gs, v :: vs, h => by
    have ih := takeF_zip gs vs (by simpa using h)
    rw [List.zip_cons_cons]
    unfold takeF
    cases decEq g g with
    | isTrue _ => simp only [ih]
    | isFalse z => exact absurd rfl z
theorem mkQ_end {y : Addr} {q : QV} {μ : Mu} {c : Cl} {vs : List PV} (h : vs.length = c.flds.length) (k : q (.obj c vs) (μ.del y)) : mkQ true y q .non (μ.put y (.ins c (c.flds.zip vs))) := by
  unfold mkQ mkEnd
  simp only [Mu.put_same, takeF_zip _ _ h, Mu.del_put]
  exact k
theorem mkK_ok {c : Cl} {kc : Kc} (m : Mono kc) : MkC true c (initK kc) (mkK c kc) := fun ps μ q x h y hy => by
  refine ⟨y, c, ps, rfl, Mu.put_same _ _ _, m c ps _ _ _ _ (fun vs hv => ?_) (fun xv hx => ?_) h⟩
  · refine ⟨hv.1, ?_⟩
    rw [Mu.put_put]
    refine mkQ_end hv.1 ?_
    rw [Mu.del_none hy]
    exact hv.2
  · show x xv ((μ.put y (.ins c [])).del y)
    rw [Mu.del_put, Mu.del_none hy]
    exact hx
/-- .. with *args -/
theorem mkK_star {c : Cl} {kc : Kc} (m : Mono kc) : MkC true c (starC 1 (initK kc)) (fun ps μ q x => ps.length ≤ sizeLine ∧ mkK c kc [.tup ps] μ q x) := fun ps μ q x h y hy =>
  ⟨by simp, h.1, mkK_ok m [.tup ps] μ q x h.2 y hy⟩
theorem MkC.imp {fz : Bool} {c : Cl} {ct kc kc' : Ct} (h : MkC fz c ct kc) (i : ∀ ps μ q x, kc' ps μ q x → kc ps μ q x) : MkC fz c ct kc' := fun ps μ q x z => h ps μ q x (i _ _ _ _ z)
theorem g_many {X : Cx} {es : List Expr} {is : List Nat} {n : Nat} {pos : Pos} (hc : X.calm = true) (h : GJ X es is) (hn : (assignEach es X.env).length = is.length := by rfl) (hst : (assignEach es X.env).findIdx? (·.1) = none := by rfl) : PG X (.Tuple es n pos) (tgOf X.K (.many is)) := pg_tup hc h.pg hn hst
/-- a comprehension over one name, its test f, its element g -/
theorem lcD_one {i : Nat} {own : List Nat} {dt : DT} {de : DE} {ρ : En} {q : List PV → Mu → Prop} {μ : Mu} (f : PV → Bool) (g : PV → PV) : ∀ (xs acc : List PV), (∀ x ∈ xs, ∀ k : Bool → Mu → Prop, k (f x) μ → dt ((wipeE ρ own).set i (some x)) μ k noX) → (∀ x ∈ xs, f x = true → ∀ k : QV, k (g x) μ → de ((wipeE ρ own).set i (some x)) μ k noX) →
    q (acc ++ (xs.filter f).map g) μ → Lk (lcD (.one i) own dt de ρ q xs acc μ)
  | [], acc, _, _, h => lcD_n rfl (by simpa using h)
  | x :: xs, acc, h1, h2, h => by
    refine lcD_c rfl ?_
    show dt ((wipeE ρ own).set i (some x)) μ _ noX
    refine h1 x List.mem_cons_self _ ?_
    cases e : f x with
    | true =>
      refine brT rfl ?_
      refine h2 x List.mem_cons_self e _ (lcD_one f g xs _ (fun y hy => h1 y (List.mem_cons_of_mem _ hy)) (fun y hy => h2 y (List.mem_cons_of_mem _ hy)) ?_)
      rw [List.filter_cons_of_pos e] at h
      simpa using h
    | false =>
      refine brF rfl ?_
      refine lcD_one f g xs _ (fun y hy => h1 y (List.mem_cons_of_mem _ hy)) (fun y hy => h2 y (List.mem_cons_of_mem _ hy)) ?_
      rw [List.filter_cons_of_neg (by simp [e])] at h
      exact h
/-- without a test -/
theorem lcD_map {i : Nat} {own : List Nat} {de : DE} {ρ : En} {q : List PV → Mu → Prop} {μ : Mu} (g : PV → PV) (xs acc : List PV) (h2 : ∀ x ∈ xs, ∀ k : QV, k (g x) μ → de ((wipeE ρ own).set i (some x)) μ k noX)
    (h : q (acc ++ xs.map g) μ) : Lk (lcD (.one i) own dYes de ρ q xs acc μ) := by
  refine lcD_one (fun _ => true) g xs acc (fun x _ k hk => hk) (fun x hx _ => h2 x hx) ?_
  rwa [List.filter_eq_self.mpr (fun _ _ => rfl)]
end Px

/-! # == and != of tuples and lists, whatever comes out -/
namespace GE
open PySem PySem.SeqAt
open AutoSeq1 (wpAny_loadPart')
open MeetsSeq MeetsSeq2 MeetsSeq3 SeqRoads2
section
variable {prog : Program} {w : World} {A : Around} {R : Result → Shared → Prop}
/-- at each turn the two lists are read anew: N items each; the i-th two are equal, or it ends by D -/
def ListJ (prog : Program) (w : World) (A : Around) (E : Value → Shared → Prop) (D : Shared → Prop) (l b : Addr) (N : Nat) (I : Nat → Shared → Prop) : Prop :=
  ∀ i s, I i s → ∃ (items items2 : Array Value) (n n2 : Nat), s.heap.get? l = some { cls := .type "list", data := .seq items n } ∧ s.heap.get? b = some { cls := .type "list", data := .seq items2 n2 } ∧ items.size = N ∧ items2.size = N ∧
    ∀ (h1 : i < items.size) (h2 : i < items2.size), wpAny (model prog w) A.in1 (eqBool items[i] items2[i]) (fun r s' => (r = true ∧ I (i + 1) s') ∨ (r = false ∧ (∃ (its its2 : Array Value) (m m2 : Nat), s'.heap.get? l = some { cls := .type "list", data := .seq its m } ∧ s'.heap.get? b = some { cls := .type "list", data := .seq its2 m2 } ∧ its.size = N ∧ its2.size = N) ∧ D s')) E s

theorem tuple_eqG (l b : Addr) (items items2 : Array Value) (n n2 : Nat) (dd dd2 : Option Addr) (sl sl2 : Array (Option Value)) (I : Nat → Shared → Prop)
    (turn : ∀ i (h1 : i < items.size) (h2 : i < items2.size) s, I i s → wpAny (model prog w) A.in1 (eqBool items[i] items2[i]) (fun r s' => (r = true ∧ I (i + 1) s') ∨ (r = false ∧ R (.ok (.ret (.bool false))) s')) (fun e s' => R (.error e) s') s)
    (fin : ∀ s, I (min items.size items2.size) s → R (.ok (.ret (.bool ((items.size == items2.size))))) s) {s : Shared} (hl1 : s.heap.get? l = some { cls := .type "tuple", dict := dd, data := .seq items n, slots := sl }) (hb1 : s.heap.get? b = some { cls := .type "tuple", dict := dd2, data := .seq items2 n2, slots := sl2 }) (h : I 0 s) :
    wpAny (model prog w) A.in1 (Builtin.«tuple.__eq__» ⟨[.ref l, .ref b], []⟩) (GQ.FinOf prog w A R) (fun e s' => R (.error e) s') s := by
  have f2 := AutoSeq1.sub_tuple_tuple
  have hZ : (items.toList.zip items2.toList).length = min items.size items2.size := by simp
  have h0 := h
  obtain ⟨hp, g, d, tk, os⟩ := s
  wp_walk using wpAny_loadPart' hl1, wpAny_loadPart' hb1, wpAny_forIn_list _ (fun rest b s' => b.1 = none ∧ ∃ i, rest = (items.toList.zip items2.toList).drop i ∧ i ≤ min items.size items2.size ∧ I i s') _
  case turn =>
    rintro ⟨y, x⟩ rest b s' ⟨hb', i, hz, hi, hI⟩
    have hlt : i < (items.toList.zip items2.toList).length := by
      rcases Nat.lt_or_ge i (items.toList.zip items2.toList).length with h' | h'
      · exact h'
      · rw [List.drop_of_length_le h'] at hz; cases hz
    have hm : i < min items.size items2.size := hZ ▸ hlt
    have h1 : i < items.size := Nat.lt_of_lt_of_le hm (Nat.min_le_left _ _)
    have h2 : i < items2.size := Nat.lt_of_lt_of_le hm (Nat.min_le_right _ _)
    rw [List.drop_eq_getElem_cons hlt] at hz
    injection hz with hyx hrest
    have hy : y = items[i] := by have := congrArg Prod.fst hyx; simpa using this
    have hx : x = items2[i] := by have := congrArg Prod.snd hyx; simpa using this
    subst hy hx
    refine wpAny_bind (wpAny_mono (turn i h1 h2 s' hI) (fun r s2 q2 => ?_) fun _ _ x => x)
    rcases q2 with ⟨hr, q2⟩ | ⟨hr, q2⟩
    · subst hr
      wp_walk
      exact ⟨rfl, i + 1, hrest, hm, q2⟩
    · subst hr
      wp_walk
      exact q2
  case fin =>
    rintro ⟨b1, b2⟩ s' ⟨hb', i, hz, hi, hI⟩
    simp only at hb'
    subst hb'
    have hge : min items.size items2.size ≤ i := by
      rcases Nat.lt_or_ge i (items.toList.zip items2.toList).length with h' | h'
      · rw [List.drop_eq_getElem_cons h'] at hz; cases hz
      · exact hZ ▸ h'
    have hi' : i = min items.size items2.size := by omega
    have hR := fin s' (hi' ▸ hI)
    wp_walk
    first | exact hR | simpa [Builtin.Tuple.tupleCompareSizes] using hR | exact ⟨_, rfl, by simpa [Builtin.Tuple.tupleCompareSizes] using hR⟩
  case h =>
    exact ⟨rfl, 0, rfl, Nat.zero_le _, h0⟩

theorem eq_loopG (l b : Addr) (N : Nat) (I : Nat → Shared → Prop) (hl : ListJ prog w A (fun e s' => R (.error e) s') (fun s' => R (.ok (.ret (.bool false))) s') l b N I)
    (fin : ∀ s, I N s → R (.ok (.ret (.bool (!false)))) s) (k : Nat) :
    ∀ i : Nat, N - i = k → i ≤ N → ∀ s, I i s →
      wpAny (model prog w) A.in1 (Builtin.«list.__eq__.loop» ⟨[.ref l, .ref b, rawInt i, rawInt 2], []⟩) (GQ.FinOf prog w A R) (fun e s' => R (.error e) s') s := by
  induction k with
  | zero =>
    intro i hk hi s h
    obtain ⟨items, items2, n, n2, hl1, hb1, hs1, hs2, _⟩ := hl _ _ h
    have hi' : i = N := by omega
    have hR : R (.ok (.ret (.bool (!false)))) s := fin s (hi' ▸ h)
    obtain ⟨hp, g, d, tk, os⟩ := s
    wp_walk using wpAny_loadPart' hl1, wpAny_loadPart' hb1
    have hi1 : items[((i : Nat) : Int).toNat]? = none := by simp; omega
    have hi2 : items2[((i : Nat) : Int).toNat]? = none := by simp; omega
    rw [hi1, hi2]
    wp_walk using wpAny_loadPart' hl1, wpAny_loadPart' hb1
    show R (.ok (.ret (.bool (items.size == items2.size)))) _
    rw [hs1, hs2]
    simpa using hR
  | succ k ih =>
    intro i hk hi s h
    obtain ⟨items, items2, n, n2, hl1, hb1, hs1, hs2, turn⟩ := hl _ _ h
    have hlt : i < items.size := by omega
    have hlt2 : i < items2.size := by omega
    have ht := turn hlt hlt2
    obtain ⟨hp, g, d, tk, os⟩ := s
    wp_walk using wpAny_loadPart' hl1, wpAny_loadPart' hb1
    have hi1 : items[((i : Nat) : Int).toNat]? = some items[i] := by simp [hlt]
    have hi2 : items2[((i : Nat) : Int).toNat]? = some items2[i] := by simp [hlt2]
    have hc : ((i : Int) + 1) = ((i + 1 : Nat) : Int) := by omega
    rw [hi1, hi2]
    refine wpAny_bind (wpAny_mono ht (fun r s2 h2 => ?_) fun _ _ x => x)
    rcases h2 with ⟨hr, h2⟩ | ⟨hr, h2⟩
    · subst hr
      have hrec := ih (i + 1) (by omega) (by omega) s2 h2
      obtain ⟨hp2, g2, d2, tk2, os2⟩ := s2
      wp_walk
      rw [hc]
      exact ⟨plainId_quiet plain_eq_loop _, codeAny_builtin entry_eq_loop (by
        rw [Around.under_plainId plain_eq_loop _]
        exact hrec)⟩
    · subst hr
      obtain ⟨⟨its, its2, m, m2, hl2, hb2, ht1, ht2⟩, h2⟩ := h2
      obtain ⟨hp2, g2, d2, tk2, os2⟩ := s2
      wp_walk using wpAny_loadPart' hl2, wpAny_loadPart' hb2
      have hi3 : its[((i : Nat) : Int).toNat]? = some its[i] := by simp
      have hi4 : its2[((i : Nat) : Int).toNat]? = some its2[i] := by simp
      rw [hi3, hi4]
      wp_walk
      exact h2
theorem list_eqG (l b : Addr) (N : Nat) (I : Nat → Shared → Prop) (hl : ListJ prog w A (fun e s' => R (.error e) s') (fun s' => R (.ok (.ret (.bool false))) s') l b N I)
    (fin : ∀ s, I N s → R (.ok (.ret (.bool (!false)))) s) {s : Shared} (h : I 0 s) :
    wpAny (model prog w) A.in1 (Builtin.«list.__eq__» ⟨[.ref l, .ref b], []⟩) (GQ.FinOf prog w A R) (fun e s' => R (.error e) s') s := by
  obtain ⟨items, items2, n, n2, hl1, hb1, hs1, hs2, _⟩ := hl _ _ h
  have hrec := eq_loopG (A := A) (R := R) l b N I hl fin _ 0 rfl (Nat.zero_le _) s h
  obtain ⟨hp, g, d, tk, os⟩ := s
  have f3 := AutoSeq1.sub_list_list
  have hne : ¬ (items.size != items2.size) = true := by simp [hs1, hs2]
  wp_walk using wpAny_loadPart' hl1, wpAny_loadPart' hb1
  exact ⟨plainId_quiet plain_eq_loop _, codeAny_builtin entry_eq_loop (by
    rw [Around.under_plainId plain_eq_loop _]
    exact hrec)⟩
theorem list_eqD (l b : Addr) {items items2 : Array Value} {n n2 : Nat} {s : Shared} (hl1 : s.heap.get? l = some { cls := .type "list", data := .seq items n }) (hb1 : s.heap.get? b = some { cls := .type "list", data := .seq items2 n2 }) (hne : items.size ≠ items2.size) (h : R (.ok (.ret (.bool false))) s) :
    wpAny (model prog w) A.in1 (Builtin.«list.__eq__» ⟨[.ref l, .ref b], []⟩) (GQ.FinOf prog w A R) (fun e s' => R (.error e) s') s := by
  obtain ⟨hp, g, d, tk, os⟩ := s
  have f3 := AutoSeq1.sub_list_list
  have hne : (items.size != items2.size) = true := by simp [hne]
  wp_walk using wpAny_loadPart' hl1, wpAny_loadPart' hb1
  all_goals first | exact h | simpa using h | skip

theorem tuple_neG (l b : Addr) (items items2 : Array Value) (n n2 : Nat) (dd dd2 : Option Addr) (sl sl2 : Array (Option Value)) (I : Nat → Shared → Prop)
    (turn : ∀ i (h1 : i < items.size) (h2 : i < items2.size) s, I i s → wpAny (model prog w) A.in1 (eqBool items[i] items2[i]) (fun r s' => (r = true ∧ I (i + 1) s') ∨ (r = false ∧ R (.ok (.ret (.bool true))) s')) (fun e s' => R (.error e) s') s)
    (fin : ∀ s, I (min items.size items2.size) s → R (.ok (.ret (.bool (!(items.size == items2.size))))) s) {s : Shared} (hl1 : s.heap.get? l = some { cls := .type "tuple", dict := dd, data := .seq items n, slots := sl }) (hb1 : s.heap.get? b = some { cls := .type "tuple", dict := dd2, data := .seq items2 n2, slots := sl2 }) (h : I 0 s) :
    wpAny (model prog w) A.in1 (Builtin.«tuple.__ne__» ⟨[.ref l, .ref b], []⟩) (GQ.FinOf prog w A R) (fun e s' => R (.error e) s') s := by
  have f2 := AutoSeq1.sub_tuple_tuple
  have hZ : (items.toList.zip items2.toList).length = min items.size items2.size := by simp
  have h0 := h
  obtain ⟨hp, g, d, tk, os⟩ := s
  wp_walk using wpAny_loadPart' hl1, wpAny_loadPart' hb1, wpAny_forIn_list _ (fun rest b s' => b.1 = none ∧ ∃ i, rest = (items.toList.zip items2.toList).drop i ∧ i ≤ min items.size items2.size ∧ I i s') _
  case turn =>
    rintro ⟨y, x⟩ rest b s' ⟨hb', i, hz, hi, hI⟩
    have hlt : i < (items.toList.zip items2.toList).length := by
      rcases Nat.lt_or_ge i (items.toList.zip items2.toList).length with h' | h'
      · exact h'
      · rw [List.drop_of_length_le h'] at hz; cases hz
    have hm : i < min items.size items2.size := hZ ▸ hlt
    have h1 : i < items.size := Nat.lt_of_lt_of_le hm (Nat.min_le_left _ _)
    have h2 : i < items2.size := Nat.lt_of_lt_of_le hm (Nat.min_le_right _ _)
    rw [List.drop_eq_getElem_cons hlt] at hz
    injection hz with hyx hrest
    have hy : y = items[i] := by have := congrArg Prod.fst hyx; simpa using this
    have hx : x = items2[i] := by have := congrArg Prod.snd hyx; simpa using this
    subst hy hx
    refine wpAny_bind (wpAny_mono (turn i h1 h2 s' hI) (fun r s2 q2 => ?_) fun _ _ x => x)
    rcases q2 with ⟨hr, q2⟩ | ⟨hr, q2⟩
    · subst hr
      wp_walk
      exact ⟨rfl, i + 1, hrest, hm, q2⟩
    · subst hr
      wp_walk
      exact q2
  case fin =>
    rintro ⟨b1, b2⟩ s' ⟨hb', i, hz, hi, hI⟩
    simp only at hb'
    subst hb'
    have hge : min items.size items2.size ≤ i := by
      rcases Nat.lt_or_ge i (items.toList.zip items2.toList).length with h' | h'
      · rw [List.drop_eq_getElem_cons h'] at hz; cases hz
      · exact hZ ▸ h'
    have hi' : i = min items.size items2.size := by omega
    have hR := fin s' (hi' ▸ hI)
    wp_walk
    first | exact hR | simpa [Builtin.Tuple.tupleCompareSizes] using hR | exact ⟨_, rfl, by simpa [Builtin.Tuple.tupleCompareSizes] using hR⟩
  case h =>
    exact ⟨rfl, 0, rfl, Nat.zero_le _, h0⟩

theorem ne_loopG (l b : Addr) (N : Nat) (I : Nat → Shared → Prop) (hl : ListJ prog w A (fun e s' => R (.error e) s') (fun s' => R (.ok (.ret (.bool true))) s') l b N I)
    (fin : ∀ s, I N s → R (.ok (.ret (.bool (!true)))) s) (k : Nat) :
    ∀ i : Nat, N - i = k → i ≤ N → ∀ s, I i s →
      wpAny (model prog w) A.in1 (Builtin.«list.__eq__.loop» ⟨[.ref l, .ref b, rawInt i, rawInt 3], []⟩) (GQ.FinOf prog w A R) (fun e s' => R (.error e) s') s := by
  induction k with
  | zero =>
    intro i hk hi s h
    obtain ⟨items, items2, n, n2, hl1, hb1, hs1, hs2, _⟩ := hl _ _ h
    have hi' : i = N := by omega
    have hR : R (.ok (.ret (.bool (!true)))) s := fin s (hi' ▸ h)
    obtain ⟨hp, g, d, tk, os⟩ := s
    wp_walk using wpAny_loadPart' hl1, wpAny_loadPart' hb1
    have hi1 : items[((i : Nat) : Int).toNat]? = none := by simp; omega
    have hi2 : items2[((i : Nat) : Int).toNat]? = none := by simp; omega
    rw [hi1, hi2]
    wp_walk using wpAny_loadPart' hl1, wpAny_loadPart' hb1
    show R (.ok (.ret (.bool (items.size != items2.size)))) _
    rw [hs1, hs2]
    simpa using hR
  | succ k ih =>
    intro i hk hi s h
    obtain ⟨items, items2, n, n2, hl1, hb1, hs1, hs2, turn⟩ := hl _ _ h
    have hlt : i < items.size := by omega
    have hlt2 : i < items2.size := by omega
    have ht := turn hlt hlt2
    obtain ⟨hp, g, d, tk, os⟩ := s
    wp_walk using wpAny_loadPart' hl1, wpAny_loadPart' hb1
    have hi1 : items[((i : Nat) : Int).toNat]? = some items[i] := by simp [hlt]
    have hi2 : items2[((i : Nat) : Int).toNat]? = some items2[i] := by simp [hlt2]
    have hc : ((i : Int) + 1) = ((i + 1 : Nat) : Int) := by omega
    rw [hi1, hi2]
    refine wpAny_bind (wpAny_mono ht (fun r s2 h2 => ?_) fun _ _ x => x)
    rcases h2 with ⟨hr, h2⟩ | ⟨hr, h2⟩
    · subst hr
      have hrec := ih (i + 1) (by omega) (by omega) s2 h2
      obtain ⟨hp2, g2, d2, tk2, os2⟩ := s2
      wp_walk
      rw [hc]
      exact ⟨plainId_quiet plain_eq_loop _, codeAny_builtin entry_eq_loop (by
        rw [Around.under_plainId plain_eq_loop _]
        exact hrec)⟩
    · subst hr
      obtain ⟨⟨its, its2, m, m2, hl2, hb2, ht1, ht2⟩, h2⟩ := h2
      obtain ⟨hp2, g2, d2, tk2, os2⟩ := s2
      wp_walk using wpAny_loadPart' hl2, wpAny_loadPart' hb2
      have hi3 : its[((i : Nat) : Int).toNat]? = some its[i] := by simp
      have hi4 : its2[((i : Nat) : Int).toNat]? = some its2[i] := by simp
      rw [hi3, hi4]
      wp_walk
      exact h2
theorem list_neG (l b : Addr) (N : Nat) (I : Nat → Shared → Prop) (hl : ListJ prog w A (fun e s' => R (.error e) s') (fun s' => R (.ok (.ret (.bool true))) s') l b N I)
    (fin : ∀ s, I N s → R (.ok (.ret (.bool (!true)))) s) {s : Shared} (h : I 0 s) :
    wpAny (model prog w) A.in1 (Builtin.«list.__ne__» ⟨[.ref l, .ref b], []⟩) (GQ.FinOf prog w A R) (fun e s' => R (.error e) s') s := by
  obtain ⟨items, items2, n, n2, hl1, hb1, hs1, hs2, _⟩ := hl _ _ h
  have hrec := ne_loopG (A := A) (R := R) l b N I hl fin _ 0 rfl (Nat.zero_le _) s h
  obtain ⟨hp, g, d, tk, os⟩ := s
  have f3 := AutoSeq1.sub_list_list
  have hne : ¬ (items.size != items2.size) = true := by simp [hs1, hs2]
  wp_walk using wpAny_loadPart' hl1, wpAny_loadPart' hb1
  exact ⟨plainId_quiet plain_eq_loop _, codeAny_builtin entry_eq_loop (by
    rw [Around.under_plainId plain_eq_loop _]
    exact hrec)⟩
theorem list_neD (l b : Addr) {items items2 : Array Value} {n n2 : Nat} {s : Shared} (hl1 : s.heap.get? l = some { cls := .type "list", data := .seq items n }) (hb1 : s.heap.get? b = some { cls := .type "list", data := .seq items2 n2 }) (hne : items.size ≠ items2.size) (h : R (.ok (.ret (.bool true))) s) :
    wpAny (model prog w) A.in1 (Builtin.«list.__ne__» ⟨[.ref l, .ref b], []⟩) (GQ.FinOf prog w A R) (fun e s' => R (.error e) s') s := by
  obtain ⟨hp, g, d, tk, os⟩ := s
  have f3 := AutoSeq1.sub_list_list
  have hne : (items.size != items2.size) = true := by simp [hne]
  wp_walk using wpAny_loadPart' hl1, wpAny_loadPart' hb1
  all_goals first | exact h | simpa using h | skip
end
end GE

/-! # == of plain values, own classes among them -/
namespace Px
open PySem PySem.Spec PyProof.Rows L2
def andO : Option Bool → Option Bool → Option Bool
  | some true, y => y
  | some false, _ => some false
  | none, _ => none
theorem andO_inv {x y : Option Bool} {k : Bool} (h : andO x y = some k) : (x = some false ∧ k = false) ∨ (x = some true ∧ y = some k) := by
  unfold andO at h
  split at h
  · exact .inr ⟨rfl, h⟩
  · cases h; exact .inl ⟨rfl, rfl⟩
  · cases h
def peqs (f : PV → PV → Option Bool) : List PV → List PV → Option Bool
  | [], [] => some true
  | x :: xs, y :: ys => andO (f x y) (peqs f xs ys)
  | _, _ => some false
/-- how an object of a class is compared: its fields, the other -/
abbrev Qf := List PV → PV → Option Bool
abbrev Qt := List (Cl × Qf)
def lookQ : Qt → Cl → Option Qf
  | [], _ => none
  | (d, f) :: r, c => (match decEq c d with
    | .isTrue _ => some f
    | .isFalse _ => lookQ r c)
theorem lookQ_mem {c : Cl} {f : Qf} : ∀ {Q : Qt}, lookQ Q c = some f → (c, f) ∈ Q
  | [], h => by cases h
  | (d, g) :: r, h => by
    unfold lookQ at h
    split at h
    · rename_i e _
      cases h
      rw [e]
      exact List.mem_cons_self
    · exact List.mem_cons_of_mem _ (lookQ_mem h)
/-- the object at the right is asked first: its class is a proper subclass -/
def prsub (d c : Cl) : Bool := match decEq d c with
  | .isTrue _ => false
  | .isFalse _ => subCl d c
def deqO (Q : Qt) (c : Cl) (xs : List PV) (b : PV) : Option Bool := match b with
  | .obj d ys => (match prsub d c with
    | true => (match lookQ Q d with
      | some f => f ys (.obj c xs)
      | none => none)
    | false => (match lookQ Q c with
      | some f => f xs (.obj d ys)
      | none => none))
  | .int _ | .str _ | .bl _ | .non | .tup _ | .lst _ => (match lookQ Q c with
      | some f => f xs b
      | none => none)
  | _ => none
def deq (Q : Qt) : Nat → PV → PV → Option Bool
  | t, .obj c xs, b => deqO Q c xs b
  | t + 1, .tup xs, .tup ys => peqs (deq Q t) xs ys
  | t + 1, .lst xs, .lst ys => (match Nat.beq xs.length ys.length with
    | true => peqs (deq Q t) xs ys
    | false => some false)
  | _, a, b => eqS a b
/-- a list's cell as the list that it is now -/
def rdL (μ : Mu) (p : PV) : PV := match p with
  | .cell a => (match μ a with
    | some (.lst xs) => .lst xs
    | _ => p)
  | _ => p
/-- what the own == of the class keeps -/
def cEq (c : Cl) (f : Qf) : Ct := fun as μ q _ => match as with
  | [.obj d xs, b] => (match decEq d c with
    | .isTrue _ => (match f xs b with
      | some k => q (.bl k) μ
      | none => False)
    | .isFalse _ => False)
  | _ => False
theorem cEq_of {c : Cl} {f : Qf} {xs : List PV} {b : PV} {μ : Mu} {q : QV} {x : QX} {k : Bool} (h : f xs b = some k) (hq : q (.bl k) μ) : cEq c f [.obj c xs, b] μ q x := by
  unfold cEq
  have e : decEq c c = .isTrue rfl := by
    cases decEq c c with
    | isTrue _ => rfl
    | isFalse z => exact absurd rfl z
  simp only [e, h]
  exact hq
/-- two that stand at one place come out equal -/
def Same (f : PV → PV → Option Bool) : Prop := ∀ (X : Cx) (pins : List (Addr × Obj)) (s : Shared) (σ : L2.St) (H : Hp) (B : BX) (μ : Mu) (G : Hp) (a b : PV) (v : V) (k : Bool), KA X.K → Inv X pins σ H s → Ok X.K B μ G H → Rep X.K B G a v → Rep X.K B G b v → f a b = some k → k = true
def SameO (c : Cl) (f : Qf) : Prop := ∀ (X : Cx) (pins : List (Addr × Obj)) (s : Shared) (σ : L2.St) (H : Hp) (B : BX) (μ : Mu) (G : Hp) (xs ys : List PV) (vs : List V) (k : Bool), KA X.K → Inv X pins σ H s → Ok X.K B μ G H → Reps X.K B G xs vs → Reps X.K B G ys vs → f xs (.obj c ys) = some k → k = true
theorem subCl_refl (c : Cl) : subCl c c = true := by unfold subCl; simp
theorem prsub_self (c : Cl) : prsub c c = false := by
  unfold prsub
  cases decEq c c with
  | isTrue _ => rfl
  | isFalse z => exact absurd rfl z
theorem subCl_anti {c d : Cl} (h1 : subCl c d = true) (h2 : subCl d c = true) : c = d := by
  by_cases e : c = d
  · exact e
  · unfold subCl at h1 h2
    rw [decide_eq_false e, Bool.false_or] at h1
    rw [decide_eq_false (Ne.symm e), Bool.false_or] at h2
    split at h1 <;> first | exact absurd h1 (by decide) | exact absurd h2 (by decide)
theorem ca_inj {K : Frg} (ka : KA K) {c d : Cl} (hc : kcB K c = true) (hd : kcB K d = true) (e : ca K c = ca K d) : c = d := by
  have kn : ∀ {x : Cl}, kcB K x = true → knB K x = true := fun h => by unfold knB; rw [h] <;> rfl
  have a1 := ka.oo c d hc (kn hd)
  have a2 := ka.oo c c hc (kn hc)
  have b1 := ka.oo d c hd (kn hc)
  rw [e] at a1 b1
  have a3 := ka.oo d d hd (kn hd)
  refine subCl_anti ?_ ?_
  · rw [a3] at a1
    rw [← Option.some.inj a1]; exact subCl_refl d
  · rw [a3] at b1
    rw [← Option.some.inj b1]; exact subCl_refl d
theorem zip_inj {gs : List Str} : ∀ {vs ws : List V}, vs.length = gs.length → ws.length = gs.length → gs.zip vs = gs.zip ws → vs = ws := by
  induction gs with
  | nil => intro vs ws h1 h2 _; rw [List.eq_nil_of_length_eq_zero h1, List.eq_nil_of_length_eq_zero h2]
  | cons g gs ih =>
    intro vs ws h1 h2 h
    match vs, ws, h1, h2 with
    | v :: vs, w :: ws, h1, h2 =>
      simp only [List.zip_cons_cons, List.cons.injEq, Prod.mk.injEq, true_and] at h
      rw [h.1, ih (by simpa using h1) (by simpa using h2) h.2]
theorem sqT_fun {X : Cx} {pins : List (Addr × Obj)} {s : Shared} {σ : L2.St} {H : Hp} {a : Addr} {vs ws : List V} (J : Inv X pins σ H s) (h1 : SqT X.K H a vs) (h2 : SqT X.K H a ws) : vs = ws := by
  obtain ⟨its, r, p, _⟩ := J.tuple h1
  obtain ⟨its2, r2, p2, _⟩ := J.tuple h2
  obtain ⟨o, e, _, n, d⟩ := p
  obtain ⟨o2, e2, _, n2, d2⟩ := p2
  rw [e] at e2
  cases e2
  rw [d] at d2
  have : its.toArray = its2.toArray := by injection d2
  have : its = its2 := by simpa using this
  rw [this] at r
  exact r.inj r2
theorem same_eqS : Same eqS := fun X pins s σ H B μ G a b v k ka J o ra rb h => by
  obtain ⟨_, e⟩ := eqS_ok h ra rb
  rw [← e]
  simp
theorem same_peqs {f : PV → PV → Option Bool} (hf : Same f) : ∀ {X : Cx} {pins : List (Addr × Obj)} {s : Shared} {σ : L2.St} {H : Hp} {B : BX} {μ : Mu} {G : Hp} {xs ys : List PV} {vs : List V} {k : Bool}, KA X.K → Inv X pins σ H s → Ok X.K B μ G H → Reps X.K B G xs vs → Reps X.K B G ys vs → peqs f xs ys = some k → k = true
  | X, pins, s, σ, H, B, μ, G, [], ys, vs, k, ka, J, o, rx, ry, h => by
    obtain rfl := rx.nil_inv
    cases ys with
    | nil => cases h; rfl
    | cons y ys => obtain ⟨_, _, e, _⟩ := ry.cons_inv; cases e
  | X, pins, s, σ, H, B, μ, G, x :: xs, ys, vs, k, ka, J, o, rx, ry, h => by
    obtain ⟨v, ws, rfl, r1, r2⟩ := rx.cons_inv
    cases ys with
    | nil => cases ry.nil_inv
    | cons y ys =>
      obtain ⟨v', ws', e, q1, q2⟩ := ry.cons_inv
      cases e
      rcases andO_inv h with ⟨h1, _⟩ | ⟨_, h2⟩
      · exact absurd (hf X pins s σ H B μ G x y v false ka J o r1 q1 h1) (by decide)
      · exact same_peqs hf ka J o r2 q2 h2
theorem same_obj {Q : Qt} (hQ : ∀ c f, (c, f) ∈ Q → SameO c f) (X : Cx) (pins : List (Addr × Obj)) (s : Shared) (σ : L2.St) (H : Hp) (B : BX) (μ : Mu) (G : Hp) (c : Cl) (xs : List PV) (b : PV) (v : V) (k : Bool) (ka : KA X.K) (J : Inv X pins σ H s) (o : Ok X.K B μ G H) (ra : Rep X.K B G (.obj c xs) v) (rb : Rep X.K B G b v) (h : deqO Q c xs b = some k) : k = true := by
  obtain ⟨p, dx, vs, rfl, kc, ea, hl, rs⟩ := ra.obj_inv
  cases b with
  | obj d ys =>
    obtain ⟨p2, dx2, ws, e, kc2, ea2, hl2, rs2⟩ := rb.obj_inv
    cases e
    rw [ea] at ea2
    have e2 := Option.some.inj ea2
    injection e2 with e3 e4 e5
    obtain rfl := ca_inj ka kc kc2 e3
    obtain rfl := zip_inj hl hl2 e5
    unfold deqO at h
    simp only [prsub_self] at h
    cases e : lookQ Q c with
    | none => simp only [e] at h; cases h
    | some f => simp only [e] at h; exact hQ c f (lookQ_mem e) X pins s σ H B μ G xs ys vs k ka J o rs rs2 h
  | int i => have := rb.int_inv; cases this
  | str i => have := rb.str_inv; cases this
  | bl i => have := rb.bl_inv; cases this
  | non => have := rb.non_inv; cases this
  | tup ys =>
    obtain ⟨p2, ws, e, sq, _⟩ := rb.tup_inv
    cases e
    rcases sq with sq | ⟨ob, its, n, lk, _⟩
    · rcases sq with sq | ⟨ob, sq⟩
      · rw [ea] at sq; cases sq
      · rw [ea] at sq; cases sq
    · have := (J.bs p ob (J.ok.mod.kin _ _ lk)).2
      rw [o.sub _ _ ea] at this; cases this
  | lst ys =>
    obtain ⟨p2, ws, e, sq, _⟩ := rb.lst_inv
    cases e
    rw [ea] at sq; cases sq
  | _ => cases h
theorem same_deq {Q : Qt} (hQ : ∀ c f, (c, f) ∈ Q → SameO c f) : ∀ t, Same (deq Q t) := by
  intro t
  induction t with
  | zero =>
    intro X pins s σ H B μ G a b v k ka J o ra rb h
    cases a with
    | obj c xs => exact same_obj hQ X pins s σ H B μ G c xs b v k ka J o ra rb h
    | _ => exact same_eqS X pins s σ H B μ G _ b v k ka J o ra rb h
  | succ t ih =>
    intro X pins s σ H B μ G a b v k ka J o ra rb h
    cases a with
    | obj c xs => exact same_obj hQ X pins s σ H B μ G c xs b v k ka J o ra rb h
    | tup xs =>
      cases b with
      | tup ys =>
        obtain ⟨p, vs, rfl, sq, rs⟩ := ra.tup_inv
        obtain ⟨p2, ws, e, sq2, rs2⟩ := rb.tup_inv
        cases e
        obtain rfl := sqT_fun J (o.sub.t sq) (o.sub.t sq2)
        exact same_peqs ih ka J o rs rs2 h
      | _ => exact same_eqS X pins s σ H B μ G _ _ v k ka J o ra rb h
    | lst xs =>
      cases b with
      | lst ys =>
        obtain ⟨p, vs, rfl, sq, rs⟩ := ra.lst_inv
        obtain ⟨p2, ws, e, sq2, rs2⟩ := rb.lst_inv
        cases e
        rw [sq] at sq2
        cases sq2
        have h : (match Nat.beq xs.length ys.length with | true => peqs (deq Q t) xs ys | false => some false) = some k := h
        have e : xs.length = ys.length := rs.length.symm.trans rs2.length
        rw [e, Nat.beq_refl] at h
        exact same_peqs ih ka J o rs rs2 h
      | _ => exact same_eqS X pins s σ H B μ G _ _ v k ka J o ra rb h
    | _ => exact same_eqS X pins s σ H B μ G _ b v k ka J o ra rb h
end Px

/-! # the machine's == does what deq says -/
namespace PySem.W
open PySem PySem.Calls PyProof.Rows PyProof.V PySem.Spec
section
variable {prog : Program} {w : World} {A : Around} {E : Value → Shared → Prop} {s : Shared} {K : Frag} {x C y D L f : Addr} {h₀ : Heap} {m : Str → Option Value} {ox oy : Obj} {od od2 : Option Obj}
/-- the right one's class is a proper subclass: it is asked first -/
theorem cmp_R {op : CmpOp} {Q : Value → Shared → Prop} (hu : A.units < cLine) (F : Fr h₀ L s.heap m) (X₀ : K.In h₀) (I : InstAt s.heap x ox C od) (I2 : InstAt s.heap y oy D od2) (hne : D ≠ C) (hsub : subIn K (.ref D) (.ref C) = some true)
    (hs : findIn K (.ref D) (cmpInfo op).2.2 = some (some (.ref f))) (hf : isFn K (.ref f) = true)
    (h : wpAny (model prog w) A (call (.ref f) [.ref y, .ref x]) (CmpBack Q) E s) : wpAny (model prog w) A (richCompare op (.ref x) (.ref y)) Q E s := by
  have X := X₀.keeps F.keep
  have one : wpAny (model prog w) A (tryCompare (.ref y) (cmpInfo op).2.2 (.ref x)) (fun r s' => ∃ v, r = some v ∧ Q v s') E s := by
    unfold tryCompare
    refine wpAny_bind (ifBound_K X I2 hs hf (wpAny_mono h (fun v s' hv => ?_) fun _ _ e => e))
    cases v <;> first | exact hv.elim | exact wpAny_pure ⟨_, rfl, hv⟩
  unfold richCompare
  simp only [oneThing_ref]
  refine wpAny_holding (wpAny_bind (wpAny_cRoomFor hu ?_))
  refine wpAny_bind (I.type.here (wpAny_bind (I2.type.here ?_)))
  have hn : (Value.ref C != Value.ref D) = true := by
    simp only [bne_iff_ne, ne_eq, Value.ref.injEq]
    exact fun z => hne z.symm
  rw [if_pos hn]
  refine wpAny_bind ((looks_subIn X hsub).here ?_)
  simp only [if_true]
  refine wpAny_bind (wpAny_mono one (fun r s' z => ?_) fun _ _ e => e)
  obtain ⟨v, rfl, hq⟩ := z
  exact wpAny_bind (wpAny_rule (wpAny_pure hq))
end
end PySem.W
namespace Px
open PySem PySem.Spec PyProof.Rows L2
/-- room below, t builtins deep -/
structure RmT (k t : Nat) (A : Around) : Prop where
  dp : A.depth + 3 * k + 5 < recursionLimit
  un : A.units + t + 16 * k + 200 < cLine
theorem RmT.in1 {k t : Nat} {A : Around} (r : RmT k (t + 1) A) : RmT k t A.in1 := ⟨r.dp, by have := r.un; show A.units + 1 + t + 16 * k + 200 < _; omega⟩
theorem RmT.rm {k t : Nat} {A : Around} (r : RmT k t A) : L2H.RoomH k A := ⟨r.dp, by have := r.un; omega⟩
theorem RmT.u {k t : Nat} {A : Around} (r : RmT k t A) : A.units < cLine := by have := r.un; omega
theorem RmT.of {k : Nat} {A : Around} (r : L2H.RoomH (k + 1) A) : RmT k 16 A := ⟨by have := r.dp; omega, by have := r.un; omega⟩
/-- the own == of the classes of Q is known -/
structure QOk (X : Cx) (k : Nat) (Q : Qt) : Prop where
  ka : KA X.K
  calm : Q ≠ [] → X.calm = true
  ok : ∀ c f, (c, f) ∈ Q → SameO c f ∧ kcB X.K c = true ∧ ∃ g, Meth X.K (ca X.K c) "__eq__" g ∧ FnS false X.prog X.w X.K X.mg X.base k g [] (spP X.K (cEq c f))
section
variable {X : Cx} {k : Nat} {Q : Qt}
/-- what a comparison leaves -/
def Aft (X : Cx) (pins : List (Addr × Obj)) (σ : L2.St) (B : BX) (μ : Mu) (G H : Hp) (s' : Shared) : Prop := ∃ G' H', Go X.K B μ G H μ G' H' ∧ Inv X pins σ H' s'
theorem run_eq {A' : Around} {pins : List (Addr × Obj)} {σ : L2.St} {H G : Hp} {B : BX} {μ : Mu} {s : Shared} {g : Addr} {c : Cl} {f : Qf} {xs : List PV} {b : PV} {va vb : V} {u w : Value} {r : Bool} (F : FnS false X.prog X.w X.K X.mg X.base k g [] (spP X.K (cEq c f))) (hc : X.calm = true) (hf : A'.frames = X.A.frames) (hh : A'.handled = X.A.handled) (hr : L2H.RoomH k A')
    (J : Inv X pins σ H s) (o : Ok X.K B μ G H) (ra : Rep X.K B G (.obj c xs) va) (rb : Rep X.K B G b vb) (ru : RelV va u) (rw' : RelV vb w) (h : f xs b = some r) :
    wpAny (model X.prog X.w) A' (call (.ref g) [u, w]) (PySem.W.CmpBack fun v s' => v = .bool r ∧ Aft X pins σ B μ G H s') X.xe s := by
  refine wpAny_mono (run_in (E := X.xe) (Q := fun v H' => v = .bl r ∧ ∃ G', Go X.K B μ G H μ G' H') F hc hf hh hr J (.cons ru (.cons rw' .nil)) (spP_ok (q := fun p μ' => p = .bl r ∧ μ' = μ) o (.cons ra (.cons rb .nil)) (cEq_of h ⟨rfl, rfl⟩) fun p v μ' G' H' hp gg rr => ?_)) (fun v s' hv => ?_) fun _ _ z => z
  · obtain ⟨rfl, rfl⟩ := hp
    exact ⟨rr.bl_inv, G', gg⟩
  · obtain ⟨z, H', J', rz, rfl, G', gg⟩ := hv
    cases rz
    exact ⟨rfl, G', H', gg, J'⟩
theorem rc_obj (q : QOk X k Q) {A' : Around} {t : Nat} {pins : List (Addr × Obj)} {σ : L2.St} {H G : Hp} {B : BX} {μ : Mu} {s : Shared} {c : Cl} {xs : List PV} {b : PV} {va vb : V} {u w : Value} {r : Bool} (hf : A'.frames = X.A.frames) (hh : A'.handled = X.A.handled) (hr : RmT k t A')
    (J : Inv X pins σ H s) (o : Ok X.K B μ G H) (ra : Rep X.K B G (.obj c xs) va) (rb : Rep X.K B G b vb) (ru : RelV va u) (rw' : RelV vb w) (h : deqO Q c xs b = some r) :
    wpAny (model X.prog X.w) A' (richCompare .Eq u w) (fun v s' => v = .bool r ∧ Aft X pins σ B μ G H s') X.xe s := by
  obtain ⟨x, dx, vs, ev, kc, ex, _⟩ := ra.obj_inv
  have ru' := ru
  rw [ev] at ru'
  obtain rfl : u = Value.ref x := ru'
  obtain ⟨od, I⟩ := inst_at J (o.sub _ _ ex)
  obtain ⟨mm, fr⟩ := J.fr
  obtain ⟨tb, tob⟩ := tyX_of o rb
  have main : ∀ {tv : Value} {f : Qf}, TyX X.K H vb tv → PySem.W.notFirst X.K (ca X.K c) tv = true → lookQ Q c = some f → f xs b = some r → wpAny (model X.prog X.w) A' (richCompare .Eq (.ref x) w) (fun v s' => v = .bool r ∧ Aft X pins σ B μ G H s') X.xe s := fun {tv f} tx nf el hf' => by
    obtain ⟨_, _, g, me, F⟩ := q.ok c f (lookQ_mem el)
    have hc := q.calm fun z => by rw [z] at el; cases el
    obtain ⟨P, kx, hP, _⟩ := kit_of J rw' tx
    exact PySem.W.cmp_K (op := .Eq) hr.u fr J.ok.mod.kin I (kx.ty _ _ J.kIn hP) nf me.at_ me.fn (run_eq F hc hf hh hr.rm J o ra rb ru rw' hf')
  have flat : ∀ {n : String}, TyX X.K H vb (.type n) → n ∈ tyn → (match lookQ Q c with | some f => f xs b | none => none) = some r → wpAny (model X.prog X.w) A' (richCompare .Eq (.ref x) w) (fun v s' => v = .bool r ∧ Aft X pins σ B μ G H s') X.xe s := fun {n} tx hn h => by
    cases el : lookQ Q c with
    | none => simp only [el] at h; cases h
    | some f =>
      simp only [el] at h
      refine main tx ?_ el h
      unfold PySem.W.notFirst
      rw [q.ka.st c kc n hn] <;> simp
  cases b with
  | obj d ys =>
    obtain ⟨y, dy, ws, ew, kd, ey, _⟩ := rb.obj_inv
    have h : (match prsub d c with | true => (match lookQ Q d with | some f => f ys (.obj c xs) | none => none) | false => (match lookQ Q c with | some f => f xs (.obj d ys) | none => none)) = some r := h
    cases ep : prsub d c with
    | true =>
      simp only [ep] at h
      cases el : lookQ Q d with
      | none => simp only [el] at h; cases h
      | some f =>
        simp only [el] at h
        have rw2 := rw'
        rw [ew] at rw2
        obtain rfl : w = Value.ref y := rw2
        obtain ⟨od2, I2⟩ := inst_at J (o.sub _ _ ey)
        obtain ⟨_, _, g, me, F⟩ := q.ok d f (lookQ_mem el)
        have hc := q.calm fun z => by rw [z] at el; cases el
        have hs : d ≠ c ∧ subCl d c = true := by
          unfold prsub at ep
          split at ep
          · cases ep
          · rename_i z _; exact ⟨z, ep⟩
        refine PySem.W.cmp_R (op := .Eq) hr.u fr J.ok.mod.kin I I2 (fun z => hs.1 (ca_inj q.ka kd kc z)) ((q.ka.sb d c kd kc).trans (by rw [hs.2])) me.at_ me.fn (run_eq F hc hf hh hr.rm J o rb ra rw' ru h)
    | false =>
      simp only [ep] at h
      cases el : lookQ Q c with
      | none => simp only [el] at h; cases h
      | some f =>
        simp only [el] at h
        refine main (tob d rfl).2 ?_ el h
        unfold PySem.W.notFirst
        unfold prsub at ep
        split at ep
        · rename_i z _; rw [z]; simp
        · rw [q.ka.sb d c kd kc, ep]; simp
  | int i => exact flat (tb _ rfl).2 (by decide) h
  | str i => exact flat (tb _ rfl).2 (by decide) h
  | bl i => exact flat (tb _ rfl).2 (by decide) h
  | non => exact flat (tb _ rfl).2 (by decide) h
  | tup i => exact flat (tb _ rfl).2 (by decide) h
  | lst i => exact flat (tb _ rfl).2 (by decide) h
  | _ => cases h
theorem eqS_flat {K : Frg} {B : BX} {G : Hp} {a b : PV} {va vb : V} {r : Bool} (h : eqS a b = some r) (ra : Rep K B G a va) (rb : Rep K B G b vb) : flatV va = true ∧ flatV vb = true ∧ eqV va vb = r := by
  have fa : flatP a = true := by cases a <;> cases b <;> first | rfl | cases h
  have fb : flatP b = true := by cases a <;> cases b <;> first | rfl | cases h
  refine ⟨flat_ok ra fa, flat_ok rb fb, ?_⟩
  rw [eqF_ok ra rb fa fb]
  cases a <;> cases b <;> cases h <;> first | rfl | (rw [Bool.eq_iff_iff]; simp [eqF])
/-- == of two, somewhere within a builtin -/
def EB (X : Cx) (k t : Nat) (f : PV → PV → Option Bool) : Prop := ∀ (A' : Around) (pins : List (Addr × Obj)) (σ : L2.St) (H G : Hp) (B : BX) (μ : Mu) (s : Shared) (a b : PV) (va vb : V) (u w : Value) (r : Bool), A'.frames = X.A.frames → A'.handled = X.A.handled → RmT k t A' →
    Inv X pins σ H s → Ok X.K B μ G H → Rep X.K B G a va → Rep X.K B G b vb → RelV va u → RelV vb w → f a b = some r → wpAny (model X.prog X.w) A' (eqBool u w) (fun v s' => v = r ∧ Aft X pins σ B μ G H s') X.xe s
theorem eb_rc {t : Nat} {f : PV → PV → Option Bool} {A' : Around} {pins : List (Addr × Obj)} {σ : L2.St} {H G : Hp} {B : BX} {μ : Mu} {s : Shared} {a b : PV} {x y : Addr} {r : Bool} (ka : KA X.K) (hs : Same f) (J : Inv X pins σ H s) (o : Ok X.K B μ G H) (ra : Rep X.K B G a (.ref x)) (rb : Rep X.K B G b (.ref y)) (h : f a b = some r)
    (rc : wpAny (model X.prog X.w) A' (richCompare .Eq (.ref x) (.ref y)) (fun v s' => v = .bool r ∧ Aft X pins σ B μ G H s') X.xe s) : wpAny (model X.prog X.w) A' (eqBool (.ref x) (.ref y)) (fun v s' => v = r ∧ Aft X pins σ B μ G H s') X.xe s := by
  by_cases e : x = y
  · subst e
    obtain rfl := hs X pins s σ H B μ G a b _ r ka J o ra rb h
    exact SeqAt.EqAt.same (A := A') (s := s) (.ref x) X.prog X.w X.xe _ ⟨rfl, G, H, .refl o, J⟩
  · refine GQ.eqBool_refG e (wpAny_mono rc (fun v s' hv => ?_) fun _ _ z => z)
    obtain ⟨rfl, q⟩ := hv
    exact ⟨r, rfl, rfl, q⟩
theorem eb_ref {A' : Around} {x : Addr} {w : Value} {Qp : Bool → Shared → Prop} {E : Value → Shared → Prop} {s : Shared} (hw : ∀ y, w ≠ .ref y) (h : wpAny (model X.prog X.w) A' (richCompare .Eq (.ref x) w) (fun v s' => ∃ r, v = .bool r ∧ Qp r s') E s) : wpAny (model X.prog X.w) A' (eqBool (.ref x) w) Qp E s := by
  unfold eqBool
  refine wpAny_holding ?_
  refine wpAny_ite_split (fun hab => absurd (eq_of_beq hab).symm (hw x)) (fun _ => ?_)
  refine wpAny_bind (wpAny_mono h (fun v s' hv => ?_) fun _ _ x => x)
  obtain ⟨r, rfl, q⟩ := hv
  exact wpAny_truthy_bool q
/-- what the walk over two sequences knows -/
def LpI (X : Cx) (pins : List (Addr × Obj)) (σ : L2.St) (B : BX) (μ : Mu) (G H : Hp) (f : PV → PV → Option Bool) (xs ys : List PV) (r : Bool) (i : Nat) (s' : Shared) : Prop := ∃ G' H', Go X.K B μ G H μ G' H' ∧ Inv X pins σ H' s' ∧ peqs f (xs.drop i) (ys.drop i) = some r
theorem peqs_cons {f : PV → PV → Option Bool} {xs ys : List PV} {i : Nat} {r : Bool} (h1 : i < xs.length) (h2 : i < ys.length) (h : peqs f (xs.drop i) (ys.drop i) = some r) : (f xs[i] ys[i] = some false ∧ r = false) ∨ (f xs[i] ys[i] = some true ∧ peqs f (xs.drop (i + 1)) (ys.drop (i + 1)) = some r) := by
  rw [List.drop_eq_getElem_cons h1, List.drop_eq_getElem_cons h2] at h
  exact andO_inv h
theorem peqs_end {f : PV → PV → Option Bool} : ∀ {xs ys : List PV} {r : Bool}, peqs f (xs.drop (min xs.length ys.length)) (ys.drop (min xs.length ys.length)) = some r → r = (xs.length == ys.length)
  | xs, ys, r, h => by
    rcases Nat.lt_trichotomy xs.length ys.length with z | z | z
    · rw [Nat.min_eq_left (Nat.le_of_lt z), List.drop_length, List.drop_eq_getElem_cons z] at h
      cases h
      simp; omega
    · rw [z, Nat.min_self, List.drop_length, ← z, List.drop_length] at h
      cases h
      simp [z]
    · rw [Nat.min_eq_right (Nat.le_of_lt z), List.drop_length, List.drop_eq_getElem_cons z] at h
      cases h
      simp; omega
/-- one pair -/
theorem lp_turn {t : Nat} {f : PV → PV → Option Bool} (eb : EB X k t f) {A' : Around} {pins : List (Addr × Obj)} {σ : L2.St} {H G H1 G1 : Hp} {B : BX} {μ : Mu} {xs ys : List PV} {vs ws : List V} {its its2 : List Value} {r : Bool} {i : Nat} {s : Shared} (hf : A'.frames = X.A.frames) (hh : A'.handled = X.A.handled) (hr : RmT k (t + 1) A')
    (g1 : Go X.K B μ G H μ G1 H1) (J1 : Inv X pins σ H1 s) (hp : peqs f (xs.drop i) (ys.drop i) = some r) (rx : Reps X.K B G1 xs vs) (ry : Reps X.K B G1 ys ws) (ru : Vals vs its) (rw' : Vals ws its2) (h1 : i < its.toArray.size) (h2 : i < its2.toArray.size) :
    wpAny (model X.prog X.w) A'.in1 (eqBool its.toArray[i] its2.toArray[i]) (fun v s' => (v = true ∧ LpI X pins σ B μ G H f xs ys r (i + 1) s') ∨ (v = false ∧ r = false ∧ Aft X pins σ B μ G H s')) X.xe s := by
  have k1 : i < vs.length := by rw [ru.length]; simpa using h1
  have k2 : i < ws.length := by rw [rw'.length]; simpa using h2
  have l1 : i < xs.length := by rw [← rx.length]; exact k1
  have l2 : i < ys.length := by rw [← ry.length]; exact k2
  obtain ⟨v, e1, rv⟩ := rx.get (List.getElem?_eq_getElem l1)
  obtain ⟨v2, e2, rv2⟩ := ry.get (List.getElem?_eq_getElem l2)
  obtain ⟨u, hu, ru1⟩ := ru.get e1
  obtain ⟨u2, hu2, ru2⟩ := rw'.get e2
  have g1' : its[i]? = some its.toArray[i] := by
    have h1' : i < its.length := by simpa using h1
    rw [List.getElem?_eq_getElem h1'] <;> simp
  have g2' : its2[i]? = some its2.toArray[i] := by
    have h2' : i < its2.length := by simpa using h2
    rw [List.getElem?_eq_getElem h2'] <;> simp
  rw [g1'] at hu
  rw [g2'] at hu2
  rw [Option.some.inj hu, Option.some.inj hu2]
  rcases peqs_cons l1 l2 hp with ⟨ef, rfl⟩ | ⟨ef, hn⟩
  · refine wpAny_mono (eb A'.in1 pins σ H1 G1 B μ s _ _ v v2 u u2 false hf hh hr.in1 J1 g1.ok rv rv2 ru1 ru2 ef) (fun z s' hz => ?_) fun _ _ z => z
    obtain ⟨rfl, G2, H2, g2, J2⟩ := hz
    exact .inr ⟨rfl, rfl, G2, H2, g1.trans g2, J2⟩
  · refine wpAny_mono (eb A'.in1 pins σ H1 G1 B μ s _ _ v v2 u u2 true hf hh hr.in1 J1 g1.ok rv rv2 ru1 ru2 ef) (fun z s' hz => ?_) fun _ _ z => z
    obtain ⟨rfl, G2, H2, g2, J2⟩ := hz
    exact .inl ⟨rfl, G2, H2, g1.trans g2, J2, hn⟩
end
end Px

namespace Px
open PySem PySem.Spec PyProof.Rows L2
/-- at x stands the list xs, and will stand -/
def LsK (K : Frg) (B : BX) (μ : Mu) (G H : Hp) (x : Addr) (xs : List PV) : Prop := ∀ G' H', Go K B μ G H μ G' H' → ∃ vs, H' x = some (.lst vs) ∧ Reps K B G' xs vs
section
variable {X : Cx} {k : Nat} {Q : Qt}

theorem rc_tup_eq {t : Nat} {f : PV → PV → Option Bool} (eb : EB X k t f) {A' : Around} {pins : List (Addr × Obj)} {σ : L2.St} {H G : Hp} {B : BX} {μ : Mu} {s : Shared} {x y : Addr} {xs ys : List PV} {vs ws : List V} {r : Bool} (hf : A'.frames = X.A.frames) (hh : A'.handled = X.A.handled) (hr : RmT k (t + 1) A')
    (J : Inv X pins σ H s) (o : Ok X.K B μ G H) (sx : SqT X.K H x vs) (sy : SqT X.K H y ws) (rx : Reps X.K B G xs vs) (ry : Reps X.K B G ys ws) (h : peqs f xs ys = some r) :
    wpAny (model X.prog X.w) A' (richCompare .Eq (.ref x) (.ref y)) (fun v s' => v = .bool r ∧ Aft X pins σ B μ G H s') X.xe s := by
  obtain ⟨its, ru, e1, z1⟩ := J.tuple sx
  obtain ⟨its2, rw', e2, z2⟩ := J.tuple sy
  obtain ⟨⟨cls, dd, data, sl⟩, ho, hc, n, hd⟩ := id e1
  obtain ⟨⟨cls2, dd2, data2, sl2⟩, ho2, hc2, n2, hd2⟩ := id e2
  simp only at hc hd hc2 hd2
  subst hc hd hc2 hd2
  have l1 : its.toArray.size = xs.length := by rw [List.size_toArray, ← ru.length, rx.length]
  have l2 : its2.toArray.size = ys.length := by rw [List.size_toArray, ← rw'.length, ry.length]
  refine wpAny_richCompare_same_room (op := .Eq) ⟨_, ho, rfl⟩ ⟨_, ho2, rfl⟩ F.slot_tuple_eq (GQ.call_here F.slot_tuple_eq ⟨_, ho, rfl⟩ F.entry_tuple_eq (F.args_tuple_eq_2 _ _) ?_) hr.u
  refine GE.tuple_eqG (R := wants (fun v s' => v ≠ .notImplemented ∧ (v = .bool r ∧ Aft X pins σ B μ G H s')) X.xe) x y its.toArray its2.toArray n n2 dd dd2 sl sl2 (LpI X pins σ B μ G H f xs ys r) (fun i h1 h2 s' l => ?_) (fun s' l => ?_) ho ho2 ⟨G, H, .refl o, J, h⟩
  · obtain ⟨G1, H1, g1, J1, hp⟩ := l
    refine wpAny_mono (lp_turn eb hf hh hr g1 J1 hp (rx.mono g1.gx) (ry.mono g1.gx) ru rw' h1 h2) (fun v s2 hv => ?_) fun _ _ z => z
    rcases hv with hv | ⟨rfl, rfl, a⟩
    · exact .inl hv
    · exact .inr ⟨rfl, (fun z => nomatch z), rfl, a⟩
  · obtain ⟨G1, H1, g1, J1, hp⟩ := l
    rw [l1, l2] at hp
    have := peqs_end hp
    subst this
    rw [l1, l2]
    exact ⟨(fun z => nomatch z), rfl, G1, H1, g1, J1⟩
theorem rc_lst_eq {t : Nat} {f : PV → PV → Option Bool} (eb : EB X k t f) {A' : Around} {pins : List (Addr × Obj)} {σ : L2.St} {H G : Hp} {B : BX} {μ : Mu} {s : Shared} {x y : Addr} {xs ys : List PV} {r : Bool} (hf : A'.frames = X.A.frames) (hh : A'.handled = X.A.handled) (hr : RmT k (t + 1) A')
    (J : Inv X pins σ H s) (o : Ok X.K B μ G H) (kx : LsK X.K B μ G H x xs) (ky : LsK X.K B μ G H y ys) (h : (match Nat.beq xs.length ys.length with | true => peqs f xs ys | false => some false) = some r) :
    wpAny (model X.prog X.w) A' (richCompare .Eq (.ref x) (.ref y)) (fun v s' => v = .bool r ∧ Aft X pins σ B μ G H s') X.xe s := by
  obtain ⟨vs, sx, rx⟩ := kx G H (.refl o)
  obtain ⟨ws, sy, ry⟩ := ky G H (.refl o)
  obtain ⟨z1, its, n, ru, e1⟩ := J.hok x _ sx
  obtain ⟨z2, its2, n2, rw', e2⟩ := J.hok y _ sy
  have l1 : its.toArray.size = xs.length := by rw [List.size_toArray, ← ru.length, rx.length]
  have l2 : its2.toArray.size = ys.length := by rw [List.size_toArray, ← rw'.length, ry.length]
  refine wpAny_richCompare_same_room (op := .Eq) ⟨_, e1, rfl⟩ ⟨_, e2, rfl⟩ F.slot_list_eq (GQ.call_here F.slot_list_eq ⟨_, e1, rfl⟩ F.entry_list_eq (F.args_list_eq_2 _ _) ?_) hr.u
  cases eb' : Nat.beq xs.length ys.length with
  | false =>
    rw [eb'] at h
    cases h
    exact GE.list_eqD (R := wants (fun v s' => v ≠ .notImplemented ∧ (v = .bool false ∧ Aft X pins σ B μ G H s')) X.xe) x y e1 e2 (by rw [l1, l2]; exact Nat.ne_of_beq_eq_false eb') ⟨(fun z => nomatch z), rfl, G, H, .refl o, J⟩
  | true =>
    rw [eb'] at h
    have el := Nat.eq_of_beq_eq_true eb'
    refine GE.list_eqG (R := wants (fun v s' => v ≠ .notImplemented ∧ (v = .bool r ∧ Aft X pins σ B μ G H s')) X.xe) x y xs.length (LpI X pins σ B μ G H f xs ys r) (fun i s' l => ?_) (fun s' l => ?_) ⟨G, H, .refl o, J, h⟩
    · obtain ⟨G1, H1, g1, J1, hp⟩ := id l
      obtain ⟨vs1, sx1, rx1⟩ := kx G1 H1 g1
      obtain ⟨ws1, sy1, ry1⟩ := ky G1 H1 g1
      obtain ⟨w1, jts, m, qu, f1⟩ := J1.hok x _ sx1
      obtain ⟨w2, jts2, m2, qw, f2⟩ := J1.hok y _ sy1
      refine ⟨jts.toArray, jts2.toArray, m, m2, f1, f2, by rw [List.size_toArray, ← qu.length, rx1.length], by rw [List.size_toArray, ← qw.length, ry1.length, el], fun h1 h2 => ?_⟩
      refine wpAny_mono (lp_turn eb hf hh hr g1 J1 hp rx1 ry1 qu qw h1 h2) (fun v s2 hv => ?_) fun _ _ z => z
      rcases hv with hv | ⟨rfl, rfl, G2, H2, g2, J2⟩
      · exact .inl hv
      · obtain ⟨vs2, sx2, rx2⟩ := kx G2 H2 g2
        obtain ⟨ws2, sy2, ry2⟩ := ky G2 H2 g2
        obtain ⟨w3, kts, m3, qu3, f3⟩ := J2.hok x _ sx2
        obtain ⟨w4, kts2, m4, qw4, f4⟩ := J2.hok y _ sy2
        exact .inr ⟨rfl, ⟨kts.toArray, kts2.toArray, m3, m4, f3, f4, by rw [List.size_toArray, ← qu3.length, rx2.length], by rw [List.size_toArray, ← qw4.length, ry2.length, el]⟩, (fun z => nomatch z), rfl, G2, H2, g2, J2⟩
    · obtain ⟨G1, H1, g1, J1, hp⟩ := l
      rw [List.drop_length, el, List.drop_length] at hp
      cases hp
      exact ⟨(fun z => nomatch z), rfl, G1, H1, g1, J1⟩

theorem rc_tup_ne {t : Nat} {f : PV → PV → Option Bool} (eb : EB X k t f) {A' : Around} {pins : List (Addr × Obj)} {σ : L2.St} {H G : Hp} {B : BX} {μ : Mu} {s : Shared} {x y : Addr} {xs ys : List PV} {vs ws : List V} {r : Bool} (hf : A'.frames = X.A.frames) (hh : A'.handled = X.A.handled) (hr : RmT k (t + 1) A')
    (J : Inv X pins σ H s) (o : Ok X.K B μ G H) (sx : SqT X.K H x vs) (sy : SqT X.K H y ws) (rx : Reps X.K B G xs vs) (ry : Reps X.K B G ys ws) (h : peqs f xs ys = some r) :
    wpAny (model X.prog X.w) A' (richCompare .NotEq (.ref x) (.ref y)) (fun v s' => v = .bool (!r) ∧ Aft X pins σ B μ G H s') X.xe s := by
  obtain ⟨its, ru, e1, z1⟩ := J.tuple sx
  obtain ⟨its2, rw', e2, z2⟩ := J.tuple sy
  obtain ⟨⟨cls, dd, data, sl⟩, ho, hc, n, hd⟩ := id e1
  obtain ⟨⟨cls2, dd2, data2, sl2⟩, ho2, hc2, n2, hd2⟩ := id e2
  simp only at hc hd hc2 hd2
  subst hc hd hc2 hd2
  have l1 : its.toArray.size = xs.length := by rw [List.size_toArray, ← ru.length, rx.length]
  have l2 : its2.toArray.size = ys.length := by rw [List.size_toArray, ← rw'.length, ry.length]
  refine wpAny_richCompare_same_room (op := .NotEq) ⟨_, ho, rfl⟩ ⟨_, ho2, rfl⟩ F.slot_tuple_ne (GQ.call_here F.slot_tuple_ne ⟨_, ho, rfl⟩ F.entry_tuple_ne (F.args_tuple_ne_2 _ _) ?_) hr.u
  refine GE.tuple_neG (R := wants (fun v s' => v ≠ .notImplemented ∧ (v = .bool (!r) ∧ Aft X pins σ B μ G H s')) X.xe) x y its.toArray its2.toArray n n2 dd dd2 sl sl2 (LpI X pins σ B μ G H f xs ys r) (fun i h1 h2 s' l => ?_) (fun s' l => ?_) ho ho2 ⟨G, H, .refl o, J, h⟩
  · obtain ⟨G1, H1, g1, J1, hp⟩ := l
    refine wpAny_mono (lp_turn eb hf hh hr g1 J1 hp (rx.mono g1.gx) (ry.mono g1.gx) ru rw' h1 h2) (fun v s2 hv => ?_) fun _ _ z => z
    rcases hv with hv | ⟨rfl, rfl, a⟩
    · exact .inl hv
    · exact .inr ⟨rfl, (fun z => nomatch z), rfl, a⟩
  · obtain ⟨G1, H1, g1, J1, hp⟩ := l
    rw [l1, l2] at hp
    have := peqs_end hp
    subst this
    rw [l1, l2]
    exact ⟨(fun z => nomatch z), rfl, G1, H1, g1, J1⟩
theorem rc_lst_ne {t : Nat} {f : PV → PV → Option Bool} (eb : EB X k t f) {A' : Around} {pins : List (Addr × Obj)} {σ : L2.St} {H G : Hp} {B : BX} {μ : Mu} {s : Shared} {x y : Addr} {xs ys : List PV} {r : Bool} (hf : A'.frames = X.A.frames) (hh : A'.handled = X.A.handled) (hr : RmT k (t + 1) A')
    (J : Inv X pins σ H s) (o : Ok X.K B μ G H) (kx : LsK X.K B μ G H x xs) (ky : LsK X.K B μ G H y ys) (h : (match Nat.beq xs.length ys.length with | true => peqs f xs ys | false => some false) = some r) :
    wpAny (model X.prog X.w) A' (richCompare .NotEq (.ref x) (.ref y)) (fun v s' => v = .bool (!r) ∧ Aft X pins σ B μ G H s') X.xe s := by
  obtain ⟨vs, sx, rx⟩ := kx G H (.refl o)
  obtain ⟨ws, sy, ry⟩ := ky G H (.refl o)
  obtain ⟨z1, its, n, ru, e1⟩ := J.hok x _ sx
  obtain ⟨z2, its2, n2, rw', e2⟩ := J.hok y _ sy
  have l1 : its.toArray.size = xs.length := by rw [List.size_toArray, ← ru.length, rx.length]
  have l2 : its2.toArray.size = ys.length := by rw [List.size_toArray, ← rw'.length, ry.length]
  refine wpAny_richCompare_same_room (op := .NotEq) ⟨_, e1, rfl⟩ ⟨_, e2, rfl⟩ F.slot_list_ne (GQ.call_here F.slot_list_ne ⟨_, e1, rfl⟩ F.entry_list_ne (F.args_list_ne_2 _ _) ?_) hr.u
  cases eb' : Nat.beq xs.length ys.length with
  | false =>
    rw [eb'] at h
    cases h
    exact GE.list_neD (R := wants (fun v s' => v ≠ .notImplemented ∧ (v = .bool (!false) ∧ Aft X pins σ B μ G H s')) X.xe) x y e1 e2 (by rw [l1, l2]; exact Nat.ne_of_beq_eq_false eb') ⟨(fun z => nomatch z), rfl, G, H, .refl o, J⟩
  | true =>
    rw [eb'] at h
    have el := Nat.eq_of_beq_eq_true eb'
    refine GE.list_neG (R := wants (fun v s' => v ≠ .notImplemented ∧ (v = .bool (!r) ∧ Aft X pins σ B μ G H s')) X.xe) x y xs.length (LpI X pins σ B μ G H f xs ys r) (fun i s' l => ?_) (fun s' l => ?_) ⟨G, H, .refl o, J, h⟩
    · obtain ⟨G1, H1, g1, J1, hp⟩ := id l
      obtain ⟨vs1, sx1, rx1⟩ := kx G1 H1 g1
      obtain ⟨ws1, sy1, ry1⟩ := ky G1 H1 g1
      obtain ⟨w1, jts, m, qu, f1⟩ := J1.hok x _ sx1
      obtain ⟨w2, jts2, m2, qw, f2⟩ := J1.hok y _ sy1
      refine ⟨jts.toArray, jts2.toArray, m, m2, f1, f2, by rw [List.size_toArray, ← qu.length, rx1.length], by rw [List.size_toArray, ← qw.length, ry1.length, el], fun h1 h2 => ?_⟩
      refine wpAny_mono (lp_turn eb hf hh hr g1 J1 hp rx1 ry1 qu qw h1 h2) (fun v s2 hv => ?_) fun _ _ z => z
      rcases hv with hv | ⟨rfl, rfl, G2, H2, g2, J2⟩
      · exact .inl hv
      · obtain ⟨vs2, sx2, rx2⟩ := kx G2 H2 g2
        obtain ⟨ws2, sy2, ry2⟩ := ky G2 H2 g2
        obtain ⟨w3, kts, m3, qu3, f3⟩ := J2.hok x _ sx2
        obtain ⟨w4, kts2, m4, qw4, f4⟩ := J2.hok y _ sy2
        exact .inr ⟨rfl, ⟨kts.toArray, kts2.toArray, m3, m4, f3, f4, by rw [List.size_toArray, ← qu3.length, rx2.length], by rw [List.size_toArray, ← qw4.length, ry2.length, el]⟩, (fun z => nomatch z), rfl, G2, H2, g2, J2⟩
    · obtain ⟨G1, H1, g1, J1, hp⟩ := l
      rw [List.drop_length, el, List.drop_length] at hp
      cases hp
      exact ⟨(fun z => nomatch z), rfl, G1, H1, g1, J1⟩

theorem lsk_lst {K : Frg} {B : BX} {μ : Mu} {G H : Hp} {x : Addr} {xs : List PV} {vs : List V} (h : G x = some (.lst vs)) (r : Reps K B G xs vs) : LsK K B μ G H x xs := fun G' H' g => ⟨vs, g.ok.sub _ _ (g.gx _ _ h), r.mono g.gx⟩
theorem lsk_cell {K : Frg} {B : BX} {μ : Mu} {G H : Hp} {x : Addr} {xs : List PV} (h : μ x = some (.lst xs)) : LsK K B μ G H x xs := fun G' H' g => by
  obtain ⟨_, _, u, e, vs, rfl, rs⟩ := g.ok.cell x _ h
  exact ⟨vs, e, rs⟩
theorem eb_deq (q : QOk X k Q) : ∀ t, EB X k t (deq Q t) := by
  have flat : ∀ {t : Nat} {A' : Around} {pins : List (Addr × Obj)} {σ : L2.St} {H G : Hp} {B : BX} {μ : Mu} {s : Shared} {a b : PV} {va vb : V} {u w : Value} {r : Bool}, Inv X pins σ H s → Ok X.K B μ G H → Rep X.K B G a va → Rep X.K B G b vb → RelV va u → RelV vb w → eqS a b = some r → wpAny (model X.prog X.w) A' (eqBool u w) (fun v s' => v = r ∧ Aft X pins σ B μ G H s') X.xe s := fun {t A' pins σ H G B μ s a b va vb u w r} J o ra rb ru rw' h => by
    obtain ⟨f1, f2, e⟩ := eqS_flat h ra rb
    have := eqAt_V (A := A') (s := s) ru rw' f1 f2
    rw [e] at this
    exact this X.prog X.w X.xe _ ⟨rfl, G, H, .refl o, J⟩
  have ob : ∀ {t : Nat} {A' : Around} {pins : List (Addr × Obj)} {σ : L2.St} {H G : Hp} {B : BX} {μ : Mu} {s : Shared} {c : Cl} {xs : List PV} {b : PV} {va vb : V} {u w : Value} {r : Bool}, A'.frames = X.A.frames → A'.handled = X.A.handled → RmT k t A' → Inv X pins σ H s → Ok X.K B μ G H → Rep X.K B G (.obj c xs) va → Rep X.K B G b vb → RelV va u → RelV vb w → deqO Q c xs b = some r → wpAny (model X.prog X.w) A' (eqBool u w) (fun v s' => v = r ∧ Aft X pins σ B μ G H s') X.xe s := fun {t A' pins σ H G B μ s c xs b va vb u w r} hf hh hr J o ra rb ru rw' h => by
    have rc := rc_obj q hf hh hr J o ra rb ru rw' h
    obtain ⟨x, dx, vs, ev, _⟩ := ra.obj_inv
    have ru' := ru
    rw [ev] at ru' ra
    obtain rfl : u = Value.ref x := ru'
    have hs : Same (deq Q 0) := same_deq (fun c f hm => (q.ok c f hm).1) 0
    have asref : ∀ {y : Addr}, vb = .ref y → wpAny (model X.prog X.w) A' (eqBool (.ref x) w) (fun v s' => v = r ∧ Aft X pins σ B μ G H s') X.xe s := fun {y} e => by
      rw [e] at rw' rb
      obtain rfl : w = Value.ref y := rw'
      exact eb_rc (t := 0) q.ka hs J o ra rb h rc
    have asval : (∀ y, w ≠ .ref y) → wpAny (model X.prog X.w) A' (eqBool (.ref x) w) (fun v s' => v = r ∧ Aft X pins σ B μ G H s') X.xe s := fun hw => eb_ref hw (wpAny_mono rc (fun v s' hv => ⟨r, hv.1, rfl, hv.2⟩) fun _ _ z => z)
    cases b with
    | obj d ys => obtain ⟨y, _, _, e, _⟩ := rb.obj_inv; exact asref e
    | tup ys => obtain ⟨y, _, e, _⟩ := rb.tup_inv; exact asref e
    | lst ys => obtain ⟨y, _, e, _⟩ := rb.lst_inv; exact asref e
    | int i => rw [rb.int_inv] at rw'; obtain ⟨_, rfl⟩ := rw'; exact asval fun _ z => nomatch z
    | str i => rw [rb.str_inv] at rw'; obtain ⟨_, rfl⟩ := rw'; exact asval fun _ z => nomatch z
    | bl i => rw [rb.bl_inv] at rw'; cases rw'; exact asval fun _ z => nomatch z
    | non => rw [rb.non_inv] at rw'; cases rw'; exact asval fun _ z => nomatch z
    | _ => cases h
  intro t
  induction t with
  | zero =>
    intro A' pins σ H G B μ s a b va vb u w r hf hh hr J o ra rb ru rw' h
    cases a with
    | obj c xs => exact ob hf hh hr J o ra rb ru rw' h
    | _ => exact flat (t := 0) J o ra rb ru rw' h
  | succ t ih =>
    intro A' pins σ H G B μ s a b va vb u w r hf hh hr J o ra rb ru rw' h
    have hs : Same (deq Q (t + 1)) := same_deq (fun c f hm => (q.ok c f hm).1) (t + 1)
    cases a with
    | obj c xs => exact ob hf hh hr J o ra rb ru rw' h
    | tup xs =>
      cases b with
      | tup ys =>
        obtain ⟨x, vs, rfl, sx, rx⟩ := ra.tup_inv
        obtain ⟨y, ws, rfl, sy, ry⟩ := rb.tup_inv
        obtain rfl : u = Value.ref x := ru
        obtain rfl : w = Value.ref y := rw'
        exact eb_rc (t := t) q.ka hs J o ra rb h (rc_tup_eq ih hf hh hr J o (o.sub.t sx) (o.sub.t sy) rx ry h)
      | _ => exact flat (t := 0) J o ra rb ru rw' h
    | lst xs =>
      cases b with
      | lst ys =>
        obtain ⟨x, vs, rfl, sx, rx⟩ := ra.lst_inv
        obtain ⟨y, ws, rfl, sy, ry⟩ := rb.lst_inv
        obtain rfl : u = Value.ref x := ru
        obtain rfl : w = Value.ref y := rw'
        exact eb_rc (t := t) q.ka hs J o ra rb h (rc_lst_eq ih hf hh hr J o (lsk_lst sx rx) (lsk_lst sy ry) h)
      | _ => exact flat (t := 0) J o ra rb ru rw' h
    | _ => exact flat (t := 0) J o ra rb ru rw' h
/-- a == b, a != b as readings: tuples and lists at most ten deep -/
def deqT (Q : Qt) (neg : Bool) (μ : Mu) (a b : PV) : Option Bool := match a with
  | .obj c xs => (match neg with
    | true => none
    | false => deqO Q c xs b)
  | a => (match deq Q 10 (rdL μ a) (rdL μ b) with
    | some r => some (sgn neg r)
    | none => none)
/-- .. not looked into -/
@[irreducible] def deqL (Q : Qt) (neg : Bool) (μ : Mu) (a b : PV) : Option Bool := deqT Q neg μ a b
theorem deqL_eq (Q : Qt) (neg : Bool) (μ : Mu) (a b : PV) : deqL Q neg μ a b = deqT Q neg μ a b := by unfold deqL; rfl
def eqQ (Q : Qt) (neg : Bool) : FO := fun a b μ q _ => match eqS a b with
  | some k => q (.bl (sgn neg k)) μ
  | none => (match deqL Q neg μ a b with
    | some r => q (.bl r) μ
    | none => False)
theorem deqT_flat {Q : Qt} {neg : Bool} {μ : Mu} {a b : PV} {k : Bool} (h : eqS a b = some k) : deqT Q neg μ a b = some (sgn neg k) := by
  cases a <;> cases b <;> first | (cases h; done) | (cases h; rfl)
theorem eqQ_inv {Q : Qt} {neg : Bool} {a b : PV} {μ : Mu} {q : QV} {x : QX} (h : eqQ Q neg a b μ q x) : ∃ r, deqT Q neg μ a b = some r ∧ q (.bl r) μ := by
  unfold eqQ at h
  cases e0 : eqS a b with
  | some k => simp only [e0] at h; exact ⟨_, deqT_flat e0, h⟩
  | none =>
    simp only [e0, deqL_eq] at h
    cases e : deqT Q neg μ a b with
    | none => simp only [e] at h
    | some r => simp only [e] at h; exact ⟨r, rfl, h⟩
/-- a list or its cell -/
theorem rdL_lst {K : Frg} {B : BX} {μ : Mu} {G H : Hp} {p : PV} {v : V} {xs : List PV} (r : Rep K B G p v) (h : rdL μ p = .lst xs) : ∃ x, v = .ref x ∧ LsK K B μ G H x xs := by
  unfold rdL at h
  split at h
  · rename_i a
    split at h
    · rename_i ys e
      cases h
      exact ⟨a, r.cell_inv, lsk_cell e⟩
    · cases h
  · rw [h] at r
    obtain ⟨x, vs, rfl, e, rs⟩ := r.lst_inv
    exact ⟨x, rfl, lsk_lst e rs⟩
theorem rdL_other {μ : Mu} {p : PV} (h : ∀ xs, rdL μ p ≠ .lst xs) : rdL μ p = p := by
  unfold rdL at h ⊢
  split
  · rename_i a
    split
    · rename_i ys e
      simp only [e] at h
      exact absurd rfl (h ys)
    · rfl
  · rfl
theorem deqT_some {Q : Qt} {neg : Bool} {μ : Mu} {a b : PV} {k : Bool} (h : deqT Q neg μ a b = some k) (ho : ∀ c xs, a ≠ .obj c xs) : ∃ r, deq Q 10 (rdL μ a) (rdL μ b) = some r ∧ sgn neg r = k := by
  have h : (match deq Q 10 (rdL μ a) (rdL μ b) with | some r => some (sgn neg r) | none => none) = some k := by
    cases a <;> first | exact h | exact absurd rfl (ho _ _)
  cases e : deq Q 10 (rdL μ a) (rdL μ b) with
  | none => rw [e] at h; cases h
  | some r => rw [e] at h; exact ⟨r, rfl, Option.some.inj h⟩
theorem deqT_of {Q : Qt} {μ : Mu} {a b : PV} {k : Bool} (h : deq Q 10 a b = some k) : deqT Q false μ a b = some k := by
  have nc : ∀ {p : PV}, (∀ z, p ≠ .cell z) → rdL μ p = p := fun {p} hp => by
    cases p <;> first | rfl | exact absurd rfl (hp _)
  have hb : (∀ c xs, a ≠ .obj c xs) → ∀ z, b ≠ .cell z := fun ho z e => by
    subst e
    cases a <;> first | cases h | exact absurd rfl (ho _ _)
  have ha : ∀ z, a ≠ .cell z := fun z e => by
    subst e
    cases b <;> cases h
  by_cases ho : ∃ c xs, a = .obj c xs
  · obtain ⟨c, xs, rfl⟩ := ho
    exact h
  · have e : deqT Q false μ a b = (match deq Q 10 (rdL μ a) (rdL μ b) with | some r => some (sgn false r) | none => none) := by
      cases a <;> first | rfl | exact absurd ⟨_, _, rfl⟩ ho
    rw [e, nc ha, nc (hb fun c xs z => ho ⟨c, xs, z⟩), h] <;> rfl
theorem deqL_of {Q : Qt} {μ : Mu} {a b : PV} {k : Bool} (h : deq Q 10 a b = some k) : deqL Q false μ a b = some k := (deqL_eq _ _ _ _ _).trans (deqT_of h)
theorem deqL_ne {Q : Qt} {μ : Mu} {a b : PV} {k : Bool} (h : deqT Q true μ a b = some k) : deqL Q true μ a b = some k := (deqL_eq _ _ _ _ _).trans h
theorem oj_eqQ {W : WX} (q : QOk X k Q) (hr : L2H.RoomH (k + 1) X.A) : OpJ X W (compareOp .Eq) (eqQ Q false) := by
  intro pins s σ H B ρ μ G a b va vb u w qq x Qv J R ra rb ru rw' h gv gx
  have o := R.ok
  have rm : RmT k (10 + 1) X.A := ⟨(RmT.of hr).dp, by have := (RmT.of hr).un; omega⟩
  have fin : ∀ {r : Bool}, qq (.bl r) μ → wpAny (model X.prog X.w) X.A (richCompare .Eq u w) (fun v s' => v = .bool r ∧ Aft X pins σ B μ G H s') X.xe s → wpAny (model X.prog X.w) X.A (compareOp .Eq u w) (EP X pins σ Qv) X.xe s := fun {r} hq hw =>
    wpAny_mono (show wpAny (model X.prog X.w) X.A (compareOp .Eq u w) _ X.xe s from hw) (fun v s' ⟨e, G', H', g, J'⟩ => by subst e; exact ⟨.bl r, H', J', rfl, gv _ _ _ _ _ hq g (rep_bl r)⟩) fun _ _ z => z
  have flat : ∀ {r : Bool}, eqS a b = some r → qq (.bl r) μ → wpAny (model X.prog X.w) X.A (compareOp .Eq u w) (EP X pins σ Qv) X.xe s := fun {r} he hq =>
    oj_eqS pins s σ H B ρ μ G a b va vb u w qq x Qv J R ra rb ru rw' (by show (match eqS a b with | some k => qq (.bl (sgn false k)) μ | none => False); rw [he]; exact hq) gv gx
  obtain ⟨r0, hT, hQ⟩ := eqQ_inv h
  clear h
  have rest : (match deq Q 10 (rdL μ a) (rdL μ b) with | some r => qq (.bl (sgn false r)) μ | none => False) → (∀ c xs, a ≠ .obj c xs) → wpAny (model X.prog X.w) X.A (compareOp .Eq u w) (EP X pins σ Qv) X.xe s := fun h0 hno => by
    clear hQ hT
    cases e : deq Q 10 (rdL μ a) (rdL μ b) with
    | none => simp only [e] at h0
    | some r =>
      simp only [e] at h0
      by_cases ha : ∃ xs, rdL μ a = .lst xs
      · by_cases hb : ∃ ys, rdL μ b = .lst ys
        · obtain ⟨xs, ea⟩ := ha
          obtain ⟨ys, eb⟩ := hb
          obtain ⟨x, rfl, kx⟩ := rdL_lst (H := H) ra ea
          obtain ⟨y, rfl, ky⟩ := rdL_lst (H := H) rb eb
          obtain rfl : u = Value.ref x := ru
          obtain rfl : w = Value.ref y := rw'
          rw [ea, eb] at e
          exact fin h0 (rc_lst_eq (eb_deq q 9) rfl rfl ⟨rm.dp, by have := rm.un; omega⟩ J o kx ky e)
        · obtain ⟨xs, ea⟩ := ha
          rw [ea] at e
          cases eb : rdL μ b <;> rw [eb] at e <;> first | cases e | exact absurd ⟨_, eb⟩ hb
      · have ea := rdL_other fun xs z => ha ⟨xs, z⟩
        rw [ea] at e
        cases a with
        | obj c xs => exact absurd rfl (hno c xs)
        | lst xs => exact absurd ⟨xs, rfl⟩ ha
        | tup xs =>
          by_cases hb : ∃ ys, rdL μ b = .lst ys
          · obtain ⟨ys, eb⟩ := hb
            rw [eb] at e
            cases e
          · have eb := rdL_other fun xs z => hb ⟨xs, z⟩
            rw [eb] at e
            cases b with
            | tup ys =>
              obtain ⟨x, vs, rfl, sx, rx⟩ := ra.tup_inv
              obtain ⟨y, ws, rfl, sy, ry⟩ := rb.tup_inv
              obtain rfl : u = Value.ref x := ru
              obtain rfl : w = Value.ref y := rw'
              exact fin h0 (rc_tup_eq (eb_deq q 9) rfl rfl ⟨rm.dp, by have := rm.un; omega⟩ J o (o.sub.t sx) (o.sub.t sy) rx ry e)
            | _ => cases e
        | _ =>
          have e2 : eqS _ (rdL μ b) = some r := e
          have eb : rdL μ b = b := rdL_other fun ys z => by rw [z] at e2; cases e2
          rw [eb] at e2
          exact flat e2 h0
  cases a with
  | obj c xs => exact fin hQ (rc_obj q rfl rfl rm J o ra rb ru rw' hT)
  | _ =>
    refine rest ?_ (fun _ _ z => nomatch z)
    obtain ⟨r, e, er⟩ := deqT_some hT (fun _ _ z => nomatch z)
    rw [e]
    rw [← er] at hQ
    exact hQ
theorem oj_neQ {W : WX} (q : QOk X k Q) (hr : L2H.RoomH (k + 1) X.A) : OpJ X W (compareOp .NotEq) (eqQ Q true) := by
  intro pins s σ H B ρ μ G a b va vb u w qq x Qv J R ra rb ru rw' h gv gx
  have o := R.ok
  have rm : RmT k (10 + 1) X.A := ⟨(RmT.of hr).dp, by have := (RmT.of hr).un; omega⟩
  have fin : ∀ {r : Bool}, qq (.bl (!r)) μ → wpAny (model X.prog X.w) X.A (richCompare .NotEq u w) (fun v s' => v = .bool (!r) ∧ Aft X pins σ B μ G H s') X.xe s → wpAny (model X.prog X.w) X.A (compareOp .NotEq u w) (EP X pins σ Qv) X.xe s := fun {r} hq hw =>
    wpAny_mono (show wpAny (model X.prog X.w) X.A (compareOp .NotEq u w) _ X.xe s from hw) (fun v s' ⟨e, G', H', g, J'⟩ => by subst e; exact ⟨.bl (!r), H', J', rfl, gv _ _ _ _ _ hq g (rep_bl _)⟩) fun _ _ z => z
  have flat : ∀ {r : Bool}, eqS a b = some r → qq (.bl (!r)) μ → wpAny (model X.prog X.w) X.A (compareOp .NotEq u w) (EP X pins σ Qv) X.xe s := fun {r} he hq =>
    oj_neS pins s σ H B ρ μ G a b va vb u w qq x Qv J R ra rb ru rw' (by show (match eqS a b with | some k => qq (.bl (sgn true k)) μ | none => False); rw [he]; exact hq) gv gx
  obtain ⟨r0, hT, hQ⟩ := eqQ_inv h
  clear h
  have rest : (match deq Q 10 (rdL μ a) (rdL μ b) with | some r => qq (.bl (sgn true r)) μ | none => False) → (∀ c xs, a ≠ .obj c xs) → wpAny (model X.prog X.w) X.A (compareOp .NotEq u w) (EP X pins σ Qv) X.xe s := fun h0 hno => by
    clear hQ hT
    cases e : deq Q 10 (rdL μ a) (rdL μ b) with
    | none => simp only [e] at h0
    | some r =>
      simp only [e] at h0
      by_cases ha : ∃ xs, rdL μ a = .lst xs
      · by_cases hb : ∃ ys, rdL μ b = .lst ys
        · obtain ⟨xs, ea⟩ := ha
          obtain ⟨ys, eb⟩ := hb
          obtain ⟨x, rfl, kx⟩ := rdL_lst (H := H) ra ea
          obtain ⟨y, rfl, ky⟩ := rdL_lst (H := H) rb eb
          obtain rfl : u = Value.ref x := ru
          obtain rfl : w = Value.ref y := rw'
          rw [ea, eb] at e
          exact fin h0 (rc_lst_ne (eb_deq q 9) rfl rfl ⟨rm.dp, by have := rm.un; omega⟩ J o kx ky e)
        · obtain ⟨xs, ea⟩ := ha
          rw [ea] at e
          cases eb : rdL μ b <;> rw [eb] at e <;> first | cases e | exact absurd ⟨_, eb⟩ hb
      · have ea := rdL_other fun xs z => ha ⟨xs, z⟩
        rw [ea] at e
        cases a with
        | obj c xs => exact absurd rfl (hno c xs)
        | lst xs => exact absurd ⟨xs, rfl⟩ ha
        | tup xs =>
          by_cases hb : ∃ ys, rdL μ b = .lst ys
          · obtain ⟨ys, eb⟩ := hb
            rw [eb] at e
            cases e
          · have eb := rdL_other fun xs z => hb ⟨xs, z⟩
            rw [eb] at e
            cases b with
            | tup ys =>
              obtain ⟨x, vs, rfl, sx, rx⟩ := ra.tup_inv
              obtain ⟨y, ws, rfl, sy, ry⟩ := rb.tup_inv
              obtain rfl : u = Value.ref x := ru
              obtain rfl : w = Value.ref y := rw'
              exact fin h0 (rc_tup_ne (eb_deq q 9) rfl rfl ⟨rm.dp, by have := rm.un; omega⟩ J o (o.sub.t sx) (o.sub.t sy) rx ry e)
            | _ => cases e
        | _ =>
          have e2 : eqS _ (rdL μ b) = some r := e
          have eb : rdL μ b = b := rdL_other fun ys z => by rw [z] at e2; cases e2
          rw [eb] at e2
          exact flat e2 h0
  cases a with
  | obj c xs => cases hT
  | _ =>
    refine rest ?_ (fun _ _ z => nomatch z)
    obtain ⟨r, e, er⟩ := deqT_some hT (fun _ _ z => nomatch z)
    rw [e]
    rw [← er] at hQ
    exact hQ
end
end Px

namespace Px
open PySem PySem.Spec PyProof.Rows L2
/-! ## properties -/
def prB (K : Frg) (c : Cl) (f : Str) : Bool :=
  (match PySem.W.findIn K (.ref (ca K c)) f with
    | some (some (.ref _)) => true
    | _ => false) && ((match PySem.W.specialIn K (.ref (He.ma K (ca K c) f)) "__get__" with
    | some (some (.builtin g)) => decide (g = "property.__get__")
    | _ => false) && ((match PySem.W.takesIn K (.ref (He.ma K (ca K c) f)) with
    | some true => true
    | _ => false) && (match PySem.W.recIn K (He.ma K (ca K c) f) "property" with
    | some (.ref _ :: _) => true
    | _ => false)))
theorem prB_ok {K : Frg} {c : Cl} {f : Str} (h : prB K c f = true) : PropOf K (ca K c) f (He.ma K (ca K c) f) (prFn K (ca K c) f) := by
  obtain ⟨h1, h⟩ := He.ba h
  obtain ⟨h2, h⟩ := He.ba h
  obtain ⟨h3, h4⟩ := He.ba h
  refine ⟨?_, ?_, ?_, ?_⟩
  · unfold He.ma
    split at h1
    · rename_i a e
      rw [e]
    · cases h1
  · split at h2
    · rename_i g e
      rw [e, of_decide_eq_true h2]
    · cases h2
  · split at h3
    · assumption
    · cases h3
  · unfold prFn He5.wf
    split at h4
    · rename_i f r e
      exact ⟨r, by rw [e]⟩
    · cases h4
def dProp (tab : Cl → Option Ct) (d : DE) : DE := fun ρ μ q x => d ρ μ (fun p μ1 => match rcv μ1 p with
  | some c => (match tab c with
    | some ct => ct [p] μ1 q noX
    | none => False)
  | none => False) x
/-- the classes whose m is a property of that promise -/
def PTab (X : Cx) (k : Nat) (m : Str) (tab : Cl → Option Ct) : Prop := ∀ c ct, tab c = some ct → m ∉ c.flds ∧ Cls X.K (ca X.K c) ∧ ∃ p g, PropOf X.K (ca X.K c) m p g ∧ FnS false X.prog X.w X.K X.mg X.base k g [] (spP X.K ct)
section
variable {X : Cx} {W : WX} {k : Nat} {m : Str} {pos : Pos} {o : Expr} {d : DE}
theorem e_prop {tab : Cl → Option Ct} (T : PTab X k m tab) (cm : X.calm = true) (hr : L2H.RoomH (k + 1) X.A) (tk : L2N.Takes X W) (ho : EJ X W o d) (hab : attributeBase o m X.env (eval o X.env) = eval o X.env) : EJ X W (.Attribute o m pos) (dProp tab d) := by
  refine ⟨fun pins s σ H Q J ⟨B, ρ, μ, G, q, z, R, h, gv, gx⟩ => ?_⟩
  refine attr_of hab (thn (ho.run pins s σ H (fun v H1 => ∃ μ1 G1 p c ct, Go X.K B μ G H μ1 G1 H1 ∧ Rep X.K B G1 p v ∧ rcv μ1 p = some c ∧ tab c = some ct ∧ ct [p] μ1 q noX) J ⟨B, ρ, μ, G, _, z, R, h, fun p v μ1 G1 H1 h0 g1 r1 => by
      obtain ⟨c, ct, e1, e2, h1⟩ := dMeth_inv (ρ := ρ) (q := q) (x := z) (A := fun c ct => ct [p] μ1 q noX) h0
      exact ⟨μ1, G1, p, c, ct, g1, r1, e1, e2, h1⟩, gx⟩)
    fun u s1 ⟨v, H1, J1, rv, μ1, G1, p, c, ct, g1, r1, e1, e2, h1⟩ => ?_)
  obtain ⟨hmf, hcl, pa, g, hp, Fn⟩ := T c ct e2
  obtain ⟨a, dx, ws, rfl, ea, hlk⟩ := rcv_ok g1.ok r1 e1 hmf
  obtain rfl : u = Value.ref a := rv
  obtain ⟨mA, O, _, _, _, _⟩ := ins_get J1.hok ea
  obtain ⟨od, Jl, _⟩ := O.look
  obtain ⟨rest, hrec⟩ := hp.rec_
  have I1 := J1.tok (s1.toks + 1)
  have hc : (PySem.W.clsIn X.K (ca X.K c)).isSome = true := by
    obtain ⟨cd, hc, _⟩ := PySem.W.any_some hcl.hd
    rw [hc]
    rfl
  have hq2 : spP X.K ct [.ref a] H1 Q fun _ _ _ => False := ⟨B, μ1, G1, [p], q, noX, (R.go g1).ok, .cons r1 .nil, h1, gv.go g1, fun xv d μ' G' H' hp _ _ => hp.elim⟩
  refine PySem.W.get_bind J1.kIn Jl (PySem.W.plainGet_of (hcl.get m)).1 (PySem.W.findObj_data hc hp.at_ hp.get hp.tak) (PySem.W.plainGet_of (hcl.get m)).2 (wpAny_call (PySem.W.prop_get (s := { s1 with toks := s1.toks + 1 }) J1.kIn hrec ?_))
  refine codeAny_mono (Fn X.A.in1 X.stack { s1 with toks := s1.toks + 1 } H1 [.ref a] [] [.ref a] Q _ (.inl (I1.ok.hd cm)) ⟨by have := hr.dp; show X.A.depth + 3 * k + 5 < _; omega, by have := hr.un; show X.A.units + 1 + 16 * k + 200 < _; omega⟩ I1.env0.in1 rfl (.cons rfl .nil) hq2) fun r s' hq => ?_
  cases r with
  | error er =>
    obtain ⟨_, _, _, _, _, _, _, _, _, _, _, _, hE⟩ := hq
    exact hE.elim
  | ok fl =>
    cases fl with
    | ret u =>
      obtain ⟨v, H', I3, rv, q3⟩ := I1.after hq
      show wpAny _ _ (handedOut u) _ _ _
      rw [PySem.W.handedOut_of (handed_of rv)]
      exact wpAny_pure ⟨v, H', I3, rv, q3⟩
    | next => exact False.elim hq
    | brk => exact False.elim hq
    | cont => exact False.elim hq
end
end Px

namespace Px
open PySem PySem.Spec PySem.Calls PyProof.Rows PySem.W
/-! ## isinstance of a handled error that has a dict -/
section
variable {prog : Program} {w : World} {A : Around} {E : Value → Shared → Prop} {s : Shared} {K : Frag} {x D : PySem.Addr} {ox od : Obj}
theorem cls_dict {Q : Option Value → Shared → Prop} (C : L2.ExcC K D) (X : K.In s.heap) (I : InstAt s.heap x ox D (some od)) (h : Q (some (.ref D)) { s with toks := s.toks + 1 }) : wpAny (model prog w) A (getAttr? (.ref x) "__class__") Q E s := by
  have hf : findObj K D (some od) "__class__" = some (.bind (.builtin "getset_descriptor.__get__") (.builtin "object.__class__")) := by
    refine findObj_data ?_ C.ha C.hn C.ht
    obtain ⟨cd, hc, _⟩ := any_some C.hd; rw [hc]; rfl
  obtain ⟨hp, g, d, t, os⟩ := s
  have L0 := I.type (M := model prog w); have L1 := looks_findIn (M := model prog w) X C.hg
  have L2 := looks_findIn (M := model prog w) X C.hk; have L3 := looks_find (M := model prog w) X I hf
  have sub : Looks (model prog w) hp (isInstance (.ref x) (.type "BaseException")) true := L0.andThen (looks_subIn X C.hs)
  have y0 : (false && onTheHeap (Value.builtin "BaseException.__getattribute__")) = false := rfl
  have y2 : (Value.builtin "BaseException.__getattribute__" == Value.builtin "object.__getattribute__") = false := by decide +kernel
  have y1 : (onTheHeap (Value.ref D) && Value.builtin "BaseException.__getattribute__" == Value.builtin "object.__getattribute__") = false := by rw [y2]; rfl
  unfold getAttr? getAttrBy? getAttrBy; refine wpAny_bind (wpAny_mkText (wpAny_bind (wpAny_attempt (wpAny_holding (wpAny_bind (L0.at (wpAny_bind (L1.at ?_))))))))
  show wpAny _ _ (if (onTheHeap (Value.ref D) && Value.builtin "BaseException.__getattribute__" == Value.builtin "object.__getattribute__") = true then _ else _) _ _ _; rw [y1, if_neg Bool.false_ne_true]
  unfold getAttrByItsOwn hookBefore; refine wpAny_bind ?_; rw [if_pos (show onTheHeap (Value.ref D) = true from rfl)]
  refine L2.at ?_; refine wpAny_bind (wpAny_attempt (wpAny_holding ?_))
  unfold callGetattribute; rw [y0, if_neg Bool.false_ne_true]
  unfold boundAndCalled; rw [PySem.F.excAttr_ValueError.ga.bind (.ref x)]
  refine wpAny_bind (wpAny_pure ?_); show wpAny _ _ (call (.builtin "BaseException.__getattribute__") [.ref x, .str "__class__" t]) _ _ _
  refine wpAny_call (codeAny_call_builtin PySem.F.excAttr_ValueError.ga.plain PySem.F.entry_bexc_ga (@check_slot (model prog w) _ _ ⟨hp, g, d, t + 1, os⟩ "BaseException.__getattribute__" "BaseException" "__getattribute__" (.ref x) [.str "__class__" t] [] _ (by decide +kernel) (by decide +kernel) sub (PySem.F.args_bexc_ga (.ref x) (.str "__class__" t)) ?_))
  unfold Builtin.«object.__getattribute__»; refine wpAny_bind (wpAny_of_eq (a := ((Value.ref x : Value), [Value.str "__class__" t])) (by first | rfl | (simp only [slotArgs]; rfl)) (wpAny_bind (wpAny_pure (wpAny_bind (L0.at (wpAny_bind (L3.at ?_)))))))
  show wpAny _ _ (holding [Value.builtin "object.__class__"] (call (.builtin "getset_descriptor.__get__") [.builtin "object.__class__", .ref x, .ref D]) >>= ret) _ _ _; refine wpAny_bind (wpAny_holding (wpAny_call (class_get (s := ⟨hp, g, d, t + 1, os⟩) (ox := ox) (od := some od) X I C.hm (wpAny_pure ?_))))
  show wpAny _ _ (handedOut (.ref D)) _ _ _; rw [handedOut_of (v := .ref D) rfl]
  first | exact wpAny_pure (wpAny_pure h) | exact wpAny_pure h | exact wpAny_pure (wpAny_bind (wpAny_pure (wpAny_pure h)))
theorem kitx_dict (C : L2.ExcC K D) : KitX K (.ref x) (.ref D) (fun h => InstAt h x ox D (some od)) := by
  obtain ⟨cd, hc, _⟩ := any_some C.hd
  have ho : ∃ c' d' sl', K.lookup D = some ⟨c', d', .cls cd, sl'⟩ := by
    unfold clsIn at hc; split at hc
    · rename_i c' d' cd' sl' ho; cases hc; exact ⟨c', d', sl', ho⟩
    · cases hc
  obtain ⟨c', d', sl', ho⟩ := ho
  refine ⟨fun _ _ _ I => I.type, fun M h X _ => ?_, fun h tp dd its n sl X htp => ?_, fun X I k => cls_dict C X I k⟩
  · intro A' Q' E' s' k q; unfold isType loadHead; exact wpAny_bind (wpAny_loadPart (k _ _ (X _ _ ho)) (wpAny_pure q))
  · refine Bool.eq_false_iff.mpr fun q => ?_; obtain rfl : D = tp := Value.ref.inj (beq_iff_eq.mp q)
    have z := (X _ _ ho).symm.trans htp; cases z
end
/-- isinstance(e, c): e the handled error, its dict at dd -/
def rIsD (K : Frag) (D a dd : PySem.Addr) : List L2.V → L2.Hp → L2.VK → Prop := fun xs H Q => ∃ (c : L2.V) (cv : Value) (b : Bool) (m : List (Str × L2.V)), xs = [.ref a, c] ∧ (∀ u, L2.RelV c u → u = cv) ∧ kitOne K (.ref D) cv = some b ∧ H dd = some (.xd m) ∧ Q (.bl b) H
theorem call_isD {X : L2.Cx} {a D dd : PySem.Addr} {oe : Obj} {pn : List (PySem.Addr × Obj)} (C : L2.ExcC X.K D) (hz : L2.Zc (.ref D) (some dd) oe) (hf : ∃ vs, oe.data = .fields vs) : L2.CallR (X.suite a ((a, oe) :: pn)) (.builtin "isinstance") (rIsD X.K D a dd) := by
  intro pins s σ H xs us Q I r h
  obtain ⟨c, cv, b, m, rfl, hcv, e, ea, q⟩ := h
  cases r with | cons rx rr => ?_
  cases rr with | cons rt rr => ?_
  cases rr; cases rx
  obtain rfl := hcv _ rt
  obtain ⟨ha, _⟩ := I.pin (a, oe) (List.mem_append_left _ List.mem_cons_self); obtain ⟨vs, hv⟩ := hf
  have hx : L2.ObjOk X.prog X.w H s.heap dd (.xd m) := I.hok dd _ ea
  obtain ⟨mA, hns, _⟩ := hx; obtain ⟨od, ho, _⟩ := L2.lookIn_ns hns
  have J : InstAt s.heap a oe D (some od) := ⟨ha, hz.1, by unfold notCls; rw [hv] <;> rfl, by rw [hz.2]; exact ho⟩
  exact kia_one (kitx_dict C) I.kIn J e (fun z => nomatch z) fun tk => ⟨.bl b, H, I.kept (t' := tk) fun _ _ z => z, rfl, q⟩
/-- the class's facts, checked -/
def excB (K : Frag) (D : PySem.Addr) : Bool :=
  isB (findIn K (.ref D) "__getattribute__") "BaseException.__getattribute__" && (isN (findIn K (.ref D) "__getattr__") && (isT (subIn K (.ref D) (.type "BaseException")) && (hasDictIn K D && (isB (findIn K (.ref D) "__class__") "object.__class__" && (isB (specialIn K (.builtin "object.__class__") "__get__") "getset_descriptor.__get__" && (isT (takesIn K (.builtin "object.__class__")) && isT (mroIn K D (.type "object"))))))))
where
  isB (r : Option (Option Value)) (n : String) : Bool := match r with
    | some (some (.builtin g)) => decide (g = n)
    | _ => false
  isN (r : Option (Option Value)) : Bool := match r with
    | some none => true
    | _ => false
  isT (r : Option Bool) : Bool := match r with
    | some true => true
    | _ => false
theorem excB_ok {K : Frag} {D : PySem.Addr} (h : excB K D = true) : L2.ExcC K D := by
  have b1 : ∀ {r n}, excB.isB r n = true → r = some (some (.builtin n)) := fun {r n} h => by
    unfold excB.isB at h; split at h
    · rw [of_decide_eq_true h]
    · cases h
  have b2 : ∀ {r}, excB.isN r = true → r = some none := fun {r} h => by
    unfold excB.isN at h; split at h
    · rfl
    · cases h
  have b3 : ∀ {r}, excB.isT r = true → r = some true := fun {r} h => by
    unfold excB.isT at h; split at h
    · rfl
    · cases h
  obtain ⟨h1, h⟩ := Bool.and_eq_true_iff.mp h
  obtain ⟨h2, h⟩ := Bool.and_eq_true_iff.mp h
  obtain ⟨h3, h⟩ := Bool.and_eq_true_iff.mp h
  obtain ⟨h4, h⟩ := Bool.and_eq_true_iff.mp h
  obtain ⟨h5, h⟩ := Bool.and_eq_true_iff.mp h
  obtain ⟨h6, h⟩ := Bool.and_eq_true_iff.mp h
  obtain ⟨h7, h8⟩ := Bool.and_eq_true_iff.mp h
  exact ⟨b1 h1, b2 h2, b3 h3, h4, b1 h5, b1 h6, b3 h7, b3 h8⟩
end Px

namespace Px
open PySem PySem.Spec PyProof.Rows L2
/-! ## isinstance(e, C), e the handled error: what is known of the error classes -/
def errC (d : Cl) : Bool := match d with
  | .Light | .Film | .Ink | .Filter | .Opaque | .Bleach | .Pass | .Row | .Spot | .Chart | .Shape | .Sheet | .Press => false
  | _ => true
structure IsX (K : Frg) : Prop where
  ec : ∀ c, xcB K c = true → ExcC K (ca K c)
  xx : ∀ c d, xcB K c = true → xcB K d = true → PySem.W.kitOne K (.ref (ca K c)) (.ref (ca K d)) = some (subX c d)
  xv : ∀ c, xcB K c = true → PySem.W.kitOne K (.ref (ca K c)) (.type "ValueError") = some true
  ko : ∀ c, kcB K c = true → errC c = false
def eqOB (a : Option Bool) (b : Bool) : Bool := match a with
  | some x => x == b
  | none => false
theorem eqOB_ok {a : Option Bool} {b : Bool} (h : eqOB a b = true) : a = some b := by
  unfold eqOB at h
  split at h
  · rw [eq_of_beq h]
  · cases h
def isxB (K : Frg) (hs xs : List Cl) : Bool := (hs.all fun c => !errC c) && xs.all fun c => excB K (ca K c) && (eqOB (PySem.W.kitOne K (.ref (ca K c)) (.type "ValueError")) true && xs.all fun d => eqOB (PySem.W.kitOne K (.ref (ca K c)) (.ref (ca K d))) (subX c d))
theorem isxB_ok {K : Frg} {hs xs : List Cl} (hk : ∀ c, kcB K c = true → c ∈ hs) (hx : ∀ c, xcB K c = true → c ∈ xs) (h : isxB K hs xs = true) : IsX K := by
  obtain ⟨h0, h⟩ := He.ba h
  have g := fun c hc => He.ba (List.all_eq_true.mp h c (hx c hc))
  exact ⟨fun c hc => excB_ok (g c hc).1, fun c d hc hd => eqOB_ok (List.all_eq_true.mp (He.ba (g c hc).2).2 d (hx d hd)), fun c hc => eqOB_ok (He.ba (g c hc).2).1, fun c hc => by simpa using List.all_eq_true.mp h0 c (hk c hc)⟩
def fIsD (a dd : Addr) (c : Cl) : Mu → List PV → (PV → Prop) → Prop := fun _ ps q => match ps with
  | [.exc a' d' c' _, t] => (a' = a ∧ d' = dd ∧ c' = c ∧ c.flds ≠ []) ∧ (match t with
    | .cls d => errC d = true ∧ q (.bl (subX c d))
    | .ty n => n = "ValueError" ∧ q (.bl true)
    | _ => False)
  | _ => False
theorem pcl_isD {K : Frg} {a dd : Addr} {c : Cl} (I : IsX K) (hc : xcB K c = true) : PCl K (rIsD K (ca K c) a dd) (fIsD a dd c) := fun B μ G H ps vs q Q o rs h gv => by
  unfold fIsD at h
  split at h
  · rename_i a' d' c' ys t
    obtain ⟨⟨rfl, rfl, rfl, hf⟩, h⟩ := h
    obtain ⟨v, ws, rfl, r, rn⟩ := rs.cons_inv
    obtain ⟨v2, ws, rfl, r2, rn⟩ := rn.cons_inv
    rw [rn.nil_inv]
    obtain ⟨rfl, z⟩ := r.exc_inv
    obtain ⟨us, e3, _, _⟩ := z.resolve_left hf
    have e3 := o.sub _ _ e3
    split at h
    · rename_i d
      obtain ⟨hd, h⟩ := h
      obtain rfl := r2.cls_inv
      have kd : knB K d = true := by simp only [Rep] at r2; exact r2.2
      have xd : xcB K d = true := by
        rcases Bool.or_eq_true_iff.mp kd with z | z
        · rw [I.ko d z] at hd; cases hd
        · exact z
      exact ⟨_, .ref (ca K d), _, _, rfl, fun u hu => hu, I.xx c' d hc xd, e3, gv _ _ _ _ h (.refl o) (rep_bl _)⟩
    · obtain ⟨rfl, h⟩ := h
      obtain rfl := r2.ty_inv
      exact ⟨_, .type "ValueError", _, _, rfl, fun u hu => hu, I.xv c' hc, e3, gv _ _ _ _ h (.refl o) (rep_bl _)⟩
    · exact h.elim
  · exact h.elim
end Px

/-! # readings that carry their own check and their own proof: what a written expression means -/
namespace Px
open PySem PySem.Spec PyProof.Rows L2
/-! ## small facts of the written text -/
def nstar : Expr → Bool
  | .Starred _ _ => false
  | _ => true
theorem star_cons {e : Expr} {es : List Expr} {env : Env} (h : nstar e = true) : starEach (e :: es) env = (false, eval e env) :: starEach es env := by
  cases e <;> first | rfl | cases h
def nost (es : List Expr) : Bool := es.all nstar
theorem nost_any {pos : Pos} {env : Env} : ∀ {es : List Expr}, nost es = true → (backTo pos (starEach es env)).any (·.1) = false
  | [], _ => rfl
  | e :: es, h => by
    have h : (nstar e && nost es) = true := h
    obtain ⟨h1, h2⟩ := He.ba h
    rw [star_cons h1]
    show (false || (backTo pos (starEach es env)).any (·.1)) = false
    rw [nost_any h2] <;> rfl
theorem nost_all {pos : Pos} {env : Env} : ∀ {es : List Expr}, nost es = true → (backTo pos (starEach es env)).all (!·.1) = true
  | [], _ => rfl
  | e :: es, h => by
    have h : (nstar e && nost es) = true := h
    obtain ⟨h1, h2⟩ := He.ba h
    rw [star_cons h1]
    show (true && (backTo pos (starEach es env)).all (!·.1)) = true
    rw [nost_all h2] <;> rfl
/-- not super() -/
def nsup : Expr → Bool
  | .Call (.Name id _) [] [] _ => id != "super"
  | _ => true
theorem base_of {o : Expr} {f : Str} {env : Env} {whole : Sem Value} (h : nsup o = true) : attributeBase o f env whole = whole := by
  unfold attributeBase
  split
  · rename_i id p pos
    have h : (id != "super") = true := h
    simp [h]
  · rfl
/-- a test that is a value -/
def plainT : Expr → Bool
  | .UnaryOp .Not _ _ => false
  | .BoolOp _ _ _ => false
  | .IfExp _ _ _ _ => false
  | .Compare _ _ _ _ => false
  | _ => true
theorem isTrue_of {a : Expr} {env : Env} (h : plainT a = true) : ∀ whole, isTrue a env whole = (do let v ← whole; standAt a.pos; holding [v] (truthy v)) := by
  intro whole
  cases a with
  | UnaryOp op x p => cases op <;> first | rfl | exact absurd h Bool.false_ne_true
  | BoolOp _ _ _ => exact absurd h Bool.false_ne_true
  | IfExp _ _ _ _ => exact absurd h Bool.false_ne_true
  | Compare _ _ _ _ => exact absurd h Bool.false_ne_true
  | _ => rfl
/-- no comprehension: stored or dropped plainly -/
def noComp : Expr → Bool
  | .ListComp _ _ _ _ => false
  | .SetComp _ _ _ _ => false
  | .DictComp _ _ _ _ _ => false
  | _ => true
theorem swaps_of {e : Expr} {t : Option Expr} {l : Nat} {env : Env} (h : noComp e = true) : swapsWith e t l env = pure false := by
  cases e <;> first | rfl | exact absurd h Bool.false_ne_true
def isName : Expr → Bool
  | .Name _ _ => true
  | _ => false
def noSet : Expr → Bool
  | .Set _ _ _ => false
  | _ => true
theorem mark_of {op : CmpOp} {e : Expr} (h : noSet e = true) : behindInMarks op e = false := by
  cases e <;> first | rfl | exact absurd h Bool.false_ne_true
theorem fold_of {e : Expr} {env : Env} (h : noSet e = true) : ∀ x, foldedSetIterable e env x = pure x := by
  intro x
  cases e <;> first | rfl | exact absurd h Bool.false_ne_true
def noSlice : Expr → Bool
  | .Slice _ _ _ _ => false
  | _ => true
theorem plainIx_of {b : Expr} (h : noSlice b = true) : PlainIx b := by
  intro o i
  cases b <;> first | rfl | exact absurd h Bool.false_ne_true
def visB (sc : Scope) (x : Str) : Bool := match sc.names.lookup x with
  | some .local => true
  | some .cell => true
  | some .free => true
  | _ => false
theorem visB_ok {sc : Scope} {x : Str} (h : visB sc x = true) : Vis sc x := by
  unfold visB at h
  split at h
  · exact .inl (by assumption)
  · exact .inr (.inl (by assumption))
  · exact .inr (.inr (by assumption))
  · cases h
def locB (sc : Scope) (x : Str) : Bool := match sc.names.lookup x with
  | some .local => true
  | some .cell => true
  | _ => false
theorem locB_ok {sc : Scope} {x : Str} (h : locB sc x = true) : Loc sc x := by
  unfold locB at h
  split at h
  · exact .inl (by assumption)
  · exact .inr (by assumption)
  · cases h
def glB (sc : Scope) (x : Str) : Bool := decide (sc.names.lookup x = some .globalImplicit) && (!(x == ("__debug__" : Str)) && decide (x ≠ "__name__"))
/-! ## keywords -/
def kwN (kws : List Keyword) : List (Option Str) := kws.map (·.arg)
theorem kw_all {pos : Pos} {env : Env} : ∀ {kws : List Keyword} {ks : List Str}, kwN kws = ks.map some → (backToKw pos (keywordEach kws env)).all (·.1.isSome) = true ∧ (backToKw pos (keywordEach kws env)).filterMap (·.1) = ks ∧ (backToKw pos (keywordEach kws env)).any (·.1.isNone) = false
  | [], [], _ => ⟨rfl, rfl, rfl⟩
  | [], _ :: _, h => by cases h
  | _ :: _, [], h => by cases h
  | ⟨nm, v, p⟩ :: kws, k :: ks, h => by
    have h : nm :: kwN kws = some k :: ks.map some := h
    obtain ⟨h1, h2⟩ := List.cons.inj h
    subst h1
    obtain ⟨a, b, c⟩ := kw_all (pos := pos) (env := env) h2
    refine ⟨?_, ?_, ?_⟩
    · show (true && (backToKw pos (keywordEach kws env)).all (·.1.isSome)) = true
      rw [a] <;> rfl
    · show k :: (backToKw pos (keywordEach kws env)).filterMap (·.1) = k :: ks
      rw [b]
    · show (false || (backToKw pos (keywordEach kws env)).any (·.1.isNone)) = false
      rw [c] <;> rfl
/-- o.m(..): the form of a method call -/
def fewB (args : List Expr) (kws : List Keyword) (apos pos : Pos) : Bool := nost args && (decide (args.length + kws.length < 29) && (apos.endLine == pos.line))
theorem eval_meth {o : Expr} {m : Str} {apos pos : Pos} {args : List Expr} {kws : List Keyword} {ks : List Str} {env : Env} (hs : nsup o = true) (hf : fewB args kws apos pos = true) (hk : kwN kws = ks.map some) :
    eval (.Call (.Attribute o m apos) args kws pos) env = (do
      let ov ← eval o env
      standAt apos.atName
      let (g, first) ← holding [ov] (getMethod ov m (do return (← importBound o env).getD true))
      callWith pos g first (backTo pos (starEach args env)) (backToKw pos (keywordEach kws env))) := by
  obtain ⟨h1, h2⟩ := He.ba hf
  obtain ⟨h2, h3⟩ := He.ba h2
  have h2 := of_decide_eq_true h2
  have few : methodCallForm (args.length + kws.length) (backTo pos (starEach args env)) (backToKw pos (keywordEach kws env)) = true := by
    unfold methodCallForm
    rw [nost_all h1, (kw_all hk).1]
    have : args.length + kws.length + (if (backToKw pos (keywordEach kws env)).isEmpty then 0 else 1) < 30 := by split <;> omega
    exact decide_eq_true this
  show (do
    let ov ← attributeBase o m env (eval o env)
    standAt apos.atName
    methodCall o m apos pos env ov (args.length + kws.length) (backTo pos (starEach args env)) (backToKw pos (keywordEach kws env))) = _
  rw [base_of hs]
  unfold methodCall
  simp only [few, calleeOf, methodCallPos, h3, if_true, Bool.not_true, Bool.false_or]
  rfl
end Px

namespace Px
open PySem PySem.Spec PyProof.Rows L2
/-! ## the defs of a text, by number -/
inductive Fid where
  | g (x : Nat) (ks : List Nat)
  | m (c : Cl) (x : Nat) (ks : List Nat)
  | cm (c : Cl) (x : Nat) (ks : List Nat)
  | k (c : Cl) (fz : Bool) (ks : List Nat)
  | p (c : Cl) (x : Nat) (ks : List Nat)
def eqN : List Nat → List Nat → Bool
  | [], [] => true
  | a :: as, b :: bs => (match Nat.beq a b with
    | true => eqN as bs
    | false => false)
  | _, _ => false
theorem eqN_ok : ∀ {a b : List Nat}, eqN a b = true → a = b
  | [], [], _ => rfl
  | [], _ :: _, h => by cases h
  | _ :: _, [], h => by cases h
  | a :: as, b :: bs, h => by
    unfold eqN at h
    split at h
    · rename_i e
      rw [Nat.eq_of_beq_eq_true e, eqN_ok h]
    · cases h
def Fid.eqb : Fid → Fid → Bool
  | .g x ks, .g y ls => (match Nat.beq x y with
    | true => eqN ks ls
    | false => false)
  | .m c x ks, .m d y ls => (match Nat.beq x y with
    | true => (match decEq c d with
      | .isTrue _ => eqN ks ls
      | .isFalse _ => false)
    | false => false)
  | .cm c x ks, .cm d y ls => (match Nat.beq x y with
    | true => (match decEq c d with
      | .isTrue _ => eqN ks ls
      | .isFalse _ => false)
    | false => false)
  | .k c x ks, .k d y ls => (match decEq c d with
    | .isTrue _ => (match x, y with
      | true, true => eqN ks ls
      | false, false => eqN ks ls
      | _, _ => false)
    | .isFalse _ => false)
  | .p c x ks, .p d y ls => (match Nat.beq x y with
    | true => (match decEq c d with
      | .isTrue _ => eqN ks ls
      | .isFalse _ => false)
    | false => false)
  | _, _ => false
theorem Fid.eqb_ok {a b : Fid} (h : Fid.eqb a b = true) : a = b := by
  unfold Fid.eqb at h
  split at h
  · split at h
    · rename_i e
      rw [Nat.eq_of_beq_eq_true e, eqN_ok h]
    · cases h
  · split at h
    · rename_i e
      split at h
      · rename_i z _
        rw [Nat.eq_of_beq_eq_true e, eqN_ok h, z]
      · cases h
    · cases h
  · split at h
    · rename_i e
      split at h
      · rename_i z _
        rw [Nat.eq_of_beq_eq_true e, eqN_ok h, z]
      · cases h
    · cases h
  · split at h
    · rename_i z _
      split at h
      · rw [eqN_ok h, z]
      · rw [eqN_ok h, z]
      · cases h
    · cases h
  · split at h
    · rename_i e
      split at h
      · rename_i z _
        rw [Nat.eq_of_beq_eq_true e, eqN_ok h, z]
      · cases h
    · cases h
  · cases h
abbrev Tbl := List (Fid × Ct)
def look : Tbl → Fid → Option Ct
  | [], _ => none
  | (g, c) :: r, f => (match Fid.eqb f g with
    | true => some c
    | false => look r f)
theorem look_mem {F : Fid} {ct : Ct} : ∀ {L : Tbl}, look L F = some ct → (F, ct) ∈ L
  | [], h => by cases h
  | (g, c) :: r, h => by
    unfold look at h
    split at h
    · rename_i e
      cases h
      rw [Fid.eqb_ok e]
      exact List.mem_cons_self
    · exact List.mem_cons_of_mem _ (look_mem h)
def noCt : Ct := fun _ _ _ _ => False
/-- what is known while a text runs: the promises of the defs it calls (LH: also while an error is handled), the error that is handled -/
structure Rt where
  L : Tbl
  LH : Tbl := []
  Q : Qt := []
  xi : Option (Addr × Addr × Cl) := none
def Rt.ct (R : Rt) (F : Fid) : Ct := match look R.L F with
  | some c => c
  | none => noCt
theorem Rt.ct_of {R : Rt} {F : Fid} {as : List PV} {μ : Mu} {q : QV} {x : QX} (h : R.ct F as μ q x) : (F, R.ct F) ∈ R.L := by
  unfold Rt.ct at h ⊢
  cases e : look R.L F with
  | none => simp only [e] at h; exact h.elim
  | some c => exact look_mem e
/-! ## what is known of a law's text -/
inductive Kst where
  | int (i : Int)
  | str (z : Str)
  | txs (zs : List Str)
  deriving DecidableEq
def Kst.pv : Kst → PV
  | .int i => .int i
  | .str z => .str z
  | .txs zs => .tup (zs.map .str)
structure Stt where
  P : Program
  nms : List (Nat × Str)
  fre : List Str
  hs : List Cl
  xs : List Cl
  gl : List Nat := []
  cms : List (Cl × Nat) := []
  mks : List Cl := []
  ms : List (Cl × Nat) := []
  sa : List (Cl × Cl × Nat) := []
  er : List (Cl × Str) := []
  cv : List (Cl × Str × Kst) := []
  gc : List (Str × Kst) := []
  prs : List (Cl × Nat) := []
  isx : Bool := false
  ow : List Cl := []
def dun : Nat → Option Str
  | 0 => some "__add__" | 1 => some "__sub__" | 2 => some "__and__" | 3 => some "__or__" | 4 => some "__xor__" | 5 => some "__invert__" | 6 => some "__contains__" | 7 => some "__len__" | 8 => some "__bool__" | 9 => some "__eq__"
  | 10 => some "__str__" | 11 => some "__repr__" | 12 => some "__call__" | 13 => some "__init__" | 14 => some "__getitem__" | 15 => some "__iter__"
  | _ => none
def Stt.nm (S : Stt) (i : Nat) : Str := match dun i with
  | some s => s
  | none => (S.nms.lookup i).getD Str.empty
/-- an error without an __init__ of its own -/
def owB (K : Frg) (c : Cl) : Bool := PySem.W.excIn K (ca K c) [.type "ValueError", .type "Exception", .type "BaseException", .type "object"] "ValueError.__new__" && (PySem.W.keepIn K (.ref (ca K c)) && (decide (PySem.W.subIn K (.ref (ca K c)) (.type "BaseException") = some true) && decide (PySem.W.typeIn K (.ref (ca K c)) = some (.type "type"))))
structure Facts (S : Stt) (K : Frg) (mg : Str → Option Value) : Prop where
  fre : ∀ x ∈ S.fre, mg x = none
  ka : KA K
  kc : ∀ c ∈ S.hs, kcB K c = true
  xc : ∀ c ∈ S.xs, xcB K c = true
  cn : ∀ c ∈ S.hs ++ S.xs, mg c.name = some (.ref (ca K c))
  gl : ∀ i ∈ S.gl, mg (S.nm i) = some (.ref (He.ga K (S.nm i))) ∧ PySem.W.keepIn K (.ref (He.ga K (S.nm i))) = true
  cms : ∀ p ∈ S.cms, knB K p.1 = true ∧ ClX.CRead K (ca K p.1) (.type "type") ∧ ClX.CMet K (ca K p.1) (.type "type") (S.nm p.2) (cmRec K (ca K p.1) (S.nm p.2)) (cmFn K (ca K p.1) (S.nm p.2))
  mks : ∀ c ∈ S.mks, kcB K c = true ∧ mg c.name = some (.ref (ca K c)) ∧ Mk K (ca K c) (He.ma K (ca K c) "__init__")
  ms : ∀ p ∈ S.ms, S.nm p.2 ∉ p.1.flds ∧ kcB K p.1 = true ∧ Meth K (ca K p.1) (S.nm p.2) (He.ma K (ca K p.1) (S.nm p.2)) ∧ PySem.W.fnIn K (He.ma K (ca K p.1) (S.nm p.2)) = true ∧ PySem.W.selfFirst K (ca K p.1) = true
  sa : ∀ p ∈ S.sa, He.ma K (ca K p.1) (S.nm p.2.2) = He.ma K (ca K p.2.1) (S.nm p.2.2)
  er : ∀ p ∈ S.er, p.1.flds = [p.2] ∧ ∃ fI, ErrF S.P K (ca K p.1) fI p.2
  cv : ∀ p ∈ S.cv, ∃ v u, ClX.CRead K (ca K p.1) (.type "type") ∧ ClX.CVal K (ca K p.1) (.type "type") p.2.1 v u ∧ ∀ B G, Rep K B G p.2.2.pv v
  gc : ∀ p ∈ S.gc, ∃ v u, mg p.1 = some u ∧ RelV v u ∧ ∀ B G, Rep K B G p.2.pv v
  prs : ∀ p ∈ S.prs, S.nm p.2 ∉ p.1.flds ∧ kcB K p.1 = true ∧ PropOf K (ca K p.1) (S.nm p.2) (He.ma K (ca K p.1) (S.nm p.2)) (prFn K (ca K p.1) (S.nm p.2))
  isx : S.isx = true → IsX K
  ow : ∀ c ∈ S.ow, owB K c = true
section
variable (S : Stt) (hot : Bool) (P : Program) (w : World) (K : Frg) (mg : Str → Option Value) (base : Heap) (k : Nat)
/-- the def F keeps the promise ct -/
def PromOk : Fid → Ct → Prop
  | .g x ks, ct => FnS hot P w K mg base k (He.ga K (S.nm x)) (ks.map S.nm) (spP K ct)
  | .m c x ks, ct => S.nm x ∉ c.flds ∧ kcB K c = true ∧ Meth K (ca K c) (S.nm x) (He.ma K (ca K c) (S.nm x)) ∧ PySem.W.fnIn K (He.ma K (ca K c) (S.nm x)) = true ∧ PySem.W.selfFirst K (ca K c) = true ∧ FnS hot P w K mg base k (He.ma K (ca K c) (S.nm x)) (ks.map S.nm) (spP K ct)
  | .cm c x ks, ct => FnS hot P w K mg base k (cmFn K (ca K c) (S.nm x)) (ks.map S.nm) (spP K ct)
  | .p c x ks, ct => S.nm x ∉ c.flds ∧ kcB K c = true ∧ PropOf K (ca K c) (S.nm x) (He.ma K (ca K c) (S.nm x)) (prFn K (ca K c) (S.nm x)) ∧ FnS hot P w K mg base k (prFn K (ca K c) (S.nm x)) (ks.map S.nm) (spP K ct)
  | .k c fz ks, kc => ∃ ct, MkC fz c ct kc ∧ FnS hot P w K mg base k (He.ma K (ca K c) "__init__") (ks.map S.nm) (spP K ct)
end
/-- where a text stands -/
structure Cc where
  S : Stt
  N : List Str
  sc : Scope
  cm : Bool
  fn : Str → Bool := fun _ => true
/-- the context X of a text is as c says -/
structure Good (k : Nat) (R : Rt) (X : Cx) (W : WX) (c : Cc) : Prop where
  prog : X.prog = c.S.P
  N : X.N = c.N
  sc : X.env.scope = c.sc
  nd : X.N.Nodup
  fn : ∀ x, c.fn x = true → X.fn x = true
  md : Md X (!c.cm)
  tk : L2N.Takes X W
  rm : L2H.RoomH (k + 2) X.A
  fa : Facts c.S X.K X.mg
  pr : ∀ F ct, (F, ct) ∈ R.L → PromOk c.S (!c.cm) X.prog X.w X.K X.mg X.base k F ct
  ph : ∀ F ct, (F, ct) ∈ R.LH → PromOk c.S true X.prog X.w X.K X.mg X.base k F ct
  qo : QOk X k R.Q
  xi : ∀ a dd cl, R.xi = some (a, dd, cl) → ∃ (X0 : Cx) (oe : Obj) (pn : List (Addr × Obj)) (d : Option Addr), X = X0.suite a ((a, oe) :: pn) ∧ W = Wno ∧ xcB X.K cl = true ∧ L2N.Zn (.ref (ca X.K cl)) d oe ∧ (∃ vs, oe.data = .fields vs) ∧ XD cl d dd
section
variable {k : Nat} {R : Rt} {X : Cx} {W : WX} {c : Cc}
theorem Good.calm (G : Good k R X W c) (h : c.cm = true) : X.calm = true := by
  rcases G.md with z | ⟨z, _⟩
  · exact z
  · rw [h] at z; cases z
theorem Good.rm1 (G : Good k R X W c) : L2H.RoomH (k + 1) X.A := G.rm.mono (by omega)
theorem Good.rm0 (G : Good k R X W c) : L2H.RoomH k X.A := G.rm.mono (by omega)
theorem Good.gl (G : Good k R X W c) {x : Str} (h : glB c.sc x = true) : Gl X x ∧ (x == ("__debug__" : Str)) = false ∧ x ≠ "__name__" := by
  obtain ⟨h1, h2⟩ := He.ba h
  obtain ⟨h2, h3⟩ := He.ba h2
  refine ⟨?_, by simpa using h2, of_decide_eq_true h3⟩
  show X.env.scope.names.lookup x = some .globalImplicit
  rw [G.sc]
  exact of_decide_eq_true h1
theorem Good.free (G : Good k R X W c) {x : Str} (h : decide (x ∈ c.S.fre) = true) : X.mg x = none := G.fa.fre x (of_decide_eq_true h)
end
theorem no_prom {hot : Bool} {P : Program} {w : World} {K : Frg} {mg : Str → Option Value} {base : Heap} {k : Nat} {f : Addr} {ks : List Str} : FnS hot P w K mg base k f ks (spP K noCt) := fun A outer s H us ws vs Q E hm hr e0 hl r h => by
  obtain ⟨B, μ, G, as, q, z, o, rr, hc, hq⟩ := h
  exact hc.elim
/-- where the table has no entry, nothing is asked: a promise of False is kept by anything -/
theorem noCt_mem {R : Rt} (F : Fid) : (F, R.ct F) ∈ R.L ∨ R.ct F = noCt := by
  unfold Rt.ct
  cases e : look R.L F with
  | none => exact .inr rfl
  | some c => exact .inl (look_mem e)
section
variable {k : Nat} {R : Rt} {X : Cx} {W : WX} {c : Cc}
theorem Good.prg (G : Good k R X W c) (x : Nat) (ks : List Nat) : FnS (!c.cm) X.prog X.w X.K X.mg X.base k (He.ga X.K (c.S.nm x)) (ks.map c.S.nm) (spP X.K (R.ct (.g x ks))) := by
  rcases noCt_mem (R := R) (.g x ks) with z | z
  · exact G.pr _ _ z
  · rw [z]; exact no_prom
theorem Good.prcm (G : Good k R X W c) (cl : Cl) (x : Nat) (ks : List Nat) : FnS (!c.cm) X.prog X.w X.K X.mg X.base k (cmFn X.K (ca X.K cl) (c.S.nm x)) (ks.map c.S.nm) (spP X.K (R.ct (.cm cl x ks))) := by
  rcases noCt_mem (R := R) (.cm cl x ks) with z | z
  · exact G.pr _ _ z
  · rw [z]; exact no_prom
theorem Good.prk (G : Good k R X W c) (hc : c.cm = true) (cl : Cl) (fz : Bool) (ks : List Nat) : ∃ ct, MkC fz cl ct (R.ct (.k cl fz ks)) ∧ FnS false X.prog X.w X.K X.mg X.base k (He.ma X.K (ca X.K cl) "__init__") (ks.map c.S.nm) (spP X.K ct) := by
  rcases noCt_mem (R := R) (.k cl fz ks) with z | z
  · have := G.pr _ _ z
    rw [hc] at this
    exact this
  · rw [z]; exact ⟨noCt, fun _ _ _ _ h => h.elim, no_prom⟩
end
/-! ## the bundles -/
structure ZE where
  d : Rt → DE
  ck : Cc → Expr → Bool
  ok : ∀ {k : Nat} {R : Rt} {X : Cx} {W : WX} {c : Cc} {e : Expr}, ck c e = true → Good k R X W c → EJ X W e (d R)
structure ZA where
  d : Rt → DA
  ck : Cc → List Expr → Bool
  ok : ∀ {k : Nat} {R : Rt} {X : Cx} {W : WX} {c : Cc} {e : List Expr}, ck c e = true → Good k R X W c → AJ X W e (d R)
structure ZT where
  d : Rt → DT
  ck : Cc → Expr → Bool
  ok : ∀ {k : Nat} {R : Rt} {X : Cx} {W : WX} {c : Cc} {e : Expr}, ck c e = true → Good k R X W c → TJ X W e (d R)
structure ZL where
  d : Rt → DL
  ck : Cc → Expr → Bool
  ok : ∀ {k : Nat} {R : Rt} {X : Cx} {W : WX} {c : Cc} {e : Expr}, ck c e = true → Good k R X W c → LJ X W e (d R)
structure ZK where
  d : Rt → DA
  ck : Cc → List Keyword → Bool
  ok : ∀ {k : Nat} {R : Rt} {X : Cx} {W : WX} {c : Cc} {e : List Keyword}, ck c e = true → Good k R X W c → KJ X W e (d R)
structure ZO where
  d : Rt → DO
  ck : Cc → Option Expr → Bool
  ok : ∀ {k : Nat} {R : Rt} {X : Cx} {W : WX} {c : Cc} {e : Option Expr}, ck c e = true → Good k R X W c → OJ X W e (d R)
theorem ff {P : Prop} {b : Bool} (h : b = true) (e : b = false) : P := by rw [e] at h; cases h
/-! ## names and constants -/
def zVar (i : Nat) : ZE where
  d := fun _ => dVar i
  ck := fun c e => match e with
    | .Name x _ => decide (c.N[i]? = some x) && (visB c.sc x && (!(x == ("__debug__" : Str)) && !(x == ("__classdict__" : Str))))
    | _ => false
  ok := fun {k R X W c e} h G => by
    cases e with
    | Name x p =>
      obtain ⟨h1, h⟩ := He.ba h
      obtain ⟨h2, h⟩ := He.ba h
      obtain ⟨h3, h4⟩ := He.ba h
      exact e_var i (by rw [G.N]; exact of_decide_eq_true h1) (by rw [G.sc]; exact visB_ok h2) (by simpa using h3) (by simpa using h4)
    | _ => exact ff h rfl
def zInt (i : Int) : ZE where
  d := fun _ => dC (.int i)
  ck := fun _ e => match e with
    | .Constant v _ _ => (match v with
      | .int j => decide (j = i)
      | _ => false)
    | _ => false
  ok := fun {k R X W c e} h G => by
    cases e with
    | Constant v j p =>
      cases v with
      | int n => obtain rfl : n = i := of_decide_eq_true h; exact e_int
      | _ => exact ff h rfl
    | _ => exact ff h rfl
def zBl (i : Bool) : ZE where
  d := fun _ => dC (.bl i)
  ck := fun _ e => match e with
    | .Constant v _ _ => (match v with
      | .bool j => decide (j = i)
      | _ => false)
    | _ => false
  ok := fun {k R X W c e} h G => by
    cases e with
    | Constant v j p =>
      cases v with
      | bool n => obtain rfl : n = i := of_decide_eq_true h; exact e_bl
      | _ => exact ff h rfl
    | _ => exact ff h rfl
def zStr (i : Str) : ZE where
  d := fun _ => dC (.str i)
  ck := fun _ e => match e with
    | .Constant v _ _ => (match v with
      | .str j => decide (j = i)
      | _ => false)
    | _ => false
  ok := fun {k R X W c e} h G => by
    cases e with
    | Constant v j p =>
      cases v with
      | str n => obtain rfl : n = i := of_decide_eq_true h; exact e_str
      | _ => exact ff h rfl
    | _ => exact ff h rfl
def zNon : ZE where
  d := fun _ => dC .non
  ck := fun _ e => match e with
    | .Constant v _ _ => (match v with
      | .none => true
      | _ => false)
    | _ => false
  ok := fun {k R X W c e} h G => by
    cases e with
    | Constant v j p =>
      cases v with
      | none => exact e_non
      | _ => exact ff h rfl
    | _ => exact ff h rfl
def zCls (c : Cl) : ZE where
  d := fun _ => dC (.cls c)
  ck := fun C e => match e with
    | .Name x _ => decide (x = c.name) && (glB C.sc x && decide (c ∈ C.S.hs ++ C.S.xs))
    | _ => false
  ok := fun {k R X W C e} h G => by
    cases e with
    | Name x p =>
      obtain ⟨h1, h⟩ := He.ba h
      obtain ⟨h2, h3⟩ := He.ba h
      obtain rfl := of_decide_eq_true h1
      have h3 := of_decide_eq_true h3
      obtain ⟨g1, g2, _⟩ := G.gl h2
      refine e_cls c ?_ (G.fa.cn c h3) g1 g2
      rcases List.mem_append.mp h3 with z | z
      · unfold knB; rw [G.fa.kc c z] <;> rfl
      · unfold knB; rw [G.fa.xc c z]; simp
    | _ => exact ff h rfl
/-- a built-in class, as a value -/
def zTy (n : String) : ZE where
  d := fun _ => dC (.ty n)
  ck := fun C e => match e with
    | .Name x _ => glB C.sc x && (decide (x ∈ C.S.fre) && decide (bootBuiltins x = some (.type n)))
    | _ => false
  ok := fun {k R X W C e} h G => by
    cases e with
    | Name x p =>
      obtain ⟨h1, h⟩ := He.ba h
      obtain ⟨h2, h3⟩ := He.ba h
      obtain ⟨g1, g2, g3⟩ := G.gl h1
      exact e_ty n (G.free h2) (of_decide_eq_true h3) g1 g3 g2
    | _ => exact ff h rfl
/-- a module's constant -/
def zGc (x : Str) (v : Kst) : ZE where
  d := fun _ => dC v.pv
  ck := fun C e => match e with
    | .Name y _ => decide (y = x) && (glB C.sc y && decide ((x, v) ∈ C.S.gc))
    | _ => false
  ok := fun {k R X W C e} h G => by
    cases e with
    | Name y p =>
      obtain ⟨h1, h⟩ := He.ba h
      obtain ⟨h2, h3⟩ := He.ba h
      obtain rfl := of_decide_eq_true h1
      obtain ⟨g1, g2, _⟩ := G.gl h2
      obtain ⟨v', u, e1, e2, e3⟩ := G.fa.gc _ (of_decide_eq_true h3)
      exact e_glob e1 e2 e3 g1 g2
    | _ => exact ff h rfl
/-! ## argument lists -/
def zNil : ZA where
  d := fun _ => dNil
  ck := fun _ e => match e with
    | [] => true
    | _ => false
  ok := fun {k R X W c e} h G => by
    cases e with
    | nil => exact a_nil
    | cons _ _ => exact ff h rfl
def zCons (a : ZE) (as : ZA) : ZA where
  d := fun R => dCons (a.d R) (as.d R)
  ck := fun c e => match e with
    | x :: xs => nstar x && (a.ck c x && as.ck c xs)
    | [] => false
  ok := fun {k R X W c e} h G => by
    cases e with
    | nil => exact ff h rfl
    | cons x xs =>
      obtain ⟨h1, h⟩ := He.ba h
      obtain ⟨h2, h3⟩ := He.ba h
      exact a_cons (a.ok h2 G) (as.ok h3 G) (star_cons h1)
def zStar (a : ZE) (as : ZA) : ZA where
  d := fun R => dStar (a.d R) (as.d R)
  ck := fun c e => match e with
    | .Starred x _ :: xs => a.ck c x && as.ck c xs
    | _ => false
  ok := fun {k R X W c e} h G => by
    cases e with
    | nil => exact ff h rfl
    | cons x xs =>
      cases x with
      | Starred x p =>
        obtain ⟨h2, h3⟩ := He.ba h
        exact a_star (a.ok h2 G) (as.ok h3 G) rfl
      | _ => exact ff h rfl
def zKnil : ZK where
  d := fun _ => dNil
  ck := fun _ e => match e with
    | [] => true
    | _ => false
  ok := fun {k R X W c e} h G => by
    cases e with
    | nil => exact k_nil
    | cons _ _ => exact ff h rfl
def zKcons (a : ZE) (as : ZK) : ZK where
  d := fun R => dCons (a.d R) (as.d R)
  ck := fun c e => match e with
    | x :: xs => a.ck c x.value && as.ck c xs
    | [] => false
  ok := fun {k R X W c e} h G => by
    cases e with
    | nil => exact ff h rfl
    | cons x xs =>
      obtain ⟨nm, v, p⟩ := x
      obtain ⟨h2, h3⟩ := He.ba h
      exact k_cons (a.ok h2 G) (as.ok h3 G)
/-! ## displays -/
def zTup (as : ZA) : ZE where
  d := fun R => dTup (as.d R)
  ck := fun c e => match e with
    | .Tuple es _ _ => as.ck c es
    | _ => false
  ok := fun {k R X W c e} h G => by
    cases e with
    | Tuple es n p => exact e_tup (as.ok h G)
    | _ => exact ff h rfl
def zDisp (as : ZA) : ZL where
  d := fun R => lDisp (as.d R)
  ck := fun c e => match e with
    | .List es _ => as.ck c es
    | _ => false
  ok := fun {k R X W c e} h G => by
    cases e with
    | List es p => exact l_disp (as.ok h G)
    | _ => exact ff h rfl
/-- list(e) -/
def zList (a : ZE) : ZL where
  d := fun R => lList (a.d R)
  ck := fun c e => match e with
    | .Call (.Name x _) [e1] [] _ => decide (x = "list") && (glB c.sc "list" && (decide (("list" : Str) ∈ c.S.fre) && (nstar e1 && a.ck c e1)))
    | _ => false
  ok := fun {k R X W c e} h G => by
    split at h
    · rename_i x p0 e1 pos
      obtain ⟨h1, h⟩ := He.ba h
      obtain ⟨h2, h⟩ := He.ba h
      obtain ⟨h3, h⟩ := He.ba h
      obtain ⟨h4, h5⟩ := He.ba h
      obtain rfl := of_decide_eq_true h1
      exact l_list (G.free h3) (a.ok h5 G) (G.gl h2).1 (star_cons h4) rfl
    · cases h
/-- a list that is never changed -/
def zLst (l : ZL) : ZE where
  d := fun R => dLst (l.d R)
  ck := l.ck
  ok := fun h G => e_new (l.ok h G)
/-- a list that may be changed -/
def zNew (l : ZL) : ZE where
  d := fun R => dNew (l.d R)
  ck := l.ck
  ok := fun h G => e_newC (l.ok h G)
/-- .. that is changed no longer -/
def zFrz (a : ZE) : ZE where
  d := fun R => dFrz (a.d R)
  ck := a.ck
  ok := fun h G => e_frz (a.ok h G)
end Px

namespace Px
open PySem PySem.Spec PyProof.Rows L2
section
variable {k : Nat} {R : Rt} {X : Cx} {W : WX} {c : Cc}
def mT (R : Rt) (m : Nat) : Cl → Option Ct := fun cl => look R.L (.m cl m [])
theorem Good.mtab (G : Good k R X W c) (m : Nat) : MTab (!c.cm) X k (c.S.nm m) [] (mT R m) := fun cl ct h => by
  obtain ⟨h1, h2, h3, h4, h5, h6⟩ := G.pr _ _ (look_mem h)
  exact ⟨h1, _, (kcB_ok h2).cls, h3, h6⟩
theorem Good.mtabF (G : Good k R X W c) (m : Nat) (hc : c.cm = true) : MTab false X k (c.S.nm m) [] (mT R m) := by
  have := G.mtab m
  rw [hc] at this
  exact this
theorem Good.sf (G : Good k R X W c) (m : Nat) : ∀ cl ct, mT R m cl = some ct → PySem.W.selfFirst X.K (ca X.K cl) = true := fun cl ct h => by
  obtain ⟨h1, h2, h3, h4, h5, h6⟩ := G.pr _ _ (look_mem h)
  exact h5
end
/-! ## operators -/
def noF : FO := fun _ _ _ _ _ => False
def opD (R : Rt) : Operator → FO
  | .Add => binD addP (mT R 0)
  | .Sub => binD subP (mT R 1)
  | .BitAnd => binD andP (mT R 2)
  | .BitOr => binD orP (mT R 3)
  | .BitXor => binD xorP (mT R 4)
  | .Mod => fo modP
  | .FloorDiv => fo divP
  | .Pow => fo powP
  | .LShift => fo shlP
  | .RShift => fo shrP
  | .Mult => fo mulP
  | _ => noF
theorem no_oj {X : Cx} {W : WX} {op : Value → Value → Sem Value} : OpJ X W op noF := fun pins s σ H B ρ μ G a b va vb u w q x Q J R ra rb ru rw' h gv gx => h.elim
theorem opD_ok {k : Nat} {R : Rt} {X : Cx} {W : WX} {c : Cc} (G : Good k R X W c) (op : Operator) : OpJ X W (binaryOp op) (opD R op) := by
  cases op with
  | Add => exact oj_add.withOwn (oj_own (G.mtab 0) (G.sf 0) G.md G.rm0 G.tk)
  | Sub => exact oj_sub.withOwn (oj_own (G.mtab 1) (G.sf 1) G.md G.rm0 G.tk)
  | BitAnd => exact oj_and.withOwn (oj_own (G.mtab 2) (G.sf 2) G.md G.rm0 G.tk)
  | BitOr => exact oj_or.withOwn (oj_own (G.mtab 3) (G.sf 3) G.md G.rm0 G.tk)
  | BitXor => exact oj_xor.withOwn (oj_own (G.mtab 4) (G.sf 4) G.md G.rm0 G.tk)
  | Mod => exact oj_mod
  | FloorDiv => exact oj_div
  | Pow => exact oj_pow
  | LShift => exact oj_shl
  | RShift => exact oj_shr
  | Mult => exact oj_mul
  | _ => exact no_oj
def zBin (op : Operator) (a b : ZE) : ZE where
  d := fun R => dBin (opD R op) (a.d R) (b.d R)
  ck := fun c e => match e with
    | .BinOp x o y _ => decide (o = op) && (a.ck c x && b.ck c y)
    | _ => false
  ok := fun {k R X W c e} h G => by
    cases e with
    | BinOp x o y p =>
      obtain ⟨h1, h⟩ := He.ba h
      obtain ⟨h2, h3⟩ := He.ba h
      obtain rfl := of_decide_eq_true h1
      exact e_bin (opD_ok G o) (a.ok h2 G) (b.ok h3 G)
    | _ => exact ff h rfl
/-- == and != -/
def eqD (R : Rt) (neg : Bool) : FO := eqQ R.Q neg
def cmpD (R : Rt) : CmpOp → FO
  | .Eq => eqD R false
  | .NotEq => eqD R true
  | .Lt => fo ltP
  | .LtE => fo leI
  | .Gt => fo gtI
  | .GtE => fo geI
  | .In => inD (mT R 6)
  | .NotIn => fo (inF true)
  | .Is => fo (isP false)
  | .IsNot => fo (isP true)
/-- what stands only where no error is handled -/
def cmpC : CmpOp → Bool
  | .In => true
  | _ => false
theorem cmpD_ok {k : Nat} {R : Rt} {X : Cx} {W : WX} {c : Cc} (G : Good k R X W c) (op : CmpOp) (h : (!cmpC op || c.cm) = true) : OpJ X W (compareOp op) (cmpD R op) := by
  cases op with
  | Eq => exact oj_eqQ G.qo G.rm1
  | NotEq => exact oj_neQ G.qo G.rm1
  | Lt => exact oj_lt
  | LtE => exact oj_le
  | Gt => exact oj_gt
  | GtE => exact oj_ge
  | In => exact oj_inO (G.mtab 6) (G.calm h) G.rm0
  | NotIn => exact oj_notin
  | Is => exact oj_is
  | IsNot => exact oj_isnot
def zCmp (op : CmpOp) (a b : ZE) : ZE where
  d := fun R => dBin (cmpD R op) (a.d R) (b.d R)
  ck := fun c e => match e with
    | .Compare x [o] [y] _ => decide (o = op) && ((!cmpC op || c.cm) && (noSet y && (a.ck c x && b.ck c y)))
    | _ => false
  ok := fun {k R X W c e} h G => by
    split at h
    · rename_i x o y p
      obtain ⟨h1, h⟩ := He.ba h
      obtain ⟨h2, h⟩ := He.ba h
      obtain ⟨h3, h⟩ := He.ba h
      obtain ⟨h4, h5⟩ := He.ba h
      obtain rfl := of_decide_eq_true h1
      exact e_cmp (cmpD_ok G o h2) (a.ok h4 G) (b.ok h5 G) (mark_of h3)
    · cases h
def zChain (o1 o2 : CmpOp) (a b d : ZE) : ZE where
  d := fun R => dChain (cmpD R o1) (cmpD R o2) (a.d R) (b.d R) (d.d R)
  ck := fun c e => match e with
    | .Compare x [p1, p2] [y, z] _ => decide (p1 = o1) && (decide (p2 = o2) && ((!cmpC o1 || c.cm) && ((!cmpC o2 || c.cm) && (noSet z && (a.ck c x && (b.ck c y && d.ck c z))))))
    | _ => false
  ok := fun {k R X W c e} h G => by
    split at h
    · rename_i x p1 p2 y z p
      obtain ⟨h1, h⟩ := He.ba h
      obtain ⟨h2, h⟩ := He.ba h
      obtain ⟨h3, h⟩ := He.ba h
      obtain ⟨h4, h⟩ := He.ba h
      obtain ⟨h5, h⟩ := He.ba h
      obtain ⟨h6, h⟩ := He.ba h
      obtain ⟨h7, h8⟩ := He.ba h
      obtain rfl := of_decide_eq_true h1
      obtain rfl := of_decide_eq_true h2
      exact e_chain (cmpD_ok G p1 h3) (cmpD_ok G p2 h4) (a.ok h6 G) (b.ok h7 G) (d.ok h8 G) (mark_of h5)
    · cases h
/-! ## tests -/
/-- a comparison, as a test -/
def tCmp (op : CmpOp) (a b : ZE) : ZT where
  d := fun R => dB (dBin (cmpD R op) (a.d R) (b.d R))
  ck := fun c e => match e with
    | .Compare x [o] [y] _ => decide (o = op) && ((!cmpC op || c.cm) && (noSet y && (a.ck c x && b.ck c y)))
    | _ => false
  ok := fun {k R X W c e} h G => by
    split at h
    · rename_i x o y p
      obtain ⟨h1, h⟩ := He.ba h
      obtain ⟨h2, h⟩ := He.ba h
      obtain ⟨h3, h⟩ := He.ba h
      obtain ⟨h4, h5⟩ := He.ba h
      obtain rfl := of_decide_eq_true h1
      exact t_cmp (cmpD_ok G o h2) (a.ok h4 G) (b.ok h5 G) (mark_of h3)
    · cases h
def tChain (o1 o2 : CmpOp) (a b d : ZE) : ZT where
  d := fun R => dB (dChain (cmpD R o1) (cmpD R o2) (a.d R) (b.d R) (d.d R))
  ck := fun c e => match e with
    | .Compare x [p1, p2] [y, z] _ => decide (p1 = o1) && (decide (p2 = o2) && ((!cmpC o1 || c.cm) && ((!cmpC o2 || c.cm) && (noSet z && (a.ck c x && (b.ck c y && d.ck c z))))))
    | _ => false
  ok := fun {k R X W c e} h G => by
    split at h
    · rename_i x p1 p2 y z p
      obtain ⟨h1, h⟩ := He.ba h
      obtain ⟨h2, h⟩ := He.ba h
      obtain ⟨h3, h⟩ := He.ba h
      obtain ⟨h4, h⟩ := He.ba h
      obtain ⟨h5, h⟩ := He.ba h
      obtain ⟨h6, h⟩ := He.ba h
      obtain ⟨h7, h8⟩ := He.ba h
      obtain rfl := of_decide_eq_true h1
      obtain rfl := of_decide_eq_true h2
      exact t_chain (cmpD_ok G p1 h3) (cmpD_ok G p2 h4) (a.ok h6 G) (b.ok h7 G) (d.ok h8 G) (mark_of h5)
    · cases h
/-- a value that is True or False -/
def tVal (a : ZE) : ZT where
  d := fun R => dB (a.d R)
  ck := fun c e => plainT e && a.ck c e
  ok := fun h G => by
    obtain ⟨h1, h2⟩ := He.ba h
    exact t_val (a.ok h2 G) (isTrue_of h1)
/-- .. or an object that says what it is -/
def tTr (a : ZE) : ZT where
  d := fun R => dTr (trD (mT R 8)) (a.d R)
  ck := fun c e => c.cm && (plainT e && a.ck c e)
  ok := fun {k R X W c e} h G => by
    obtain ⟨h0, h⟩ := He.ba h
    obtain ⟨h1, h2⟩ := He.ba h
    exact t_tr (tj_own (G.mtab 8) (G.calm h0) G.rm0) (a.ok h2 G) (isTrue_of h1)
def tNot (a : ZT) : ZT where
  d := fun R => dNot (a.d R)
  ck := fun c e => match e with
    | .UnaryOp o x _ => (match o with
      | .Not => a.ck c x
      | _ => false)
    | _ => false
  ok := fun {k R X W c e} h G => by
    cases e with
    | UnaryOp o x p =>
      cases o with
      | Not => exact t_not (a.ok h G)
      | _ => exact ff h rfl
    | _ => exact ff h rfl
/-- the tests of and, or -/
structure ZW where
  d : Rt → DT
  ck : Cc → List Expr → Bool
def tAndL : List ZT → Rt → DT
  | [], _ => dYes
  | [t], R => t.d R
  | t :: u :: r, R => dAnd (t.d R) (tAndL (u :: r) R)
def tOrL : List ZT → Rt → DT
  | [], _ => dYes
  | [t], R => t.d R
  | t :: u :: r, R => dOr (t.d R) (tOrL (u :: r) R)
def ckL : List ZT → Cc → List Expr → Bool
  | [], _, _ => false
  | [t], c, [e] => t.ck c e
  | t :: u :: r, c, e :: es => t.ck c e && ckL (u :: r) c es
  | _, _, _ => false
theorem andL_ok {k : Nat} {R : Rt} {X : Cx} {W : WX} {c : Cc} {pos : Pos} (G : Good k R X W c) : ∀ {ts : List ZT} {es : List Expr}, ckL ts c es = true → WJ X W (.BoolOp .And es pos) (tAndL ts R)
  | [], es, h => by cases h
  | [t], es, h => by
    match es, h with
    | [e], h => exact w_and1 (t.ok h G)
  | t :: u :: r, es, h => by
    match es, h with
    | e :: es', h =>
      obtain ⟨h1, h2⟩ := He.ba h
      match es', h2 with
      | e2 :: es2, h2 => exact w_and (t.ok h1 G) (andL_ok G h2)
      | [], h2 => cases r <;> cases h2
theorem orL_ok {k : Nat} {R : Rt} {X : Cx} {W : WX} {c : Cc} {pos : Pos} (G : Good k R X W c) : ∀ {ts : List ZT} {es : List Expr}, ckL ts c es = true → WJ X W (.BoolOp .Or es pos) (tOrL ts R)
  | [], es, h => by cases h
  | [t], es, h => by
    match es, h with
    | [e], h => exact w_or1 (t.ok h G)
  | t :: u :: r, es, h => by
    match es, h with
    | e :: es', h =>
      obtain ⟨h1, h2⟩ := He.ba h
      match es', h2 with
      | e2 :: es2, h2 => exact w_or (t.ok h1 G) (orL_ok G h2)
      | [], h2 => cases r <;> cases h2
def tAnd (ts : List ZT) : ZT where
  d := fun R => tAndL ts R
  ck := fun c e => match e with
    | .BoolOp o es _ => (match o with
      | .And => ckL ts c es
      | _ => false)
    | _ => false
  ok := fun {k R X W c e} h G => by
    cases e with
    | BoolOp o es p =>
      cases o with
      | And => exact t_w (andL_ok G h)
      | Or => exact ff h rfl
    | _ => exact ff h rfl
def tOr (ts : List ZT) : ZT where
  d := fun R => tOrL ts R
  ck := fun c e => match e with
    | .BoolOp o es _ => (match o with
      | .Or => ckL ts c es
      | _ => false)
    | _ => false
  ok := fun {k R X W c e} h G => by
    cases e with
    | BoolOp o es p =>
      cases o with
      | Or => exact t_w (orL_ok G h)
      | And => exact ff h rfl
    | _ => exact ff h rfl
/-! ## and, or, not of values -/
def andV : List ZE → Rt → DE
  | [], _ => fun _ _ _ _ => False
  | [t], R => t.d R
  | t :: u :: r, R => dAndV (t.d R) (andV (u :: r) R)
def orV : List ZE → Rt → DE
  | [], _ => fun _ _ _ _ => False
  | [t], R => t.d R
  | t :: u :: r, R => dOrV (t.d R) (orV (u :: r) R)
def ckV : List ZE → Cc → List Expr → Bool
  | [], _, _ => false
  | [t], c, [e] => t.ck c e
  | t :: u :: r, c, e :: es => t.ck c e && ckV (u :: r) c es
  | _, _, _ => false
theorem andV_ok {k : Nat} {R : Rt} {X : Cx} {W : WX} {c : Cc} {pos : Pos} (G : Good k R X W c) : ∀ {ts : List ZE} {es : List Expr}, ckV ts c es = true → EJ X W (.BoolOp .And es pos) (andV ts R)
  | [], es, h => by cases h
  | [t], es, h => by
    match es, h with
    | [e], h => exact e_one (t.ok h G)
  | t :: u :: r, es, h => by
    match es, h with
    | e :: es', h =>
      obtain ⟨h1, h2⟩ := He.ba h
      match es', h2 with
      | e2 :: es2, h2 => exact e_and (t.ok h1 G) (andV_ok G h2)
      | [], h2 => cases r <;> cases h2
theorem orV_ok {k : Nat} {R : Rt} {X : Cx} {W : WX} {c : Cc} {pos : Pos} (G : Good k R X W c) : ∀ {ts : List ZE} {es : List Expr}, ckV ts c es = true → EJ X W (.BoolOp .Or es pos) (orV ts R)
  | [], es, h => by cases h
  | [t], es, h => by
    match es, h with
    | [e], h => exact e_one (t.ok h G)
  | t :: u :: r, es, h => by
    match es, h with
    | e :: es', h =>
      obtain ⟨h1, h2⟩ := He.ba h
      match es', h2 with
      | e2 :: es2, h2 => exact e_or (t.ok h1 G) (orV_ok G h2)
      | [], h2 => cases r <;> cases h2
def zAnd (ts : List ZE) : ZE where
  d := fun R => andV ts R
  ck := fun c e => match e with
    | .BoolOp o es _ => (match o with
      | .And => ckV ts c es
      | _ => false)
    | _ => false
  ok := fun {k R X W c e} h G => by
    cases e with
    | BoolOp o es p =>
      cases o with
      | And => exact andV_ok G h
      | Or => exact ff h rfl
    | _ => exact ff h rfl
def zOr (ts : List ZE) : ZE where
  d := fun R => orV ts R
  ck := fun c e => match e with
    | .BoolOp o es _ => (match o with
      | .Or => ckV ts c es
      | _ => false)
    | _ => false
  ok := fun {k R X W c e} h G => by
    cases e with
    | BoolOp o es p =>
      cases o with
      | Or => exact orV_ok G h
      | And => exact ff h rfl
    | _ => exact ff h rfl
def zNot (a : ZE) : ZE where
  d := fun R => dNotV (a.d R)
  ck := fun c e => match e with
    | .UnaryOp o x _ => (match o with
      | .Not => a.ck c x
      | _ => false)
    | _ => false
  ok := fun {k R X W c e} h G => by
    cases e with
    | UnaryOp o x p =>
      cases o with
      | Not => exact e_not (a.ok h G)
      | _ => exact ff h rfl
    | _ => exact ff h rfl
def zNeg (a : ZE) : ZE where
  d := fun R => dUn negP (a.d R)
  ck := fun c e => match e with
    | .UnaryOp o x _ => (match o with
      | .USub => a.ck c x
      | _ => false)
    | _ => false
  ok := fun {k R X W c e} h G => by
    cases e with
    | UnaryOp o x p =>
      cases o with
      | USub => exact e_un uj_neg (a.ok h G)
      | _ => exact ff h rfl
    | _ => exact ff h rfl
def zInv (a : ZE) : ZE where
  d := fun R => dUn (ownU (mT R 5)) (a.d R)
  ck := fun c e => match e with
    | .UnaryOp o x _ => (match o with
      | .Invert => a.ck c x
      | _ => false)
    | _ => false
  ok := fun {k R X W c e} h G => by
    cases e with
    | UnaryOp o x p =>
      cases o with
      | Invert => exact e_un (uj_own (G.mtab 5) G.md G.rm0 G.tk) (a.ok h G)
      | _ => exact ff h rfl
    | _ => exact ff h rfl
def zIf (t : ZT) (a b : ZE) : ZE where
  d := fun R => dIf (t.d R) (a.d R) (b.d R)
  ck := fun c e => match e with
    | .IfExp x y z _ => t.ck c x && (a.ck c y && b.ck c z)
    | _ => false
  ok := fun {k R X W c e} h G => by
    cases e with
    | IfExp x y z p =>
      obtain ⟨h1, h⟩ := He.ba h
      obtain ⟨h2, h3⟩ := He.ba h
      exact e_if (t.ok h1 G) (a.ok h2 G) (b.ok h3 G)
    | _ => exact ff h rfl
/-! ## calls -/
def zCall0 (x : Nat) : ZE where
  d := fun R => dCall (R.ct (.g x [])) dNil
  ck := fun c e => match e with
    | .Call (.Name y _) [] [] _ => decide (y = c.S.nm x) && (glB c.sc y && decide (x ∈ c.S.gl))
    | _ => false
  ok := fun {k R X W c e} h G => by
    split at h
    · rename_i y p0 pos
      obtain ⟨h1, h⟩ := He.ba h
      obtain ⟨h2, h3⟩ := He.ba h
      obtain rfl := of_decide_eq_true h1
      obtain ⟨g1, g2, _⟩ := G.gl h2
      obtain ⟨p1, p2⟩ := G.fa.gl x (of_decide_eq_true h3)
      exact e_call0 (G.prg x []) G.md G.rm0 G.tk p1 p2 g1 g2
    · cases h
/-- f(e, ..) -/
def zCall (x : Nat) (as : ZA) : ZE where
  d := fun R => dCall (R.ct (.g x [])) (as.d R)
  ck := fun c e => match e with
    | .Call (.Name y _) (a :: es) [] _ => decide (y = c.S.nm x) && (glB c.sc y && (decide (x ∈ c.S.gl) && (nstar a && (nost es && as.ck c (a :: es)))))
    | _ => false
  ok := fun {k R X W c e} h G => by
    split at h
    · rename_i y p0 a es pos
      obtain ⟨h1, h⟩ := He.ba h
      obtain ⟨h2, h⟩ := He.ba h
      obtain ⟨h3, h⟩ := He.ba h
      obtain ⟨n1, h⟩ := He.ba h
      obtain ⟨n2, h4⟩ := He.ba h
      obtain rfl := of_decide_eq_true h1
      obtain ⟨g1, g2, _⟩ := G.gl h2
      obtain ⟨p1, p2⟩ := G.fa.gl x (of_decide_eq_true h3)
      exact e_call (G.prg x []) G.md G.rm0 G.tk p1 p2 (as.ok h4 G) g1 g2 (star_cons n1) (nost_any n2)
    · cases h
/-- f(e, .., k = e, ..) -/
def zCallK (x : Nat) (as : ZA) (ks : List Nat) (kw : ZK) : ZE where
  d := fun R => dCallK ks.length (R.ct (.g x ks)) (as.d R) (kw.d R)
  ck := fun c e => match e with
    | .Call (.Name y _) (a :: es) kws _ => decide (y = c.S.nm x) && (glB c.sc y && (decide (x ∈ c.S.gl) && (nstar a && (nost es && (decide (kwN kws = (ks.map c.S.nm).map some) && (as.ck c (a :: es) && kw.ck c kws))))))
    | _ => false
  ok := fun {k R X W c e} h G => by
    split at h
    · rename_i y p0 a es kws pos
      obtain ⟨h1, h⟩ := He.ba h
      obtain ⟨h2, h⟩ := He.ba h
      obtain ⟨h3, h⟩ := He.ba h
      obtain ⟨n1, h⟩ := He.ba h
      obtain ⟨n2, h⟩ := He.ba h
      obtain ⟨n3, h⟩ := He.ba h
      obtain ⟨h4, h5⟩ := He.ba h
      obtain rfl := of_decide_eq_true h1
      obtain ⟨g1, g2, _⟩ := G.gl h2
      obtain ⟨p1, p2⟩ := G.fa.gl x (of_decide_eq_true h3)
      obtain ⟨w1, w2, w3⟩ := kw_all (pos := pos) (env := X.env) (of_decide_eq_true n3)
      refine e_callK (G.prg x ks) G.md G.rm0 G.tk p1 p2 (as.ok h4 G) (kw.ok h5 G) (by rw [List.length_map]) g1 w1 w2 g2 (star_cons n1) ?_
      rw [nost_any (es := a :: es) (by show (nstar a && nost es) = true; rw [n1, n2] <;> rfl), w3] <;> rfl
    · cases h
/-! ## C(..) -/
def zMk0 (cl : Cl) (fz : Bool) : ZE where
  d := fun R => dCall (R.ct (.k cl fz [])) dNil
  ck := fun c e => match e with
    | .Call (.Name y _) [] [] _ => decide (y = cl.name) && (glB c.sc y && (decide (cl ∈ c.S.mks) && c.cm))
    | _ => false
  ok := fun {k R X W c e} h G => by
    split at h
    · rename_i y p0 pos
      obtain ⟨h1, h⟩ := He.ba h
      obtain ⟨h2, h⟩ := He.ba h
      obtain ⟨h3, h4⟩ := He.ba h
      obtain rfl := of_decide_eq_true h1
      obtain ⟨g1, g2, _⟩ := G.gl h2
      obtain ⟨p1, p2, p3⟩ := G.fa.mks cl (of_decide_eq_true h3)
      obtain ⟨ct, m1, m2⟩ := G.prk h4 cl fz []
      exact e_make0 p1 m1 p3 m2 (G.calm h4) G.rm1 G.tk p2 g1 g2
    · cases h
def zMk (cl : Cl) (fz : Bool) (as : ZA) : ZE where
  d := fun R => dCall (R.ct (.k cl fz [])) (as.d R)
  ck := fun c e => match e with
    | .Call (.Name y _) (a :: es) [] _ => decide (y = cl.name) && (glB c.sc y && (decide (cl ∈ c.S.mks) && (c.cm && (nstar a && (nost es && as.ck c (a :: es))))))
    | _ => false
  ok := fun {k R X W c e} h G => by
    split at h
    · rename_i y p0 a es pos
      obtain ⟨h1, h⟩ := He.ba h
      obtain ⟨h2, h⟩ := He.ba h
      obtain ⟨h3, h⟩ := He.ba h
      obtain ⟨h4, h⟩ := He.ba h
      obtain ⟨n1, h⟩ := He.ba h
      obtain ⟨n2, h5⟩ := He.ba h
      obtain rfl := of_decide_eq_true h1
      obtain ⟨g1, g2, _⟩ := G.gl h2
      obtain ⟨p1, p2, p3⟩ := G.fa.mks cl (of_decide_eq_true h3)
      obtain ⟨ct, m1, m2⟩ := G.prk h4 cl fz []
      exact e_make p1 m1 p3 m2 (G.calm h4) G.rm1 G.tk p2 (as.ok h5 G) g1 g2 (star_cons n1) (nost_any n2)
    · cases h
def zMkK (cl : Cl) (fz : Bool) (as : ZA) (ks : List Nat) (kw : ZK) : ZE where
  d := fun R => dCallK ks.length (R.ct (.k cl fz ks)) (as.d R) (kw.d R)
  ck := fun c e => match e with
    | .Call (.Name y _) (a :: es) kws _ => decide (y = cl.name) && (glB c.sc y && (decide (cl ∈ c.S.mks) && (c.cm && (nstar a && (nost es && (decide (kwN kws = (ks.map c.S.nm).map some) && (as.ck c (a :: es) && kw.ck c kws)))))))
    | _ => false
  ok := fun {k R X W c e} h G => by
    split at h
    · rename_i y p0 a es kws pos
      obtain ⟨h1, h⟩ := He.ba h
      obtain ⟨h2, h⟩ := He.ba h
      obtain ⟨h3, h⟩ := He.ba h
      obtain ⟨h4, h⟩ := He.ba h
      obtain ⟨n1, h⟩ := He.ba h
      obtain ⟨n2, h⟩ := He.ba h
      obtain ⟨n3, h⟩ := He.ba h
      obtain ⟨h5, h6⟩ := He.ba h
      obtain rfl := of_decide_eq_true h1
      obtain ⟨g1, g2, _⟩ := G.gl h2
      obtain ⟨p1, p2, p3⟩ := G.fa.mks cl (of_decide_eq_true h3)
      obtain ⟨ct, m1, m2⟩ := G.prk h4 cl fz ks
      obtain ⟨w1, w2, w3⟩ := kw_all (pos := pos) (env := X.env) (of_decide_eq_true n3)
      refine e_makeK p1 m1 p3 m2 (G.calm h4) G.rm1 G.tk p2 (as.ok h5 G) (kw.ok h6 G) (by rw [List.length_map]) g1 w1 w2 g2 (star_cons n1) ?_
      rw [nost_any (es := a :: es) (by show (nstar a && nost es) = true; rw [n1, n2] <;> rfl), w3] <;> rfl
    · cases h
/-- v(e, ..): the local v holds the class -/
def zMkV (cl : Cl) (fz : Bool) (v : ZE) (as : ZA) : ZE where
  d := fun R => dMkV cl (R.ct (.k cl fz [])) (v.d R) (as.d R)
  ck := fun c e => match e with
    | .Call (.Name y p) (a :: es) [] _ => v.ck c (.Name y p) && (decide (cl ∈ c.S.mks) && (c.cm && (nstar a && (nost es && as.ck c (a :: es)))))
    | _ => false
  ok := fun {k R X W c e} h G => by
    split at h
    · rename_i y p0 a es pos
      obtain ⟨h2, h⟩ := He.ba h
      obtain ⟨h3, h⟩ := He.ba h
      obtain ⟨h4, h⟩ := He.ba h
      obtain ⟨n1, h⟩ := He.ba h
      obtain ⟨n2, h5⟩ := He.ba h
      obtain ⟨p1, p2, p3⟩ := G.fa.mks cl (of_decide_eq_true h3)
      obtain ⟨ct, m1, m2⟩ := G.prk h4 cl fz []
      exact e_mkV p1 m1 p3 m2 (G.calm h4) G.rm1 G.tk (v.ok h2 G) (as.ok h5 G) (star_cons n1) (nost_any n2)
    · cases h
/-- v(*e) -/
def zMkVS (cl : Cl) (fz : Bool) (v a : ZE) : ZE where
  d := fun R => dMkV cl (R.ct (.k cl fz [])) (v.d R) (dStar (a.d R) dNil)
  ck := fun c e => match e with
    | .Call (.Name y p) [.Starred x _] [] _ => v.ck c (.Name y p) && (decide (cl ∈ c.S.mks) && (c.cm && a.ck c x))
    | _ => false
  ok := fun {k R X W c e} h G => by
    split at h
    · rename_i y p0 x p1 pos
      obtain ⟨h2, h⟩ := He.ba h
      obtain ⟨h3, h⟩ := He.ba h
      obtain ⟨h4, h5⟩ := He.ba h
      obtain ⟨p1, p2, p3⟩ := G.fa.mks cl (of_decide_eq_true h3)
      obtain ⟨ct, m1, m2⟩ := G.prk h4 cl fz []
      exact e_mkVS p1 m1 p3 m2 (G.calm h4) G.rm1 G.tk (v.ok h2 G) (a.ok h5 G)
    · cases h
/-! ## methods -/
def zMeth0 (m : Nat) (o : ZE) : ZE where
  d := fun R => dMeth (mT R m) (o.d R) dNil
  ck := fun c e => match e with
    | .Call (.Attribute x y apos) [] [] pos => decide (y = c.S.nm m) && (nsup x && (fewB [] [] apos pos && o.ck c x))
    | _ => false
  ok := fun {k R X W c e} h G => by
    split at h
    · rename_i x y apos pos
      obtain ⟨h1, h⟩ := He.ba h
      obtain ⟨h2, h⟩ := He.ba h
      obtain ⟨h3, h4⟩ := He.ba h
      obtain rfl := of_decide_eq_true h1
      exact e_meth0 (G.mtab m) G.md G.rm0 G.tk (o.ok h4 G) (eval_meth (ks := []) h2 h3 rfl)
    · cases h
end Px

namespace Px
open PySem PySem.Spec PyProof.Rows L2
/-! ## o.m(e, .., k = e): the rule -/
def dMethK (n : Nat) (tab : Cl → Option Ct) (d : DE) (ds dk : DA) : DE := fun ρ μ q x => d ρ μ (fun p μ1 => match rcv μ1 p with
  | some c => (match tab c with
    | some ct => ds ρ μ1 (fun ps μ2 => dk ρ μ2 (fun zs μ3 => zs.length = n ∧ ct (p :: (ps ++ zs)) μ3 q x) x) x
    | none => False)
  | none => False) x
section
variable {X : Cx} {W : WX} {hot : Bool} {k : Nat} {m : Str} {p0 apos pos : Pos} {o e : Expr} {es : List Expr} {d : DE} {ds dk : DA} {ks : List Str} {kws : List Keyword}
theorem e_methK {tab : Cl → Option Ct} {pl : Sem Bool} (T : MTab hot X k m ks tab) (md : Md X hot) (hr : L2H.RoomH k X.A) (tk : L2N.Takes X W) (ho : EJ X W o d) (ha : AJ X W (e :: es) ds) (hkw : KJ X W kws dk) {n : Nat} (hn : ks.length = n)
    (k1 : (backToKw pos (keywordEach kws X.env)).all (·.1.isSome) = true) (k2 : (backToKw pos (keywordEach kws X.env)).filterMap (·.1) = ks)
    (h2 : starEach (e :: es) X.env = (false, eval e X.env) :: starEach es X.env)
    (h3 : ((backTo pos (starEach (e :: es) X.env)).any (·.1) || (backToKw pos (keywordEach kws X.env)).any (·.1.isNone)) = false)
    (h4 : eval (.Call (.Attribute o m apos) (e :: es) kws pos) X.env = (do
      let ov ← eval o X.env
      standAt apos.atName
      let (g, first) ← holding [ov] (getMethod ov m pl)
      callWith pos g first (backTo pos (starEach (e :: es) X.env)) (backToKw pos (keywordEach kws X.env)))) : EJ X W (.Call (.Attribute o m apos) (e :: es) kws pos) (dMethK n tab d ds dk) := by
  subst hn
  refine ⟨fun pins s σ H Q J ⟨B, ρ, μ, G, q, z, R, h, gv, gx⟩ => ?_⟩
  refine PySem.W.methodCall_KW (pl := pl) (thn (ho.run pins s σ H (fun v H1 => ∃ μ1 G1 p c ct, Go X.K B μ G H μ1 G1 H1 ∧ Rep X.K B G1 p v ∧ rcv μ1 p = some c ∧ tab c = some ct ∧ ds ρ μ1 (fun ps μ2 => dk ρ μ2 (fun zs μ3 => zs.length = ks.length ∧ ct (p :: (ps ++ zs)) μ3 q z) z) z) J ⟨B, ρ, μ, G, _, z, R, h, fun p v μ1 G1 H1 h0 g1 r1 => by
      obtain ⟨c, ct, e1, e2, h1⟩ := dMeth_inv (ρ := ρ) (q := q) (x := z) (A := fun c ct => ds ρ μ1 (fun ps μ2 => dk ρ μ2 (fun zs μ3 => zs.length = ks.length ∧ ct (p :: (ps ++ zs)) μ3 q z) z) z) h0
      exact ⟨μ1, G1, p, c, ct, g1, r1, e1, e2, h1⟩, gx⟩)
    fun u s1 ⟨v, H1, J1, rv, μ1, G1, p, c, ct, g1, r1, e1, e2, h1⟩ => ?_) h4
  obtain ⟨hmf, f, hcl, hme, Fn⟩ := T c ct e2
  obtain ⟨a, dx, ws, rfl, ea, hlk⟩ := rcv_ok g1.ok r1 e1 hmf
  obtain rfl : u = Value.ref a := rv
  refine getmeth_ok J1 ea hcl hme hlk ?_
  refine PySem.W.callWith_KW (first := [.ref a]) (h₀ := X.base) J.ok.mod.kin hme.kp k1 (thn (ha.run pos pins s1 σ H1 (fun vs H2 => tA X.K W dk σ H2 fun zs H3 => zs.length = ks.length ∧ spP X.K ct (.ref a :: (vs ++ zs)) H3 Q fun cls d H' => W cls d σ H') J1
    ⟨B, ρ, μ1, G1, _, z, R.go g1, h1, fun ps vs μ2 G2 H2 h2 g2 r2 => ⟨B, ρ, μ2, G2, _, z, R.go (g1.trans g2), h2, fun zs ws μ3 G3 H3 ⟨hz, h3⟩ g3 r3 => ⟨by rw [r3.length]; exact hz, spP_of (R.go ((g1.trans g2).trans g3)) (.cons (r1.mono (g2.trans g3).gx) ((r2.mono g3.gx).append r3)) h3 (gv.go ((g1.trans g2).trans g3)) (gx.go ((g1.trans g2).trans g3))⟩, gx.go (g1.trans g2)⟩, gx.go g1⟩) fun us s2 ⟨vs, H2, J2, r, q1⟩ => ?_) h3 h2
  refine thn (hkw.run pos pins s2 σ H2 _ J2 q1) fun ws s3 ⟨zs, H3, J3, rz, hz, q2⟩ => ⟨J3.kIn, ?_⟩
  rw [k2]
  exact run_s (us := .ref a :: us) (ws := ws) (vs := .ref a :: (vs ++ zs)) Fn md hr tk J3 (by rw [← rz.length]; exact hz) (.cons rfl (r.append rz)) q2
end
def mTK (R : Rt) (m : Nat) (ks : List Nat) : Cl → Option Ct := fun cl => look R.L (.m cl m ks)
theorem Good.mtabK {k : Nat} {R : Rt} {X : Cx} {W : WX} {c : Cc} (G : Good k R X W c) (m : Nat) (ks : List Nat) : MTab (!c.cm) X k (c.S.nm m) (ks.map c.S.nm) (mTK R m ks) := fun cl ct h => by
  obtain ⟨h1, h2, h3, h4, h5, h6⟩ := G.pr _ _ (look_mem h)
  exact ⟨h1, _, (kcB_ok h2).cls, h3, h6⟩
def zMeth (m : Nat) (o : ZE) (as : ZA) : ZE where
  d := fun R => dMeth (mT R m) (o.d R) (as.d R)
  ck := fun c e => match e with
    | .Call (.Attribute x y apos) (a :: es) [] pos => decide (y = c.S.nm m) && (nsup x && (fewB (a :: es) [] apos pos && (o.ck c x && (nstar a && (nost es && as.ck c (a :: es))))))
    | _ => false
  ok := fun {k R X W c e} h G => by
    split at h
    · rename_i x y apos a es pos
      obtain ⟨h1, h⟩ := He.ba h
      obtain ⟨h2, h⟩ := He.ba h
      obtain ⟨h3, h⟩ := He.ba h
      obtain ⟨h4, h⟩ := He.ba h
      obtain ⟨n1, h⟩ := He.ba h
      obtain ⟨n2, h5⟩ := He.ba h
      obtain rfl := of_decide_eq_true h1
      exact e_meth (G.mtab m) G.md G.rm0 G.tk (o.ok h4 G) (as.ok h5 G) (star_cons n1) (nost_any n2) (eval_meth (ks := []) h2 h3 rfl)
    · cases h
def zMethK (m : Nat) (o : ZE) (as : ZA) (ks : List Nat) (kw : ZK) : ZE where
  d := fun R => dMethK ks.length (mTK R m ks) (o.d R) (as.d R) (kw.d R)
  ck := fun c e => match e with
    | .Call (.Attribute x y apos) (a :: es) kws pos => decide (y = c.S.nm m) && (nsup x && (fewB (a :: es) kws apos pos && (o.ck c x && (nstar a && (nost es && (decide (kwN kws = (ks.map c.S.nm).map some) && (as.ck c (a :: es) && kw.ck c kws)))))))
    | _ => false
  ok := fun {k R X W c e} h G => by
    split at h
    · rename_i x y apos a es kws pos
      obtain ⟨h1, h⟩ := He.ba h
      obtain ⟨h2, h⟩ := He.ba h
      obtain ⟨h3, h⟩ := He.ba h
      obtain ⟨h4, h⟩ := He.ba h
      obtain ⟨n1, h⟩ := He.ba h
      obtain ⟨n2, h⟩ := He.ba h
      obtain ⟨n3, h⟩ := He.ba h
      obtain ⟨h5, h6⟩ := He.ba h
      obtain rfl := of_decide_eq_true h1
      have n3 := of_decide_eq_true n3
      obtain ⟨w1, w2, w3⟩ := kw_all (pos := pos) (env := X.env) n3
      refine e_methK (G.mtabK m ks) G.md G.rm0 G.tk (o.ok h4 G) (as.ok h5 G) (kw.ok h6 G) (by rw [List.length_map]) w1 w2 (star_cons n1) ?_ (eval_meth (ks := ks.map c.S.nm) h2 h3 n3)
      rw [nost_any (es := a :: es) (by show (nstar a && nost es) = true; rw [n1, n2] <;> rfl), w3] <;> rfl
    · cases h
/-! ## classmethods -/
def zCm0 (cl : Cl) (m : Nat) (o : ZE) : ZE where
  d := fun R => dCm cl (R.ct (.cm cl m [])) (o.d R) dNil
  ck := fun c e => match e with
    | .Call (.Attribute x y apos) [] [] pos => decide (y = c.S.nm m) && (nsup x && (fewB [] [] apos pos && (o.ck c x && decide ((cl, m) ∈ c.S.cms))))
    | _ => false
  ok := fun {k R X W c e} h G => by
    split at h
    · rename_i x y apos pos
      obtain ⟨h1, h⟩ := He.ba h
      obtain ⟨h2, h⟩ := He.ba h
      obtain ⟨h3, h⟩ := He.ba h
      obtain ⟨h4, h5⟩ := He.ba h
      obtain rfl := of_decide_eq_true h1
      obtain ⟨p1, p2, p3⟩ := G.fa.cms _ (of_decide_eq_true h5)
      exact e_cmeth0 p1 p2 p3 (G.prcm cl m []) G.md G.rm0 G.tk (o.ok h4 G) (eval_meth (ks := []) h2 h3 rfl)
    · cases h
def zCm (cl : Cl) (m : Nat) (o : ZE) (as : ZA) : ZE where
  d := fun R => dCm cl (R.ct (.cm cl m [])) (o.d R) (as.d R)
  ck := fun c e => match e with
    | .Call (.Attribute x y apos) (a :: es) [] pos => decide (y = c.S.nm m) && (nsup x && (fewB (a :: es) [] apos pos && (o.ck c x && (decide ((cl, m) ∈ c.S.cms) && (nstar a && (nost es && as.ck c (a :: es)))))))
    | _ => false
  ok := fun {k R X W c e} h G => by
    split at h
    · rename_i x y apos a es pos
      obtain ⟨h1, h⟩ := He.ba h
      obtain ⟨h2, h⟩ := He.ba h
      obtain ⟨h3, h⟩ := He.ba h
      obtain ⟨h4, h⟩ := He.ba h
      obtain ⟨h5, h⟩ := He.ba h
      obtain ⟨n1, h⟩ := He.ba h
      obtain ⟨n2, h6⟩ := He.ba h
      obtain rfl := of_decide_eq_true h1
      obtain ⟨p1, p2, p3⟩ := G.fa.cms _ (of_decide_eq_true h5)
      exact e_cmeth p1 p2 p3 (G.prcm cl m []) G.md G.rm0 G.tk (o.ok h4 G) (as.ok h6 G) (star_cons n1) (nost_any n2) (eval_meth (ks := []) h2 h3 rfl)
    · cases h
/-! ## v(e, ..): v a local that holds an object -/
def zCallO (v : ZE) (as : ZA) : ZE where
  d := fun R => dCallO (mT R 12) (v.d R) (as.d R)
  ck := fun c e => match e with
    | .Call (.Name y p) (a :: es) [] _ => v.ck c (.Name y p) && (c.cm && (nstar a && (nost es && as.ck c (a :: es))))
    | _ => false
  ok := fun {k R X W c e} h G => by
    split at h
    · rename_i y p0 a es pos
      obtain ⟨h2, h⟩ := He.ba h
      obtain ⟨h4, h⟩ := He.ba h
      obtain ⟨n1, h⟩ := He.ba h
      obtain ⟨n2, h5⟩ := He.ba h
      refine e_callO (G.mtabF 12 h4) (fun cl ct f hl hm => ?_) (G.calm h4) G.rm0 G.tk (v.ok h2 G) (as.ok h5 G) (star_cons n1) (nost_any n2)
      obtain ⟨_, _, h3, h4, _, _⟩ := G.pr _ _ (look_mem hl)
      have e := hm.at_.symm.trans h3.at_
      cases e
      exact h4
    · cases h
/-! ## attributes -/
def zAtt (f : Str) (o : ZE) : ZE where
  d := fun R => dUn (attrP f) (o.d R)
  ck := fun c e => match e with
    | .Attribute x y _ => decide (y = f) && (nsup x && o.ck c x)
    | _ => false
  ok := fun {k R X W c e} h G => by
    cases e with
    | Attribute x y p =>
      obtain ⟨h1, h⟩ := He.ba h
      obtain ⟨h2, h3⟩ := He.ba h
      obtain rfl := of_decide_eq_true h1
      exact e_att uj_attr (o.ok h3 G) (base_of h2)
    | _ => exact ff h rfl
/-- e.f, a property -/
def pT (R : Rt) (m : Nat) : Cl → Option Ct := fun cl => look R.L (.p cl m [])
def zProp (m : Nat) (o : ZE) : ZE where
  d := fun R => dProp (pT R m) (o.d R)
  ck := fun c e => match e with
    | .Attribute x y _ => decide (y = c.S.nm m) && (nsup x && (c.cm && o.ck c x))
    | _ => false
  ok := fun {k R X W c e} h G => by
    cases e with
    | Attribute x y p =>
      obtain ⟨h1, h⟩ := He.ba h
      obtain ⟨h2, h⟩ := He.ba h
      obtain ⟨h4, h3⟩ := He.ba h
      obtain rfl := of_decide_eq_true h1
      refine e_prop (fun cl ct hl => ?_) (G.calm h4) G.rm1 G.tk (o.ok h3 G) (base_of h2)
      obtain ⟨p1, p2, p3, p4⟩ := G.pr _ _ (look_mem hl)
      rw [h4] at p4
      exact ⟨p1, (kcB_ok p2).cls, _, _, p3, p4⟩
    | _ => exact ff h rfl
/-- e.f, e the error that is handled -/
def xatD (R : Rt) (f : Str) (d : DE) : DE := match R.xi with
  | some (a, dd, c) => fun ρ μ q x => memS f c.flds = true ∧ dUn (fXf a dd c f) d ρ μ q x
  | none => fun _ _ _ _ => False
def zXat (f : Str) (o : ZE) : ZE where
  d := fun R => xatD R f (o.d R)
  ck := fun c e => match e with
    | .Attribute x y _ => decide (y = f) && (nsup x && o.ck c x)
    | _ => false
  ok := fun {k R X W c e} h G => by
    cases e with
    | Attribute x y p =>
      obtain ⟨h1, h⟩ := He.ba h
      obtain ⟨h2, h3⟩ := He.ba h
      obtain rfl := of_decide_eq_true h1
      unfold xatD
      cases ex : R.xi with
      | none => exact ⟨fun pins s σ H Q J z => by obtain ⟨B, ρ, μ, G0, q, xx, Rl, hd, gv, gx⟩ := z; exact hd.elim⟩
      | some z =>
        obtain ⟨a, dd, cl⟩ := z
        refine ⟨fun pins s σ H Q J z => ?_⟩
        obtain ⟨B, ρ, μ, G0, q, xx, Rl, ⟨hf, hd⟩, gv, gx⟩ := z
        have hj := o.ok h3 G
        obtain ⟨X0, oe, pn, d, hX, hW, hxc, hz, hv, hx⟩ := G.xi a dd cl ex
        subst hX hW
        exact (e_xf hxc (memS_ok hf) hz hv hx hj (base_of h2)).run pins s σ H Q J ⟨B, ρ, μ, G0, q, xx, Rl, hd, gv, gx⟩
    | _ => exact ff h rfl
/-- isinstance(e, C), e the error that is handled -/
def xisD (R : Rt) (ds : DA) : DE := match R.xi with
  | some (a, dd, c) => dBlt (fc (fIsD a dd c)) ds
  | none => fun _ _ _ _ => False
def zXis (as : ZA) : ZE where
  d := fun R => xisD R (as.d R)
  ck := fun c e => match e with
    | .Call (.Name y _) (a :: es) [] _ => decide (y = ("isinstance" : Str)) && (glB c.sc y && (decide (y ∈ c.S.fre) && (c.S.isx && (nstar a && (nost es && as.ck c (a :: es))))))
    | _ => false
  ok := fun {k R X W c e} h G => by
    split at h
    · rename_i y p0 a0 es pos
      obtain ⟨h1, h⟩ := He.ba h
      obtain ⟨h2, h⟩ := He.ba h
      obtain ⟨h3, h⟩ := He.ba h
      obtain ⟨h4, h⟩ := He.ba h
      obtain ⟨n1, h⟩ := He.ba h
      obtain ⟨n2, h5⟩ := He.ba h
      obtain rfl := of_decide_eq_true h1
      obtain ⟨g1, g2, g3⟩ := G.gl h2
      have hf := G.free h3
      have ha := as.ok h5 G
      have ix := G.fa.isx h4
      unfold xisD
      cases ex : R.xi with
      | none => exact ⟨fun pins s σ H Q J z => by obtain ⟨B, ρ, μ, G0, q, xx, Rl, hd, gv, gx⟩ := z; exact hd.elim⟩
      | some z =>
        obtain ⟨a, dd, cl⟩ := z
        obtain ⟨X0, oe, pn, d, hX, hW, hxc, hz, hv, hx⟩ := G.xi a dd cl ex
        subst hX hW
        refine ⟨fun pins s σ H Q J z => ?_⟩
        rcases hx with ⟨hx, _⟩ | rfl
        · refine (e_blt (id := "isinstance") (f := fc (fIsD a dd cl)) (fun pins s σ H B ρ μ G ps vs us q x Q _ _ _ _ h _ _ => ?_) hf (by decide +kernel) ha g1 g3 g2 (star_cons n1) (nost_any n2)).run pins s σ H Q J z
          unfold fc fIsD at h
          split at h
          · exact absurd hx h.1.2.2.2
          · exact h.elim
        · exact (e_blt (.of (call_isD (ix.ec cl hxc) hz.zc hv) (pcl_isD ix hxc)) hf (by decide +kernel) ha g1 g3 g2 (star_cons n1) (nost_any n2)).run pins s σ H Q J z
    · cases h
/-- C.NAME -/
def zCval (cl : Cl) (f : Str) (v : Kst) (o : ZE) : ZE where
  d := fun R => dUn (cvP cl v.pv) (o.d R)
  ck := fun c e => match e with
    | .Attribute x y _ => decide (y = f) && (nsup x && (o.ck c x && decide ((cl, f, v) ∈ c.S.cv)))
    | _ => false
  ok := fun {k R X W c e} h G => by
    cases e with
    | Attribute x y p =>
      obtain ⟨h1, h⟩ := He.ba h
      obtain ⟨h2, h⟩ := He.ba h
      obtain ⟨h3, h4⟩ := He.ba h
      obtain rfl := of_decide_eq_true h1
      obtain ⟨v', u, p1, p2, p3⟩ := G.fa.cv _ (of_decide_eq_true h4)
      exact e_cval p1 p2 p3 (o.ok h3 G) (base_of h2)
    | _ => exact ff h rfl
/-! ## subscripts, slices -/
def zIdx (a b : ZE) : ZE where
  d := fun R => dBin (fo ixP) (a.d R) (b.d R)
  ck := fun c e => match e with
    | .Subscript x y _ => noSlice y && (a.ck c x && b.ck c y)
    | _ => false
  ok := fun {k R X W c e} h G => by
    cases e with
    | Subscript x y p =>
      obtain ⟨h1, h⟩ := He.ba h
      obtain ⟨h2, h3⟩ := He.ba h
      exact e_ixJ ij_seq (a.ok h2 G) (b.ok h3 G) (plainIx_of h1)
    | _ => exact ff h rfl
def zO0 : ZO where
  d := fun _ => oNone
  ck := fun _ e => match e with
    | none => true
    | some _ => false
  ok := fun {k R X W c e} h G => by
    cases e with
    | none => exact o_none
    | some _ => exact ff h rfl
def zO1 (a : ZE) : ZO where
  d := fun R => oSome (a.d R)
  ck := fun c e => match e with
    | some x => a.ck c x
    | none => false
  ok := fun {k R X W c e} h G => by
    cases e with
    | some x => exact o_some (a.ok h G)
    | none => exact ff h rfl
def zSl (a : ZE) (lo hi : ZO) : ZE where
  d := fun R => dSl (a.d R) (lo.d R) (hi.d R)
  ck := fun c e => match e with
    | .Subscript x (.Slice l u none _) _ => a.ck c x && (lo.ck c l && hi.ck c u)
    | _ => false
  ok := fun {k R X W c e} h G => by
    split at h
    · obtain ⟨h1, h⟩ := He.ba h
      obtain ⟨h2, h3⟩ := He.ba h
      exact e_slice (a.ok h1 G) (lo.ok h2 G) (hi.ok h3 G)
    · cases h
/-! ## built-ins -/
/-- the built-ins that are called by name: len, int, bool, all, any, sum, tuple, isinstance, repr, str -/
inductive Blt where
  | len | int | bool | all | any | sum | tuple | isi | repr | str | lenH
  deriving DecidableEq
def Blt.nm : Blt → Str
  | .len => "len" | .int => "int" | .bool => "bool" | .all => "all" | .any => "any" | .sum => "sum" | .tuple => "tuple" | .isi => "isinstance" | .repr => "repr" | .str => "str" | .lenH => "len"
def bltF (R : Rt) : Blt → FC
  | .len => bltD fLen (mT R 7) okLen
  | .int => fc fInt
  | .bool => bltD fBool (mT R 8) okBl
  | .all => fc fAll
  | .any => fc fAny
  | .sum => fc fSum
  | .tuple => fc fTuple
  | .isi => fc fIsi
  | .repr => own1 (mT R 11) okStr
  | .str => bltD fStr (mT R 10) okStr
  | .lenH => fc fLen
/-- those that may stand where an error is handled -/
def Blt.hot : Blt → Bool
  | .int => true | .isi => true | .lenH => true
  | _ => false
def zBlt (b : Blt) (as : ZA) : ZE where
  d := fun R => dBlt (bltF R b) (as.d R)
  ck := fun c e => match e with
    | .Call (.Name y _) (a :: es) [] _ => decide (y = b.nm) && (glB c.sc y && (decide (y ∈ c.S.fre) && ((b.hot || c.cm) && (nstar a && (nost es && as.ck c (a :: es))))))
    | _ => false
  ok := fun {k R X W c e} h G => by
    split at h
    · rename_i y p0 a es pos
      obtain ⟨h1, h⟩ := He.ba h
      obtain ⟨h2, h⟩ := He.ba h
      obtain ⟨h3, h⟩ := He.ba h
      obtain ⟨h4, h⟩ := He.ba h
      obtain ⟨n1, h⟩ := He.ba h
      obtain ⟨n2, h5⟩ := He.ba h
      obtain rfl := of_decide_eq_true h1
      obtain ⟨g1, g2, g3⟩ := G.gl h2
      have hf := G.free h3
      have ha := as.ok h5 G
      have hc : b.hot = false → X.calm = true := fun z => by
        rw [z] at h4
        exact G.calm h4
      cases b with
      | len => exact e_blt (cj_lenO (G.mtab 7) (hc rfl) G.rm1) hf (by decide +kernel) ha g1 g3 g2 (star_cons n1) (nost_any n2)
      | int => exact e_bty cj_int hf (by decide +kernel) ha g1 g3 g2 (star_cons n1) (nost_any n2)
      | bool => exact e_bty (cj_boolO (G.mtab 8) (hc rfl) G.rm1) hf (by decide +kernel) ha g1 g3 g2 (star_cons n1) (nost_any n2)
      | all => exact e_blt (cj_all (hc rfl)) hf (by decide +kernel) ha g1 g3 g2 (star_cons n1) (nost_any n2)
      | any => exact e_blt (cj_any (hc rfl)) hf (by decide +kernel) ha g1 g3 g2 (star_cons n1) (nost_any n2)
      | sum => exact e_blt (cj_sum (hc rfl)) hf (by decide +kernel) ha g1 g3 g2 (star_cons n1) (nost_any n2)
      | tuple => exact e_bty cj_tuple hf (by decide +kernel) ha g1 g3 g2 (star_cons n1) (nost_any n2)
      | isi => exact e_blt (cj_isi G.fa.ka) hf (by decide +kernel) ha g1 g3 g2 (star_cons n1) (nost_any n2)
      | repr => exact e_blt (cj_reprO (G.mtab 11) (hc rfl) G.rm1) hf (by decide +kernel) ha g1 g3 g2 (star_cons n1) (nost_any n2)
      | lenH => exact e_blt cj_len hf (by decide +kernel) ha g1 g3 g2 (star_cons n1) (nost_any n2)
      | str => exact e_bty (cj_strO (G.mtab 10) (hc rfl) G.rm1) hf (by decide +kernel) ha g1 g3 g2 (star_cons n1) (nost_any n2)
    · cases h
/-! ## texts -/
def zJoin (a b : ZE) : ZE where
  d := fun R => dJoin (a.d R) (b.d R)
  ck := fun c e => match e with
    | .Call (.Attribute x y apos) [z] [] pos => decide (y = "join") && (nsup x && (nstar z && ((apos.endLine == pos.line) && (a.ck c x && b.ck c z))))
    | _ => false
  ok := fun {k R X W c e} h G => by
    split at h
    · rename_i x y apos z pos
      obtain ⟨h1, h⟩ := He.ba h
      obtain ⟨h2, h⟩ := He.ba h
      obtain ⟨h3, h⟩ := He.ba h
      obtain ⟨h4, h⟩ := He.ba h
      obtain ⟨h5, h6⟩ := He.ba h
      obtain rfl := of_decide_eq_true h1
      exact e_join (a.ok h5 G) (b.ok h6 G) (star_cons h3) (base_of h2) h4
    · cases h
def zFmt (a : ZE) : ZE where
  d := fun R => dFmt (a.d R)
  ck := fun c e => match e with
    | .FormattedValue x n none _ => decide (n = -1) && a.ck c x
    | _ => false
  ok := fun {k R X W c e} h G => by
    split at h
    · obtain ⟨h1, h2⟩ := He.ba h
      obtain rfl := of_decide_eq_true h1
      exact e_fmt (a.ok h2 G)
    · cases h
def ckJ : List ZE → Cc → List Expr → Bool
  | [], _, [] => true
  | a :: as, c, e :: es => a.ck c e && ckJ as c es
  | _, _, _ => false
theorem ckJ_ok {k : Nat} {R : Rt} {X : Cx} {W : WX} {c : Cc} (G : Good k R X W c) : ∀ {as : List ZE} {es : List Expr}, ckJ as c es = true → FJ X W es (as.map fun a => a.d R)
  | [], [], _ => .nil
  | [], _ :: _, h => by cases h
  | _ :: _, [], h => by cases h
  | a :: as, e :: es, h => by
    obtain ⟨h1, h2⟩ := He.ba h
    exact .cons (a.ok h1 G) (ckJ_ok G h2)
def zFstr (as : List ZE) : ZE where
  d := fun R => dParts (as.map fun a => a.d R) Str.empty
  ck := fun c e => match e with
    | .JoinedStr es _ => decide (2 ≤ es.length) && ckJ as c es
    | _ => false
  ok := fun {k R X W c e} h G => by
    cases e with
    | JoinedStr es p =>
      obtain ⟨h1, h2⟩ := He.ba h
      match es, h1, h2 with
      | a :: b :: r, _, h2 => exact e_fstr (ckJ_ok G h2)
      | [], h1, _ => cases of_decide_eq_true h1
      | [_], h1, _ => exact absurd (of_decide_eq_true h1) (by simp)
    | _ => exact ff h rfl
end Px

namespace Px
open PySem PySem.Spec PyProof.Rows L2
/-! ## targets -/
def locF (c : Cc) (x : Str) : Bool := locB c.sc x && (c.fn x || decide (c.sc.names.lookup x = some .local))
def tgNs (c : Cc) : List Nat → List Expr → Bool
  | [], [] => true
  | i :: is, .Name x _ :: es => decide (c.N[i]? = some x) && (locF c x && tgNs c is es)
  | _, _ => false
def tgCk (c : Cc) (t : Tg) (e : Expr) : Bool := match t with
  | .one i => (match e with
    | .Name x _ => decide (c.N[i]? = some x) && locF c x
    | _ => false)
  | .many is => (match e with
    | .Tuple es _ _ => c.cm && tgNs c is es
    | _ => false)
section
variable {k : Nat} {R : Rt} {X : Cx} {W : WX} {c : Cc}
theorem Good.loc (G : Good k R X W c) {x : Str} (h : locF c x = true) : Loc X.env.scope x ∧ (X.fn x = true ∨ X.env.scope.names.lookup x = some .local) := by
  obtain ⟨h1, h2⟩ := He.ba h
  rw [G.sc]
  refine ⟨locB_ok h1, ?_⟩
  rcases Bool.or_eq_true_iff.mp h2 with z | z
  · exact .inl (G.fn x z)
  · exact .inr (of_decide_eq_true z)
theorem Good.name (G : Good k R X W c) {i : Nat} {x : Str} {p : Pos} (h1 : c.N[i]? = some x) (h2 : locF c x = true) : PG X (.Name x p) (gName i) :=
  g_one i G.nd (by rw [G.N]; exact h1) (G.loc h2).1 (G.loc h2).2
theorem Good.gj (G : Good k R X W c) : ∀ {is : List Nat} {es : List Expr}, tgNs c is es = true → GJ X es is ∧ (assignEach es X.env).length = is.length ∧ (assignEach es X.env).findIdx? (·.1) = none
  | [], [], _ => ⟨.nil, rfl, rfl⟩
  | [], _ :: _, h => by cases h
  | _ :: _, [], h => by cases h
  | i :: is, e :: es, h => by
    cases e with
    | Name x p =>
      obtain ⟨h1, h⟩ := He.ba h
      obtain ⟨h2, h3⟩ := He.ba h
      obtain ⟨j1, j2, j3⟩ := G.gj h3
      refine ⟨.cons (G.name (of_decide_eq_true h1) h2) j1, ?_, ?_⟩
      · show (assignEach es X.env).length + 1 = is.length + 1
        rw [j2]
      · show List.findIdx? (·.1) ((false, assign (.Name x p) X.env) :: assignEach es X.env) = none
        rw [List.findIdx?_cons, j3] <;> rfl
    | _ => exact ff h rfl
theorem Good.tg (G : Good k R X W c) {t : Tg} {e : Expr} (h : tgCk c t e = true) : PG X e (tgOf X.K t) := by
  cases t with
  | one i =>
    cases e with
    | Name x p =>
      obtain ⟨h1, h2⟩ := He.ba h
      exact G.name (of_decide_eq_true h1) h2
    | _ => exact ff h rfl
  | many is =>
    cases e with
    | Tuple es n p =>
      obtain ⟨h1, h2⟩ := He.ba h
      obtain ⟨j1, j2, j3⟩ := G.gj h2
      exact g_many (G.calm h1) j1 j2 j3
    | _ => exact ff h rfl
end
/-! ## what is walked -/
structure ZI where
  d : Rt → DI
  ck : Cc → Expr → Expr → Bool
  ok : ∀ {k : Nat} {R : Rt} {X : Cx} {W : WX} {c : Cc} {tg e : Expr}, ck c tg e = true → Good k R X W c → IJ X W tg e (d R)
def iSq (a : ZE) : ZI where
  d := fun R => iSeq (a.d R)
  ck := fun c _ e => a.ck c e
  ok := fun h G => i_seq (a.ok h G)
def iRg1 (a : ZE) : ZI where
  d := fun R => iR1 (dCons (a.d R) dNil)
  ck := fun c _ e => match e with
    | .Call (.Name y _) [x] [] _ => decide (y = "range") && (glB c.sc "range" && (decide (("range" : Str) ∈ c.S.fre) && (nstar x && a.ck c x)))
    | _ => false
  ok := fun {k R X W c tg e} h G => by
    split at h
    · obtain ⟨h1, h⟩ := He.ba h
      obtain ⟨h2, h⟩ := He.ba h
      obtain ⟨h3, h⟩ := He.ba h
      obtain ⟨h4, h5⟩ := He.ba h
      obtain rfl := of_decide_eq_true h1
      exact i_range1 (G.free h3) (a_cons (a.ok h5 G) a_nil (star_cons h4)) (G.gl h2).1 (star_cons h4)
    · cases h
def iRg2 (a b : ZE) : ZI where
  d := fun R => iR2 (dCons (a.d R) (dCons (b.d R) dNil))
  ck := fun c _ e => match e with
    | .Call (.Name y _) [x, z] [] _ => decide (y = "range") && (glB c.sc "range" && (decide (("range" : Str) ∈ c.S.fre) && (nstar x && (nstar z && (a.ck c x && b.ck c z)))))
    | _ => false
  ok := fun {k R X W c tg e} h G => by
    split at h
    · obtain ⟨h1, h⟩ := He.ba h
      obtain ⟨h2, h⟩ := He.ba h
      obtain ⟨h3, h⟩ := He.ba h
      obtain ⟨h4, h⟩ := He.ba h
      obtain ⟨h5, h⟩ := He.ba h
      obtain ⟨h6, h7⟩ := He.ba h
      obtain rfl := of_decide_eq_true h1
      refine i_range2 (G.free h3) (a_cons (a.ok h6 G) (a_cons (b.ok h7 G) a_nil (star_cons h5)) (star_cons h4)) (G.gl h2).1 ?_ (star_cons h5)
      rw [star_cons h4, star_cons h5] <;> rfl
    · cases h
/-! ## comprehensions -/
def Cc.blk (c : Cc) (scope : Scope) : Cc := { c with sc := relS scope c.sc, fn := fun x => scope.names.lookup x == some .cell }
/-- the block of a comprehension -/
theorem Good.blk {k : Nat} {R : Rt} {X : Cx} {W : WX} {c : Cc} (G : Good k R X W c) (hc : c.cm = true) (s : Shared) (H : Hp) (scope : Scope) (C : Addr) (cl : List (Str × Addr)) (fp : List Addr) :
    Good k R (X.blk s H scope (compEnvC scope cl C X.env) fp) Wno (c.blk scope) where
  prog := G.prog
  N := G.N
  sc := by
    show relS scope X.env.scope = _
    rw [G.sc] <;> rfl
  nd := G.nd
  fn := fun x h => h
  md := .inl (G.calm hc)
  tk := takes_no
  rm := G.rm
  fa := G.fa
  pr := G.pr
  ph := G.ph
  qo := ⟨G.qo.ka, G.qo.calm, G.qo.ok⟩
  xi := fun a dd cl e => by
    obtain ⟨X0, oe, pn, d, hX, _⟩ := G.xi a dd cl e
    have h1 := G.calm hc
    rw [hX] at h1
    cases h1
/-- the tests of a comprehension -/
structure ZTs where
  d : Rt → DT
  ck : Cc → List Expr → Bool
  ok : ∀ {k : Nat} {R : Rt} {X : Cx} {W : WX} {c : Cc} {e : List Expr}, ck c e = true → Good k R X W c → TsJ X W e (d R)
def tsNil : ZTs where
  d := fun _ => dYes
  ck := fun _ e => match e with
    | [] => true
    | _ => false
  ok := fun {k R X W c e} h G => by
    cases e with
    | nil => exact ts_nil
    | cons _ _ => exact ff h rfl
def tsOne (t : ZT) : ZTs where
  d := fun R => t.d R
  ck := fun c e => match e with
    | [x] => t.ck c x
    | _ => false
  ok := fun {k R X W c e} h G => by
    split at h
    · exact ts_one (t.ok h G)
    · cases h
def ownN (N : List Str) (own : List Nat) : List (Str × Nat) := own.map fun i => (N.getD i Str.empty, i)
theorem ownN_ix {N : List Str} {own : List Nat} : (ownN N own).map (·.2) = own := by
  unfold ownN
  rw [List.map_map]
  exact List.map_id own
/-- [e for t in i if ..]; own: the slots of the block -/
def zComp (t : Tg) (own : List Nat) (i : ZI) (ts : ZTs) (a : ZE) : ZL where
  d := fun R => lComp t own (i.d R) (ts.d R) (a.d R)
  ck := fun c e => match e with
    | .ListComp elt [⟨tg, iter, ifs, as⟩] scope _ => decide (as = 0) && (c.cm && (blkC c.N c.sc scope (ownN c.N own) && (decide (∀ j ∈ t.idx, j ∈ own) && (noSet iter && (i.ck c tg iter && (tgCk (c.blk scope) t tg && (ts.ck (c.blk scope) ifs && a.ck (c.blk scope) elt)))))))
    | _ => false
  ok := fun {k R X W c e} h G => by
    split at h
    · rename_i elt tg iter ifs as scope pos
      obtain ⟨h0, h⟩ := He.ba h
      obtain ⟨h1, h⟩ := He.ba h
      obtain ⟨h2, h⟩ := He.ba h
      obtain ⟨h3, h⟩ := He.ba h
      obtain ⟨h4, h⟩ := He.ba h
      obtain ⟨h5, h⟩ := He.ba h
      obtain ⟨h6, h⟩ := He.ba h
      obtain ⟨h7, h8⟩ := He.ba h
      obtain rfl := of_decide_eq_true h0
      have bo : BlkOk X.N X.env.scope scope (ownN c.N own) := by rw [G.N, G.sc]; exact blkOk_by h2
      have r := l_comp (t := t) (own := ownN c.N own) (pos := pos) (G.calm h1) G.nd (i.ok (tg := tg) h5 G) bo (fun s H C cl fp => (G.blk h1 s H scope C cl fp).tg h6) (fun s H C cl fp => ts.ok h7 (G.blk h1 s H scope C cl fp)) (fun s H C cl fp => a.ok h8 (G.blk h1 s H scope C cl fp))
        (by rw [ownN_ix]; exact of_decide_eq_true h3) (fold_of h4)
      rw [ownN_ix] at r
      exact r
    · cases h
/-! ## statements -/
structure GoodS (k : Nat) (R : Rt) (X : Cx) (W : WX) (c : Cc) : Prop extends Good k R X W c where
  own : c.cm = true → PassesOwn (model X.prog X.w) X.A X.env X.xe
  st : X.stack = X.env :: X.outer
  fr : X.env.frame = some X.env.locals
structure ZS where
  d : Rt → DS
  ck : Cc → Stmt → Bool
  ok : ∀ {k : Nat} {R : Rt} {X : Cx} {W : WX} {c : Cc} {e : Stmt}, ck c e = true → GoodS k R X W c → SJ X W e (d R)
structure ZB where
  d : Rt → DS
  ck : Cc → List Stmt → Bool
  ok : ∀ {k : Nat} {R : Rt} {X : Cx} {W : WX} {c : Cc} {e : List Stmt}, ck c e = true → GoodS k R X W c → BJ X W e (d R)
def bNil : ZB where
  d := fun _ => dNext
  ck := fun _ e => match e with
    | [] => true
    | _ => false
  ok := fun {k R X W c e} h G => by
    cases e with
    | nil => exact b_nil
    | cons _ _ => exact ff h rfl
def bOne (s : ZS) : ZB where
  d := fun R => s.d R
  ck := fun c e => match e with
    | [x] => s.ck c x
    | _ => false
  ok := fun {k R X W c e} h G => by
    split at h
    · exact b_one (s.ok h G)
    · cases h
def bCons (s : ZS) (b : ZB) : ZB where
  d := fun R => dSeq (s.d R) (b.d R)
  ck := fun c e => match e with
    | x :: xs => s.ck c x && b.ck c xs
    | [] => false
  ok := fun {k R X W c e} h G => by
    cases e with
    | nil => exact ff h rfl
    | cons x xs =>
      obtain ⟨h1, h2⟩ := He.ba h
      exact b_cons (s.ok h1 G) (b.ok h2 G)
def sPass : ZS where
  d := fun _ => dNext
  ck := fun _ e => match e with
    | .Pass _ => true
    | .Expr (.Constant (.str _) _ _) _ => true
    | _ => false
  ok := fun {k R X W c e} h G => by
    split at h
    · exact s_pass
    · exact s_doc
    · cases h
def sCont : ZS where
  d := fun _ => dCont
  ck := fun _ e => match e with
    | .Continue _ => true
    | _ => false
  ok := fun {k R X W c e} h G => by
    split at h
    · exact s_continue
    · cases h
def sRet (a : ZE) : ZS where
  d := fun R => dRet (a.d R)
  ck := fun c e => match e with
    | .Return (some x) _ => a.ck c x
    | _ => false
  ok := fun {k R X W c e} h G => by
    split at h
    · exact s_ret (a.ok h G.toGood)
    · cases h
def sExpr (a : ZE) : ZS where
  d := fun R => dDrop (a.d R)
  ck := fun c e => match e with
    | .Expr x _ => noComp x && a.ck c x
    | _ => false
  ok := fun {k R X W c e} h G => by
    cases e with
    | Expr x p =>
      obtain ⟨h1, h2⟩ := He.ba h
      exact s_expr (a.ok h2 G.toGood) (swaps_of h1)
    | _ => exact ff h rfl
def sSet (i : Nat) (a : ZE) : ZS where
  d := fun R => dSet i (a.d R)
  ck := fun c e => match e with
    | .Assign [.Name x _] y _ => decide (c.N[i]? = some x) && (locF c x && (noComp y && a.ck c y))
    | _ => false
  ok := fun {k R X W c e} h G => by
    split at h
    · obtain ⟨h1, h⟩ := He.ba h
      obtain ⟨h2, h⟩ := He.ba h
      obtain ⟨h3, h4⟩ := He.ba h
      exact s_set i (a.ok h4 G.toGood) G.nd (by rw [G.N]; exact of_decide_eq_true h1) (G.loc h2).1 (swaps_of h3) (G.loc h2).2
    · cases h
/-- x = [comprehension]: stored within the comprehension's frame; swapB: so it is -/
def swapB (c : Cc) (x : Str) (p : Pos) (scope : Scope) (vpos : Pos) : Bool := decide (c.sc.kind = .function) && (decide (c.sc.names.lookup x = some .local) && ((p.line == vpos.line) && !(scope.names.any fun (n, k) => n == x && (k == .local || k == .cell))))
theorem swap_ok {k : Nat} {R : Rt} {X : Cx} {W : WX} {c : Cc} (G : Good k R X W c) {x : Str} {p vpos : Pos} {scope : Scope} {elt : Expr} {gs : List Comprehension} {l : Nat} (h : swapB c x p scope vpos = true) : swapsWith (.ListComp elt gs scope vpos) (some (.Name x p)) l X.env = pure true := by
  obtain ⟨h0, h⟩ := He.ba h
  obtain ⟨h1, h⟩ := He.ba h
  obtain ⟨h2, h3⟩ := He.ba h
  have hb : X.env.blockKind = .function := by
    unfold Env.blockKind
    rw [G.sc, of_decide_eq_true h0] <;> rfl
  have h1 : X.env.kindOf x = some .local := by
    show X.env.scope.names.lookup x = some .local
    rw [G.sc]; exact of_decide_eq_true h1
  show (pure (X.env.blockKind == .function && X.env.kindOf x == some .local && p.line == vpos.line && !(scope.names.any fun (n, k) => n == x && (k == .local || k == .cell))) : Sem Bool) = pure true
  rw [hb, h1, h2, h3] <;> rfl
/-- x = [e for ..], never changed (fz) or not -/
def sSetL (i : Nat) (fz : Bool) (t : Tg) (own : List Nat) (it : ZI) (ts : ZTs) (a : ZE) : ZS where
  d := fun R => dSet i (match fz with
    | true => dLst (lComp t own (it.d R) (ts.d R) (a.d R))
    | false => dNew (lComp t own (it.d R) (ts.d R) (a.d R)))
  ck := fun c e => match e with
    | .Assign [.Name x p] (.ListComp elt [⟨tg, iter, ifs, as⟩] scope vpos) _ => decide (c.N[i]? = some x) && (swapB c x p scope vpos && (decide (as = 0) && (c.cm && (blkC c.N c.sc scope (ownN c.N own) && (decide (∀ j ∈ t.idx, j ∈ own) && (noSet iter && (it.ck c tg iter && (tgCk (c.blk scope) t tg && (ts.ck (c.blk scope) ifs && a.ck (c.blk scope) elt)))))))))
    | _ => false
  ok := fun {k R X W c e} h G => by
    split at h
    · rename_i x p elt tg iter ifs as scope vpos spos
      obtain ⟨g1, h⟩ := He.ba h
      obtain ⟨g2, h⟩ := He.ba h
      obtain ⟨h0, h⟩ := He.ba h
      obtain ⟨h1, h⟩ := He.ba h
      obtain ⟨h2, h⟩ := He.ba h
      obtain ⟨h3, h⟩ := He.ba h
      obtain ⟨h4, h⟩ := He.ba h
      obtain ⟨h5, h⟩ := He.ba h
      obtain ⟨h6, h⟩ := He.ba h
      obtain ⟨h7, h8⟩ := He.ba h
      obtain rfl := of_decide_eq_true h0
      have G0 := G.toGood
      have bo : BlkOk X.N X.env.scope scope (ownN c.N own) := by rw [G.N, G.sc]; exact blkOk_by h2
      have hl : X.env.scope.names.lookup x = some .local := by rw [G.sc]; exact of_decide_eq_true (He.ba (He.ba g2).2).1
      cases fz with
      | true =>
        have r := s_setLN (t := t) (own := ownN c.N own) (spos := spos) i (G0.calm h1) G.nd (swap_ok G0 g2) (it.ok (tg := tg) h5 G0) bo (fun s H C cl fp => (G0.blk h1 s H scope C cl fp).tg h6) (fun s H C cl fp => ts.ok h7 (G0.blk h1 s H scope C cl fp)) (fun s H C cl fp => a.ok h8 (G0.blk h1 s H scope C cl fp))
          (by rw [ownN_ix]; exact of_decide_eq_true h3) (by rw [G.N]; exact of_decide_eq_true g1) hl (fold_of h4)
        rw [ownN_ix] at r
        exact r
      | false =>
        have r := s_setLC (t := t) (own := ownN c.N own) (spos := spos) i (G0.calm h1) G.nd (swap_ok G0 g2) (it.ok (tg := tg) h5 G0) bo (fun s H C cl fp => (G0.blk h1 s H scope C cl fp).tg h6) (fun s H C cl fp => ts.ok h7 (G0.blk h1 s H scope C cl fp)) (fun s H C cl fp => a.ok h8 (G0.blk h1 s H scope C cl fp))
          (by rw [ownN_ix]; exact of_decide_eq_true h3) (by rw [G.N]; exact of_decide_eq_true g1) hl (fold_of h4)
        rw [ownN_ix] at r
        exact r
    · cases h
def sAttr (f : Str) (o a : ZE) : ZS where
  d := fun R => dAttrSet f (o.d R) (a.d R)
  ck := fun c e => match e with
    | .Assign [.Attribute x y _] z _ => decide (y = f) && (o.ck c x && (noComp z && a.ck c z))
    | _ => false
  ok := fun {k R X W c e} h G => by
    split at h
    · obtain ⟨h1, h⟩ := He.ba h
      obtain ⟨h2, h⟩ := He.ba h
      obtain ⟨h3, h4⟩ := He.ba h
      obtain rfl := of_decide_eq_true h1
      exact s_attr (o.ok h2 G.toGood) (a.ok h4 G.toGood) (swaps_of h3)
    · cases h
def sIf (t : ZT) (a b : ZB) : ZS where
  d := fun R => dIfS (t.d R) (a.d R) (b.d R)
  ck := fun c e => match e with
    | .If x y z _ => t.ck c x && (a.ck c y && b.ck c z)
    | _ => false
  ok := fun {k R X W c e} h G => by
    cases e with
    | If x y z p =>
      obtain ⟨h1, h⟩ := He.ba h
      obtain ⟨h2, h3⟩ := He.ba h
      exact s_if (t.ok h1 G.toGood) (a.ok h2 G) (b.ok h3 G)
    | _ => exact ff h rfl
def sFor (t : Tg) (i : ZI) (b : ZB) : ZS where
  d := fun R => dFor t (i.d R) (b.d R)
  ck := fun c e => match e with
    | .For tg iter body [] _ => c.cm && (noSet iter && (i.ck c tg iter && (tgCk c t tg && b.ck c body)))
    | _ => false
  ok := fun {k R X W c e} h G => by
    split at h
    · obtain ⟨h1, h⟩ := He.ba h
      obtain ⟨h2, h⟩ := He.ba h
      obtain ⟨h3, h⟩ := He.ba h
      obtain ⟨h4, h5⟩ := He.ba h
      exact s_for (G.own h1) (G.calm h1) (i.ok h3 G.toGood) (G.tg h4) (b.ok h5 G) (fold_of h2)
    · cases h
/-- raise C(e), C with one field -/
def sRaise (cl : Cl) (f : Str) (a : ZA) : ZS where
  d := fun R => dRaise cl (a.d R)
  ck := fun c e => match e with
    | .Raise (some (.Call (.Name y _) [x] [] _)) none _ => decide (y = cl.name) && (glB c.sc y && (decide ((cl, f) ∈ c.S.er) && (decide (cl ∈ c.S.xs) && (decide (("super" : Str) ∈ c.S.fre) && (c.cm && (nstar x && a.ck c [x]))))))
    | _ => false
  ok := fun {k R X W c e} h G => by
    split at h
    · obtain ⟨h1, h⟩ := He.ba h
      obtain ⟨h2, h⟩ := He.ba h
      obtain ⟨h3, h⟩ := He.ba h
      obtain ⟨h4, h⟩ := He.ba h
      obtain ⟨h5, h⟩ := He.ba h
      obtain ⟨h6, h⟩ := He.ba h
      obtain ⟨h7, h8⟩ := He.ba h
      obtain rfl := of_decide_eq_true h1
      have h4 := of_decide_eq_true h4
      obtain ⟨g1, g2, _⟩ := G.gl h2
      obtain ⟨f1, fI, f2⟩ := G.fa.er _ (of_decide_eq_true h3)
      rw [← G.prog] at f2
      exact s_raise f1 (G.fa.xc cl h4) f2 (G.fa.cn cl (List.mem_append_right _ h4)) (G.free h5) G.rm0 (G.calm h6) G.tk (a.ok h8 G.toGood) g1 g2 (star_cons h7) rfl
    · cases h
/-- try: .. except C as x: .. -/
def sTry (cl : Cl) (i : Nat) (b s : ZB) : ZS where
  d := fun R => dTry cl i (b.d R) (fun a dd c => s.d { R with L := R.LH, Q := [], xi := some (a, dd, c) })
  ck := fun c e => match e with
    | .Try body [.ExceptHandler (some (.Name y _)) (some n) (b0 :: suite) _] [] [] _ => decide (y = cl.name) && (glB c.sc y && (decide (cl ∈ c.S.xs) && (c.cm && (decide (c.N[i]? = some n) && (decide (c.sc.names.lookup n = some .local) && (b.ck c body && s.ck { c with cm := false } (b0 :: suite)))))))
    | _ => false
  ok := fun {k R X W c e} h G => by
    split at h
    · rename_i body y np n b0 suite pos' pos
      obtain ⟨h1, h⟩ := He.ba h
      obtain ⟨h2, h⟩ := He.ba h
      obtain ⟨h3, h⟩ := He.ba h
      obtain ⟨h4, h⟩ := He.ba h
      obtain ⟨h5, h⟩ := He.ba h
      obtain ⟨h6, h⟩ := He.ba h
      obtain ⟨h7, h8⟩ := He.ba h
      obtain rfl := of_decide_eq_true h1
      have h3 := of_decide_eq_true h3
      obtain ⟨g1, g2, _⟩ := G.gl h2
      refine s_try (i := i) (n := n) (b0 := b0) (suite := suite) G.fa.ka (G.fa.xc cl h3) (G.fa.cn cl (List.mem_append_right _ h3)) G.nd G.tk (fun W' pn xe tk po => ?_) (fun a oe d pn c2 dd hc hs hz hv hx => ?_) (by rw [G.N]; exact of_decide_eq_true h5) ?_ G.st G.fr g1 g2
      · exact b.ok h7 ⟨⟨G.prog, G.N, G.sc, G.nd, G.fn, .inl (G.calm h4), tk, G.rm, G.fa, G.pr, G.ph, ⟨G.qo.ka, G.qo.calm, G.qo.ok⟩, fun a dd c2 e => by
          obtain ⟨X0, oe, pn, d, hX, _⟩ := G.xi a dd c2 e
          have z := G.calm h4
          rw [hX] at z
          cases z⟩, fun _ => po, G.st, G.fr⟩
      · exact s.ok h8 ⟨⟨G.prog, G.N, G.sc, G.nd, G.fn, suite_md hz hv, suite_tk, suite_rm G.rm, G.fa, G.ph, G.ph, ⟨G.qo.ka, fun z => absurd rfl z, fun _ _ z => (nomatch z)⟩, fun a' dd' c' e => by
          cases e
          exact ⟨X, oe, pn, d, rfl, rfl, hc, hz, hv, hx⟩⟩, fun z => (by cases z), G.st, G.fr⟩
      · show X.env.scope.names.lookup n = some .local
        rw [G.sc]
        exact of_decide_eq_true h6
    · cases h
end Px

namespace Px
open PySem PySem.Spec PyProof.Rows L2
/-! ## the facts of a text, by one check -/
def Stt.msB (S : Stt) (K : Frg) (p : Cl × Nat) : Bool := (He.Fa.meth p.1.name (S.nm p.2)).ok K && (PySem.W.fnIn K (He.ma K (ca K p.1) (S.nm p.2)) && (PySem.W.selfFirst K (ca K p.1) && (!decide (S.nm p.2 ∈ p.1.flds) && decide (p.1 ∈ S.hs))))
def Stt.cvB (K : Frg) (p : Cl × Str × Kst) : Bool := match p.2.2 with
  | .int i => Px.cvB K p.1 p.2.1 i
  | .txs zs => cvTB K p.1 p.2.1 zs
  | .str _ => false
def Stt.gcB (K : Frg) (p : Str × Kst) : Bool := match p.2 with
  | .int i => (He.Fa.int p.1 i).ok K
  | .str z => (He.Fa.str p.1 z).ok K
  | .txs _ => false
def Stt.fas (S : Stt) : List He.Fa := S.fre.map .free ++ ((S.hs ++ S.xs).map (fun c => .glo c.name) ++ (S.gl.map (fun i => .glo (S.nm i)) ++ (S.gl.map (fun i => .keep (S.nm i)) ++ S.mks.map fun c => .mkr c.name)))
def Stt.more (S : Stt) (K : Frg) : Bool := (S.cms.all fun p => cmB K p.1 (S.nm p.2) && decide (p.1 ∈ S.hs)) && (S.ms.all (S.msB K) && ((S.sa.all fun p => decide (He.ma K (ca K p.1) (S.nm p.2.2) = He.ma K (ca K p.2.1) (S.nm p.2.2))) && (S.cv.all (Stt.cvB K) && (S.gc.all (Stt.gcB K) && ((S.mks.all fun c => decide (c ∈ S.hs)) && S.prs.all fun p => prB K p.1 (S.nm p.2) && (!decide (S.nm p.2 ∈ p.1.flds) && decide (p.1 ∈ S.hs)))))) && ((!S.isx || isxB K S.hs S.xs) && S.ow.all (owB K)))
def Stt.want (S : Stt) (fn : List DefP) (er : List ErrD) (su : List SupD) (more : Frg → Bool) : Want := { n := 5, file := S.P.main.file, fa := S.fas, hs := S.hs, xs := S.xs, more := fun K => S.more K && more K, fn := fn, er := er, su := su }
section
variable {S : Stt} {fn : List DefP} {er : List ErrD} {su : List SupD} {mo : Frg → Bool} {K : Frg} {mg : Str → Option Value} {base : Heap}
theorem Says.fa_ (c : Says (S.want fn er su mo) K) {f : He.Fa} (h : f ∈ S.fas) : f.ok K = true := List.all_eq_true.mp (He.ba c.ok).1 f h
theorem Says.facts (c : Says (S.want fn er su mo) K) (kin : K.In base) (ns : base.Ns mainGlobals mg) (her : ∀ p ∈ S.er, p.1.flds = [p.2] ∧ ∃ fI, ErrF S.P K (ca K p.1) fI p.2) : Facts S K mg := by
  have m : (S.more K && mo K) = true := c.more
  obtain ⟨m, _⟩ := He.ba m
  obtain ⟨m1, m⟩ := He.ba m
  obtain ⟨m, m8⟩ := He.ba m
  obtain ⟨m8, m9⟩ := He.ba m8
  obtain ⟨m2, m⟩ := He.ba m
  obtain ⟨m3, m⟩ := He.ba m
  obtain ⟨m4, m⟩ := He.ba m
  obtain ⟨m5, m⟩ := He.ba m
  obtain ⟨m6, m7⟩ := He.ba m
  have kc : ∀ c ∈ S.hs, kcB K c = true := fun d h => c.kc h
  have cn : ∀ d ∈ S.hs ++ S.xs, mg d.name = some (.ref (ca K d)) := fun d h => He.glo_ok kin ns (c.fa_ (by
    unfold Stt.fas
    exact List.mem_append_right _ (List.mem_append_left _ (List.mem_map.mpr ⟨d, h, rfl⟩))))
  refine ⟨fun x h => ?_, c.ka, kc, fun d h => c.xc h, cn, fun i h => ⟨?_, ?_⟩, fun p h => ?_, fun d h => ?_, fun p h => ?_, fun p h => ?_, her, fun p h => ?_, fun p h => ?_, fun p h => ?_, fun hi => ?_, fun c h => List.all_eq_true.mp m9 c h⟩
  · exact He.free_ok kin ns (c.fa_ (by unfold Stt.fas; exact List.mem_append_left _ (List.mem_map.mpr ⟨x, h, rfl⟩)))
  · exact He.glo_ok kin ns (c.fa_ (by unfold Stt.fas; exact List.mem_append_right _ (List.mem_append_right _ (List.mem_append_left _ (List.mem_map.mpr ⟨i, h, rfl⟩)))))
  · exact c.fa_ (f := .keep (S.nm i)) (by unfold Stt.fas; exact List.mem_append_right _ (List.mem_append_right _ (List.mem_append_right _ (List.mem_append_left _ (List.mem_map.mpr ⟨i, h, rfl⟩)))))
  · obtain ⟨a, b⟩ := He.ba (List.all_eq_true.mp m1 p h)
    refine ⟨?_, cmB_ok a⟩
    unfold knB
    rw [kc _ (of_decide_eq_true b)] <;> rfl
  · have hd := of_decide_eq_true (List.all_eq_true.mp m6 d h)
    exact ⟨kc d hd, cn d (List.mem_append_left _ hd), He.mkr_ok (c.fa_ (by unfold Stt.fas; exact List.mem_append_right _ (List.mem_append_right _ (List.mem_append_right _ (List.mem_append_right _ (List.mem_map.mpr ⟨d, h, rfl⟩))))))⟩
  · obtain ⟨a1, a⟩ := He.ba (List.all_eq_true.mp m2 p h)
    obtain ⟨a2, a⟩ := He.ba a
    obtain ⟨a3, a⟩ := He.ba a
    obtain ⟨a4, a5⟩ := He.ba a
    exact ⟨by simpa using a4, kc _ (of_decide_eq_true a5), He.meth_ok a1, a2, a3⟩
  · exact of_decide_eq_true (List.all_eq_true.mp m3 p h)
  · have a := List.all_eq_true.mp m4 p h
    obtain ⟨d, f, v⟩ := p
    cases v with
    | int i =>
      obtain ⟨r, u, v⟩ := cvB_ok (show Px.cvB K d f i = true from a)
      exact ⟨.int i, u, r, v, fun _ _ => rep_int i⟩
    | txs zs =>
      obtain ⟨r, a, ⟨u, v⟩, rp⟩ := cvTB_ok (show cvTB K d f zs = true from a)
      exact ⟨.ref a, u, r, v, rp⟩
    | str z => cases a
  · have a := List.all_eq_true.mp m5 p h
    obtain ⟨x, v⟩ := p
    cases v with
    | int i =>
      obtain ⟨t, e⟩ := He.int_ok kin ns (show (He.Fa.int x i).ok K = true from a)
      exact ⟨.int i, _, e, ⟨t, rfl⟩, fun _ _ => rep_int i⟩
    | str z =>
      obtain ⟨t, e⟩ := He.str_ok kin ns (show (He.Fa.str x z).ok K = true from a)
      exact ⟨.str z, _, e, ⟨t, rfl⟩, fun _ _ => rep_str z⟩
    | txs zs => cases a
  · obtain ⟨a1, a⟩ := He.ba (List.all_eq_true.mp m7 p h)
    obtain ⟨a2, a3⟩ := He.ba a
    exact ⟨by simpa using a2, kc _ (of_decide_eq_true a3), prB_ok a1⟩
  · rw [hi] at m8
    have q1 := (He.ba (He.ba (He.ba c.ok).2).1).1
    refine isxB_ok (fun d hd => ?_) (fun d hd => ?_) (by simpa using m8)
    · have := (He.ba (List.all_eq_true.mp q1 d (allCl_mem d))).1
      rw [hd] at this
      have : d ∈ (S.want fn er su mo).hs := by simpa using this
      exact this
    · have := (He.ba (List.all_eq_true.mp q1 d (allCl_mem d))).2
      rw [hd] at this
      have : d ∈ (S.want fn er su mo).xs := by simpa using this
      exact this
end
/-! ## promises -/
section
variable (S : Stt) (hot : Bool) (P : Program) (w : World) (K : Frg) (mg : Str → Option Value) (base : Heap) (k : Nat)
def AllP : Tbl → Prop
  | [] => True
  | (F, ct) :: r => PromOk S hot P w K mg base k F ct ∧ AllP r
theorem AllP.mem : ∀ {L : Tbl}, AllP S hot P w K mg base k L → ∀ F ct, (F, ct) ∈ L → PromOk S hot P w K mg base k F ct
  | [], _, F, ct, h => by cases h
  | (F0, ct0) :: r, ⟨p, q⟩, F, ct, h => by
    rcases List.mem_cons.mp h with e | e
    · cases e; exact p
    · exact AllP.mem q F ct e
end
section
variable {S : Stt} {hot : Bool} {P : Program} {w : World} {K : Frg} {mg : Str → Option Value} {base : Heap} {k : Nat}
theorem prom_m {c : Cl} {x : Nat} {ks : List Nat} {ct : Ct} (fa : Facts S K mg) (h : (c, x) ∈ S.ms) (F : FnS hot P w K mg base k (He.ma K (ca K c) (S.nm x)) (ks.map S.nm) (spP K ct)) : PromOk S hot P w K mg base k (.m c x ks) ct := by
  obtain ⟨h1, h2, h3, h4, h5⟩ := fa.ms _ h
  exact ⟨h1, h2, h3, h4, h5, F⟩
theorem prom_p {c : Cl} {x : Nat} {ks : List Nat} {ct : Ct} (fa : Facts S K mg) (h : (c, x) ∈ S.prs) (F : FnS hot P w K mg base k (prFn K (ca K c) (S.nm x)) (ks.map S.nm) (spP K ct)) : PromOk S hot P w K mg base k (.p c x ks) ct := by
  obtain ⟨h1, h2, h3⟩ := fa.prs _ h
  exact ⟨h1, h2, h3, F⟩
/-- an inherited method -/
theorem prom_i {c d : Cl} {x : Nat} {ks : List Nat} {ct : Ct} (fa : Facts S K mg) (h : (c, x) ∈ S.ms) (hs : (c, d, x) ∈ S.sa) (F : FnS hot P w K mg base k (He.ma K (ca K d) (S.nm x)) (ks.map S.nm) (spP K ct)) : PromOk S hot P w K mg base k (.m c x ks) ct :=
  prom_m fa h (by have e := fa.sa _ hs; rw [show He.ma K (ca K c) (S.nm x) = He.ma K (ca K d) (S.nm x) from e]; exact F)
/-- a stronger promise -/
theorem FnS.imp {f : Addr} {ks : List Str} {c c' : Ct} (F : FnS hot P w K mg base k f ks (spP K c)) (i : ∀ as μ q x, c' as μ q x → c as μ q x) : FnS hot P w K mg base k f ks (spP K c') := fun A outer s H us ws vs Q E hm hr e0 hl r ⟨B, μ, G, as, q, z, o, rr, hc, hq⟩ =>
  F A outer s H us ws vs Q E hm hr e0 hl r ⟨B, μ, G, as, q, z, o, rr, i _ _ _ _ hc, hq⟩
end
section
variable {S : Stt} {hot : Bool} {P : Program} {w : World} {K : Frg} {mg : Str → Option Value} {base : Heap} {k : Nat}
theorem AllP.nil : AllP S hot P w K mg base k [] := trivial
theorem AllP.cons {F : Fid} {ct : Ct} {r : Tbl} (p : PromOk S hot P w K mg base k F ct) (q : AllP S hot P w K mg base k r) : AllP S hot P w K mg base k ((F, ct) :: r) := ⟨p, q⟩
def AllE (S : Stt) (K : Frg) : List (Cl × Str) → Prop
  | [] => True
  | p :: r => (p.1.flds = [p.2] ∧ ∃ fI, ErrF S.P K (ca K p.1) fI p.2) ∧ AllE S K r
theorem AllE.nil : AllE S K [] := trivial
theorem AllE.cons {p : Cl × Str} {r : List (Cl × Str)} {fI : Addr} (h : p.1.flds = [p.2]) (e : ErrF S.P K (ca K p.1) fI p.2) (q : AllE S K r) : AllE S K (p :: r) := ⟨⟨h, fI, e⟩, q⟩
theorem AllE.mem : ∀ {l : List (Cl × Str)}, AllE S K l → ∀ p ∈ l, p.1.flds = [p.2] ∧ ∃ fI, ErrF S.P K (ca K p.1) fI p.2
  | [], _, p, h => by cases h
  | _ :: r, ⟨a, b⟩, p, h => by
    rcases List.mem_cons.mp h with e | e
    · rw [e]; exact a
    · exact AllE.mem b p e
end
/-! ## the own == of classes -/
section
variable (P : Program) (w : World) (K : Frg) (mg : Str → Option Value) (base : Heap) (k : Nat)
def AllQ : Qt → Prop
  | [] => True
  | (c, f) :: r => (SameO c f ∧ kcB K c = true ∧ Meth K (ca K c) "__eq__" (He.ma K (ca K c) "__eq__") ∧ FnS false P w K mg base k (He.ma K (ca K c) "__eq__") [] (spP K (cEq c f))) ∧ AllQ r
end
section
variable {S : Stt} {P : Program} {w : World} {K : Frg} {mg : Str → Option Value} {base : Heap} {k : Nat}
theorem AllQ.nil : AllQ P w K mg base k [] := trivial
theorem AllQ.cons {c : Cl} {f : Qf} {r : Qt} (fa : Facts S K mg) (hm : (c, 9) ∈ S.ms) (sm : SameO c f) (F : FnS false P w K mg base k (He.ma K (ca K c) "__eq__") [] (spP K (cEq c f))) (q : AllQ P w K mg base k r) : AllQ P w K mg base k ((c, f) :: r) := by
  obtain ⟨_, h2, h3, _, _⟩ := fa.ms _ hm
  exact ⟨⟨sm, h2, h3, F⟩, q⟩
theorem AllQ.mem : ∀ {Q : Qt}, AllQ P w K mg base k Q → ∀ c f, (c, f) ∈ Q → SameO c f ∧ kcB K c = true ∧ ∃ g, Meth K (ca K c) "__eq__" g ∧ FnS false P w K mg base k g [] (spP K (cEq c f))
  | [], _, c, f, h => by cases h
  | (c0, f0) :: r, ⟨⟨a1, a2, a3, a4⟩, q⟩, c, f, h => by
    rcases List.mem_cons.mp h with e | e
    · cases e; exact ⟨a1, a2, _, a3, a4⟩
    · exact AllQ.mem q c f e
end
/-! ## a def by its bundle -/
section
variable {S : Stt} {w : World} {K : Frg} {mg : Str → Option Value} {base : Heap} {x qual : Str} {params : Arguments} {body : List Stmt} {scope : Scope} {dvs : List V} {kws : List (Str × V)} {f : Addr} {fd : FuncData} {N ps : List Str} {k : Nat} {b : ZB} {L LH : Tbl} {Q : Qt} {c : Ct}
theorem goodS_of {hot cm : Bool} {pn : List (Addr × Obj)} {cd : Value} {A : Around} {outer : List Env} {s : Shared} {H : Hp} {E : XK} (fa : Facts S K mg) (nd : N.Nodup) (he : Here hot (cxG cm pn S.P w K mg base N qual scope f cd A outer s H E) (fun cls dd _ H' => E cls dd H') (k + 2))
    (pr : AllP S hot S.P w K mg base k L) (ph : AllP S true S.P w K mg base k LH) (hq : Q ≠ [] → hot = false) (pq : AllQ S.P w K mg base k Q) : GoodS k { L := L, LH := LH, Q := Q } (cxG cm pn S.P w K mg base N qual scope f cd A outer s H E) (fun cls dd _ H' => E cls dd H') { S := S, N := N, sc := scope, cm := !hot } :=
  ⟨⟨rfl, rfl, rfl, nd, fun _ _ => rfl, by show Md _ (!!hot); rw [Bool.not_not]; exact he.md, he.tk, he.rm, fa, by show ∀ F ct, _ → PromOk S (!!hot) _ _ _ _ _ _ _ _; rw [Bool.not_not]; exact AllP.mem _ _ _ _ _ _ _ _ pr, AllP.mem _ _ _ _ _ _ _ _ ph, ⟨fa.ka, fun z => he.md.elim (fun q => q) (fun q => absurd q.1 (by rw [hq z]; decide)), AllQ.mem pq⟩, fun _ _ _ e => by cases e⟩, fun _ => he.own, rfl, rfl⟩
theorem fn_z (hot : Bool) (fa : Facts S K mg) (Fn : FunD K x qual params body scope dvs kws f fd) (Sc : FnScope N ps scope) (ck : b.ck { S := S, N := N, sc := scope, cm := !hot } body = true) (pr : AllP S hot S.P w K mg base k L) (ph : AllP S true S.P w K mg base k LH) (hq : Q ≠ [] → hot = false) (pq : AllQ S.P w K mg base k Q)
    (len : ∀ as μ q z, c as μ q z → as.length = ps.length) (pure_ : ∀ as μ q z, c as μ q z → b.d { L := L, LH := LH, Q := Q } (endsOf q z) (startE N.length as) μ) : FnO hot S.P w K mg base (k + 3) f fd ps (spP K c) :=
  fn_p hot Fn Sc c _ len (fun cm pn cd A outer s H E hcm he => b.ok ck (goodS_of fa Sc.nd he pr ph hq pq)) pure_
theorem fn_zs {qs : List Str} {pv : Str} (fa : Facts S K mg) (Fn : FunD K x qual params body scope [] kws f fd) (Sc : FnScope N (qs ++ [pv]) scope) (ck : b.ck { S := S, N := N, sc := scope, cm := true } body = true) (pr : AllP S false S.P w K mg base k L) (ph : AllP S true S.P w K mg base k LH) (pq : AllQ S.P w K mg base k Q)
    (hb : ∀ (kV doc pm : Value) (an : Option Addr) (cdv ct : Value) (us rest : List Value), us.length = qs.length → bindArgs (PySem.W.fnOf x qual params body scope .none kV doc pm an cdv ct) ⟨us ++ rest, []⟩ = (newTuple rest >>= fun t => pure (qs.zip us ++ [(pv, t)])))
    (pure_ : ∀ as μ q z, c as μ q z → b.d { L := L, LH := LH, Q := Q } (endsOf q z) (startE N.length as) μ) : FnS false S.P w K mg base (k + 3) f [] (spP K (starC qs.length c)) :=
  fn_star Fn Sc c _ hb (fun cm pn cd A outer s H E hcm he => b.ok ck (goodS_of fa Sc.nd he pr ph (fun _ => rfl) pq)) pure_
theorem fn_zlaw {n : Nat} {st : Stmt} {rest : List Stmt} (fa : Facts S K mg) (Fn : FunD K x qual params body scope dvs kws f fd) (Sc : FnScope N ps scope) (hb : body = st :: rest) (hN : N.length = n + 2) (hp : ps.length = 1)
    (ck : b.ck { S := S, N := N, sc := scope, cm := true } rest = true) (pr : AllP S false S.P w K mg base k L) (ph : AllP S true S.P w K mg base k LH) (pq : AllQ S.P w K mg base k Q)
    (first : ∀ (pn : List (Addr × Obj)) (cd : Value) (A : Around) (outer : List Env) (s : Shared) (H : Hp) (E : XK), Here false (cxG true pn S.P w K mg base N qual scope f cd A outer s H E) (fun cls dd _ H' => E cls dd H') (k + 2) →
      PS (cxG true pn S.P w K mg base N qual scope f cd A outer s H E) st (tAsg (tRaw (fun cls dd _ H' => E cls dd H') (spBox K) (tCons (tVar 0) tNil)) (gName 1)))
    (pure_ : b.d { L := L, LH := LH, Q := Q } lawEnds (lawE n) mu0) : FnO false S.P w K mg base (k + 3) f fd ps (spLaw K) :=
  fn_law Fn Sc hb hN hp first (fun pn cd A outer s H E he => b.ok ck (goodS_of fa Sc.nd he pr ph (fun _ => rfl) pq)) pure_
end
/-! ## super().m(e, .., k = e) alone -/
def supT (R : Rt) (D0 Bc : Cl) (m : Nat) (ks : List Nat) : Cl → Option Ct := fun c => match decEq c D0 with
  | .isTrue _ => look R.L (.m Bc m ks)
  | .isFalse _ => none
theorem stab_of {S : Stt} {w : World} {K : Frg} {mg : Str → Option Value} {base : Heap} {k : Nat} {L LH : Tbl} {D0 Bc : Cl} {m : Nat} {ks : List Nat} (kc : kcB K D0 = true) (hm : S.nm m ∉ D0.flds) (sm : SupM K (ca K D0) (ca K D0) (S.nm m) (He.ma K (ca K Bc) (S.nm m))) (pr : AllP S false S.P w K mg base k L) :
    STab K S.P w mg base k (ca K D0) (S.nm m) (ks.map S.nm) (supT { L := L, LH := LH } D0 Bc m ks) := fun c ct h => by
  unfold supT at h
  split at h
  · rename_i e _
    subst e
    obtain ⟨_, _, _, _, _, F⟩ := AllP.mem _ _ _ _ _ _ _ _ pr _ _ (look_mem h)
    exact ⟨hm, (kcB_ok kc).cls, _, sm, F⟩
  · cases h
section
open NdefX (NF NScope)
variable {S : Stt} {w : World} {K : Frg} {mg : Str → Option Value} {base : Heap} {k : Nat} {f cda cc : Addr} {nm qual : Str} {kwd : List (Str × V)} {body : List Stmt} {params : Arguments} {scope : Scope} {N ps ks : List Str} {e : Expr} {es : List Expr} {kws : List Keyword} {p0 p1 p2 pos pos' : Pos} {c : Ct} {ar : Arg} {L LH : Tbl} {D0 Bc : Cl} {m : Nat} {k2 : List Nat}
theorem good_sup {F : NF} {A : Around} {outer : List Env} {s : Shared} {H : Hp} {E : XK} (fa : Facts S K mg) (nd : N.Nodup) (hs : F.scope = scope) (he : Here false (cxS S.P w K mg base N F f A outer s H E) (fun cls dd _ H' => E cls dd H') (k + 2))
    (pr : AllP S false S.P w K mg base k L) (ph : AllP S true S.P w K mg base k LH) : Good k { L := L, LH := LH } (cxS S.P w K mg base N F f A outer s H E) (fun cls dd _ H' => E cls dd H') { S := S, N := N, sc := scope, cm := true, fn := fun _ => false } :=
  ⟨rfl, rfl, hs, nd, fun _ z => z, he.md, he.tk, he.rm, fa, AllP.mem _ _ _ _ _ _ _ _ pr, AllP.mem _ _ _ _ _ _ _ _ ph, ⟨fa.ka, fun z => absurd rfl z, fun _ _ z => (nomatch z)⟩, fun _ _ _ e => by cases e⟩
theorem zsup_body (a : ZA) (kw : ZK) (fa : Facts S K mg) (T : SupF S.P K f (ca K D0) nm qual params [.Expr (.Call (.Attribute (.Call (.Name "super" p0) [] [] p1) (S.nm m) p2) (e :: es) kws pos) pos'] scope kwd cda cc) (Sc : NScope N ps ["__class__"] scope)
    (kc : kcB K D0 = true) (hm : S.nm m ∉ D0.flds) (sm : SupM K (ca K D0) (ca K D0) (S.nm m) (He.ma K (ca K Bc) (S.nm m))) (pr : AllP S false S.P w K mg base (k + 2) L) (ph : AllP S true S.P w K mg base k LH) (pr0 : AllP S false S.P w K mg base k L)
    (hsu : ("super" : Str) ∈ S.fre) (hks : scope.names.lookup ("super" : Str) = some .globalImplicit) (hkc : scope.names.lookup ("__class__" : Str) = some .free) (hka : scope.names.lookup ar.arg = some .local) (hp : (params.posonlyargs ++ params.args).head? = some ar) (hN : N[0]? = some ar.arg)
    (ck1 : a.ck { S := S, N := N, sc := scope, cm := true, fn := fun _ => false } (e :: es) = true) (ck2 : kw.ck { S := S, N := N, sc := scope, cm := true, fn := fun _ => false } kws = true)
    (ns : nost (e :: es) = true) (kn : kwN kws = (k2.map S.nm).map some) (few : fewB (e :: es) kws p2 pos = true)
    (pure_ : ∀ as μ q z, c as μ q z → dSup (supT { L := L, LH := LH } D0 Bc m k2) k2.length (a.d { L := L, LH := LH }) (kw.d { L := L, LH := LH }) (endsOf q z) (startE N.length as) μ) (hit : ∀ Lo, interactive (PySem.W.envX qual scope Lo f (.ref cda) [("__class__", cc)]) = false) :
    BodyOk S.P w K mg base (k + 2) f cda cc nm qual params [.Expr (.Call (.Attribute (.Call (.Name "super" p0) [] [] p1) (S.nm m) p2) (e :: es) kws pos) pos'] scope N c := by
  have ns' : (nstar e && nost es) = true := ns
  obtain ⟨n1, n2⟩ := He.ba ns'
  have der : ∀ (F : NF) (A : Around) (outer : List Env) (s : Shared) (H : Hp) (E : XK), F.scope = scope → F.qual = qual → Here false (cxS S.P w K mg base N F f A outer s H E) (fun cls dd _ H' => E cls dd H') (k + 2) → AJ (cxS S.P w K mg base N F f A outer s H E) (fun cls dd _ H' => E cls dd H') (e :: es) (a.d { L := L, LH := LH }) ∧ KJ (cxS S.P w K mg base N F f A outer s H E) (fun cls dd _ H' => E cls dd H') kws (kw.d { L := L, LH := LH }) := fun F A outer s H E hs hq he => by
    have G := good_sup (L := L) (LH := LH) fa Sc.nd hs he pr0 ph
    exact ⟨a.ok ck1 G, kw.ok ck2 G⟩
  refine body_supI (w := w) (mg := mg) (base := base) (k := k + 2) (tab := supT { L := L, LH := LH } D0 Bc m k2) T Sc (stab_of (w := w) (base := base) kc hm sm pr) (fa.fre _ hsu) hks hkc hka hp hN der (fun as μ q z h => by rw [List.length_map]; exact pure_ as μ q z h) (fun env => ⟨(do return (← importBound (.Call (.Name "super" p0) [] [] p1) env).getD true), ?_⟩) (fun env => star_cons n1) (fun env => (kw_all kn).1) (fun env => (kw_all kn).2.1) (fun env => ?_) (fun env => rfl) hit
  · obtain ⟨h1, h2⟩ := He.ba few
    obtain ⟨h2, h3⟩ := He.ba h2
    have h2 := of_decide_eq_true h2
    have fw : methodCallForm ((e :: es).length + kws.length) (backTo pos (starEach (e :: es) env)) (backToKw pos (keywordEach kws env)) = true := by
      unfold methodCallForm
      rw [nost_all h1, (kw_all kn).1]
      have : (e :: es).length + kws.length + (if (backToKw pos (keywordEach kws env)).isEmpty then 0 else 1) < 30 := by split <;> omega
      exact decide_eq_true this
    show (do
      let ov ← attributeBase (.Call (.Name "super" p0) [] [] p1) (S.nm m) env (eval (.Call (.Name "super" p0) [] [] p1) env)
      standAt p2.atName
      methodCall (.Call (.Name "super" p0) [] [] p1) (S.nm m) p2 pos env ov ((e :: es).length + kws.length) (backTo pos (starEach (e :: es) env)) (backToKw pos (keywordEach kws env))) = _
    unfold methodCall
    simp only [fw, calleeOf, methodCallPos, h3, if_true, Bool.not_true, Bool.false_or]
    rfl
  · rw [nost_any ns, (kw_all kn).2.2] <;> rfl
theorem fn_zsup (T : SupF S.P K f (ca K D0) nm qual params body scope kwd cda cc) (Sc : NScope N ps ["__class__"] scope)
    (hb : ∀ (kV doc pm : Value) (an : Option Addr) (ct : Value) (us ws : List Value), ws.length = ks.length → us.length + ws.length = ps.length → bindArgs (PySem.W.fnX nm qual params body scope [("__class__", cc)] .none kV doc pm an (.ref cda) ct) ⟨us, ks.zip ws⟩ = pure (ps.zip (us ++ ws)))
    (len : ∀ as μ q z, c as μ q z → as.length = ps.length) (ok : BodyOk S.P w K mg base k f cda cc nm qual params body scope N c) : FnS false S.P w K mg base (k + 1) f ks (spP K c) :=
  (fn_at T Sc (.all hb) (fun _ _ => .nil) len ok).nil
theorem fn_zsupD {dp : List PV} (T : SupF S.P K f (ca K D0) nm qual params body scope kwd cda cc) (Sc : NScope N ps ["__class__"] scope) (n : Nat) (hk : kwd ≠ []) (hn : n + kwd.length = ps.length)
    (h : ∀ (D0 : Addr) (doc pm : Value) (an : Option Addr) (ct : Value) (us vs : List Value), us.length = n → vs.length = kwd.length → KwChain D0 ((kwd.map (·.1)).zip vs) (bindArgs (PySem.W.fnX nm qual params body scope [("__class__", cc)] .none (.ref D0) doc pm an (.ref cda) ct) ⟨us, []⟩) (ps.zip (us ++ vs)))
    (rd : ∀ B G, Reps K B G dp (kwd.map (·.2))) (len : ∀ as μ q z, c as μ q z → as.length = ps.length) (ok : BodyOk S.P w K mg base k f cda cc nm qual params body scope N c) : FnS false S.P w K mg base (k + 1) f [] (spP K fun as μ q z => c (as ++ dp) μ q z) :=
  fn_at T Sc (.dfl n hk hn h) rd len ok
end
/-- keyword-only parameters that are left out -/
def dfl (ds : List PV) (c : Ct) : Ct := fun as μ q z => c (as ++ ds) μ q z
theorem MkC.dfl {fz : Bool} {c : Cl} {ct kc : Ct} {ds : List PV} (h : MkC fz c ct kc) : MkC fz c (Px.dfl ds ct) (Px.dfl ds kc) := fun ps μ q x z y hy => h (ps ++ ds) μ q x z y hy
/-- what is never reached -/
def sNever : ZS where
  d := fun _ => dNever
  ck := fun _ _ => true
  ok := fun _ _ => s_never
end Px

namespace K60
open PySem PySem.Spec PyProof.Rows L2 NdefX Px
abbrev TP : Program := PySem.Challenge.pw_laidink_k60_shapes_turned_and_tiled
def top (i : Nat) : Stmt := TP.main.body.getD i (.Pass ⟨0, 0, 0, 0⟩)
def inC (i j : Nat) : Stmt := match top i with
  | .ClassDef (body := b) .. => b.getD j (.Pass ⟨0, 0, 0, 0⟩)
  | _ => .Pass ⟨0, 0, 0, 0⟩
def S : Stt := { P := TP, nms := [(36, ("_law_box" : Str)), (48, ("_law_draw" : Str)), (80, ("_law_int" : Str)), (99, ("_law_lines" : Str)), (144, ("_law_refused" : Str)), (166, ("_law_same_names" : Str)), (175, ("_law_same_shape" : Str)), (181, ("_law_same_text" : Str)), (236, ("blank" : Str)), (241, ("check_size" : Str)), (257, ("first_bad_line" : Str)), (276, ("law" : Str)), (287, ("mirrored" : Str)), (295, ("of" : Str)), (298, ("opened" : Str)), (334, ("tiled" : Str))], fre := ["all", "any", "bool", "enumerate", "int", "isinstance", "len", "range", "str", "super", "tuple"], hs := [.Shape], xs := [.InvalidShape, .PrintError, .WrongSize], gl := [36, 48, 80, 99, 144, 166, 175, 181, 241, 257, 276], cms := [(.Shape, 236), (.Shape, 295)], mks := [.Shape], ms := [(.Shape, 287), (.Shape, 334)], sa := [], er := [(.InvalidShape, ("line" : Str))], cv := [], gc := [("MOST_PLACES", (.int 40))], prs := [], isx := false, ow := [] }
abbrev st__law_box : Stmt := top 14
abbrev n__law_box : List Str := ["_law_script", "_law_cell"]
theorem sc__law_box : FnScope n__law_box ["_law_script"] (defScope st__law_box) := ⟨rfl, rfl, rfl, by decide +kernel, rfl, by decide +kernel, by decide +kernel⟩
def dp__law_box : DefP := { at_ := .glo (S.nm 36), name := "_law_box", qual := "_law_box", params := defArgs st__law_box, body := defBody st__law_box, scope := defScope st__law_box, dfl := [], kwd := [] }
abbrev st__law_draw : Stmt := top 12
abbrev n__law_draw : List Str := ["_law_box_here", "_law_size", "_law_cells", "_law_place", "_law_cell", "_law_state", "_law_power"]
theorem sc__law_draw : FnScope n__law_draw ["_law_box_here", "_law_size"] (defScope st__law_draw) := ⟨rfl, rfl, rfl, by decide +kernel, rfl, by decide +kernel, by decide +kernel⟩
def dp__law_draw : DefP := { at_ := .glo (S.nm 48), name := "_law_draw", qual := "_law_draw", params := defArgs st__law_draw, body := defBody st__law_draw, scope := defScope st__law_draw, dfl := [], kwd := [] }
abbrev st__law_lines : Stmt := top 15
abbrev n__law_lines : List Str := ["_law_box_here", "_law_wide", "_law_high", "_law_x", "_law_y"]
theorem sc__law_lines : FnScope n__law_lines ["_law_box_here", "_law_wide", "_law_high"] (defScope st__law_lines) := ⟨rfl, rfl, rfl, by decide +kernel, rfl, by decide +kernel, by decide +kernel⟩
def dp__law_lines : DefP := { at_ := .glo (S.nm 99), name := "_law_lines", qual := "_law_lines", params := defArgs st__law_lines, body := defBody st__law_lines, scope := defScope st__law_lines, dfl := [], kwd := [] }
abbrev st_first_bad_line : Stmt := top 7
abbrev n_first_bad_line : List Str := ["lines", "at", "line", "sign"]
theorem sc_first_bad_line : FnScope n_first_bad_line ["lines"] (defScope st_first_bad_line) := ⟨rfl, rfl, rfl, by decide +kernel, rfl, by decide +kernel, by decide +kernel⟩
def dp_first_bad_line : DefP := { at_ := .glo (S.nm 257), name := "first_bad_line", qual := "first_bad_line", params := defArgs st_first_bad_line, body := defBody st_first_bad_line, scope := defScope st_first_bad_line, dfl := [], kwd := [] }
abbrev st_Shape___init__ : Stmt := inC 9 0
abbrev n_Shape___init__ : List Str := ["self", "lines", "bad"]
theorem sc_Shape___init__ : FnScope n_Shape___init__ ["self", "lines"] (defScope st_Shape___init__) := ⟨rfl, rfl, rfl, by decide +kernel, rfl, by decide +kernel, by decide +kernel⟩
def dp_Shape___init__ : DefP := { at_ := .meth "Shape" (S.nm 13), name := "__init__", qual := "Shape.__init__", params := defArgs st_Shape___init__, body := defBody st_Shape___init__, scope := defScope st_Shape___init__, dfl := [], kwd := [] }
abbrev st_Shape_of : Stmt := inC 9 1
abbrev n_Shape_of : List Str := ["cls", "lines"]
theorem sc_Shape_of : FnScope n_Shape_of ["cls", "lines"] (defScope st_Shape_of) := ⟨rfl, rfl, rfl, by decide +kernel, rfl, by decide +kernel, by decide +kernel⟩
def dp_Shape_of : DefP := { at_ := .cm "Shape" (S.nm 295), name := "of", qual := "Shape.of", params := defArgs st_Shape_of, body := defBody st_Shape_of, scope := defScope st_Shape_of, dfl := [], kwd := [] }
abbrev st__law_same_text : Stmt := top 16
abbrev n__law_same_text : List Str := ["_law_actual", "_law_expected"]
theorem sc__law_same_text : FnScope n__law_same_text ["_law_actual", "_law_expected"] (defScope st__law_same_text) := ⟨rfl, rfl, rfl, by decide +kernel, rfl, by decide +kernel, by decide +kernel⟩
def dp__law_same_text : DefP := { at_ := .glo (S.nm 181), name := "_law_same_text", qual := "_law_same_text", params := defArgs st__law_same_text, body := defBody st__law_same_text, scope := defScope st__law_same_text, dfl := [], kwd := [] }
abbrev st__law_same_names : Stmt := top 17
abbrev n__law_same_names : List Str := ["_law_actual", "_law_names", "_law_k"]
theorem sc__law_same_names : FnScope n__law_same_names ["_law_actual", "_law_names"] (defScope st__law_same_names) := ⟨rfl, rfl, rfl, by decide +kernel, rfl, by decide +kernel, by decide +kernel⟩
def dp__law_same_names : DefP := { at_ := .glo (S.nm 166), name := "_law_same_names", qual := "_law_same_names", params := defArgs st__law_same_names, body := defBody st__law_same_names, scope := defScope st__law_same_names, dfl := [], kwd := [] }
abbrev st__law_int : Stmt := top 13
abbrev n__law_int : List Str := ["_law_actual", "_law_expected"]
theorem sc__law_int : FnScope n__law_int ["_law_actual", "_law_expected"] (defScope st__law_int) := ⟨rfl, rfl, rfl, by decide +kernel, rfl, by decide +kernel, by decide +kernel⟩
def dp__law_int : DefP := { at_ := .glo (S.nm 80), name := "_law_int", qual := "_law_int", params := defArgs st__law_int, body := defBody st__law_int, scope := defScope st__law_int, dfl := [], kwd := [] }
abbrev st__law_same_shape : Stmt := top 18
abbrev n__law_same_shape : List Str := ["_law_shape", "_law_lines_here"]
theorem sc__law_same_shape : FnScope n__law_same_shape ["_law_shape", "_law_lines_here"] (defScope st__law_same_shape) := ⟨rfl, rfl, rfl, by decide +kernel, rfl, by decide +kernel, by decide +kernel⟩
def dp__law_same_shape : DefP := { at_ := .glo (S.nm 175), name := "_law_same_shape", qual := "_law_same_shape", params := defArgs st__law_same_shape, body := defBody st__law_same_shape, scope := defScope st__law_same_shape, dfl := [], kwd := [] }
abbrev st_Shape_mirrored_v2 : Stmt := inC 9 3
abbrev n_Shape_mirrored_v2 : List Str := ["self", "line"]
theorem sc_Shape_mirrored_v2 : FnScope n_Shape_mirrored_v2 ["self"] (defScope st_Shape_mirrored_v2) := ⟨rfl, rfl, rfl, by decide +kernel, rfl, by decide +kernel, by decide +kernel⟩
def dp_Shape_mirrored_v2 : DefP := { at_ := .meth "Shape" (S.nm 287), name := "mirrored", qual := "Shape.mirrored", params := defArgs st_Shape_mirrored_v2, body := defBody st_Shape_mirrored_v2, scope := defScope st_Shape_mirrored_v2, dfl := [], kwd := [] }
abbrev st_check_size : Stmt := top 8
abbrev n_check_size : List Str := ["width", "height"]
theorem sc_check_size : FnScope n_check_size ["width", "height"] (defScope st_check_size) := ⟨rfl, rfl, rfl, by decide +kernel, rfl, by decide +kernel, by decide +kernel⟩
def dp_check_size : DefP := { at_ := .glo (S.nm 241), name := "check_size", qual := "check_size", params := defArgs st_check_size, body := defBody st_check_size, scope := defScope st_check_size, dfl := [], kwd := [] }
abbrev st_Shape_tiled_v2 : Stmt := inC 9 4
abbrev n_Shape_tiled_v2 : List Str := ["self", "width", "height", "rows", "y", "line", "x"]
theorem sc_Shape_tiled_v2 : FnScope n_Shape_tiled_v2 ["self", "width", "height"] (defScope st_Shape_tiled_v2) := ⟨rfl, rfl, rfl, by decide +kernel, rfl, by decide +kernel, by decide +kernel⟩
def dp_Shape_tiled_v2 : DefP := { at_ := .meth "Shape" (S.nm 334), name := "tiled", qual := "Shape.tiled", params := defArgs st_Shape_tiled_v2, body := defBody st_Shape_tiled_v2, scope := defScope st_Shape_tiled_v2, dfl := [], kwd := [] }
abbrev st_Shape_blank_v2 : Stmt := inC 9 2
abbrev n_Shape_blank_v2 : List Str := ["cls", "width", "height", "opened", "line"]
theorem sc_Shape_blank_v2 : FnScope n_Shape_blank_v2 ["cls", "width", "height", "opened"] (defScope st_Shape_blank_v2) := ⟨rfl, rfl, rfl, by decide +kernel, rfl, by decide +kernel, by decide +kernel⟩
def dp_Shape_blank_v2 : DefP := { at_ := .cm "Shape" (S.nm 236), name := "blank", qual := "Shape.blank", params := defArgs st_Shape_blank_v2, body := defBody st_Shape_blank_v2, scope := defScope st_Shape_blank_v2, dfl := [], kwd := [("opened", .bl false)] }
abbrev st__law_refused_v6 : Stmt := top 19
abbrev n__law_refused_v6 : List Str := ["_law_box_here", "_law_shape", "_law_size", "_law_line", "_law_raised", "_law_way", "e"]
theorem sc__law_refused_v6 : FnScope n__law_refused_v6 ["_law_box_here", "_law_shape"] (defScope st__law_refused_v6) := ⟨rfl, rfl, rfl, by decide +kernel, rfl, by decide +kernel, by decide +kernel⟩
def dp__law_refused_v6 : DefP := { at_ := .glo (S.nm 144), name := "_law_refused", qual := "_law_refused", params := defArgs st__law_refused_v6, body := defBody st__law_refused_v6, scope := defScope st__law_refused_v6, dfl := [], kwd := [] }
abbrev st_law_k60 : Stmt := top 20
abbrev n_law_k60 : List Str := ["_law_script", "_law_box_here", "_law_wide", "_law_high", "_law_lines_here", "_law_shape", "_law_most", "_law_width", "_law_height", "_law_turned", "_law_x", "_law_line", "_law_tiles", "_law_y", "_law_wider"]
theorem sc_law_k60 : FnScope n_law_k60 ["_law_script"] (defScope st_law_k60) := ⟨rfl, rfl, rfl, by decide +kernel, rfl, by decide +kernel, by decide +kernel⟩
def dp_law_k60 : DefP := { at_ := .glo (S.nm 276), name := "law", qual := "law", params := defArgs st_law_k60, body := defBody st_law_k60, scope := defScope st_law_k60, dfl := [], kwd := [] }
abbrev st_InvalidShape : Stmt := inC 3 0
def de_InvalidShape : ErrD := { c := .InvalidShape, f := "line", qual := "InvalidShape.__init__", params := defArgs st_InvalidShape, body := defBody st_InvalidShape, scope := defScope st_InvalidShape }
def moreB (K : Frg) : Bool := true
def want : Want := S.want [dp__law_box, dp__law_draw, dp__law_lines, dp_first_bad_line, dp_Shape___init__, dp_Shape_of, dp__law_same_text, dp__law_same_names, dp__law_int, dp__law_same_shape, dp_Shape_mirrored_v2, dp_check_size, dp_Shape_tiled_v2, dp_Shape_blank_v2, dp__law_refused_v6, dp_law_k60] [de_InvalidShape] [] moreB
/-! ### the head -/
abbrev R : PySem.W.OpenRow := PySem.W.OpenLaw.row PySem.Challenge.rw_laidink_k60_shapes_turned_and_tiled
abbrev hk : PySem.W.Hook := want.hook
def ob (s : PySem.W.SharedT) : AlP := want.obs (HandSHeadRun.getT s)
theorem ob_eq (s : PySem.W.SharedT) : ob s = hk.obs s.abs := Want.obs_eq (HandSHeadRun.getT_eq s)
theorem run (w : World) : HandSHeadRun.RunEq R (PySem.W.view R.prog [20]) hk ob 20000 ["_wall", "PrintError", "InvalidShape", "WrongSize", "first_bad_line", "check_size", "Shape", "joined_shapes", "_law_draw", "_law_int", "_law_box", "_law_lines", "_law_same_text", "_law_same_names", "_law_same_shape", "_law_refused", "MOST_PLACES"] w := by
  intro os
  kernel_rfl
end K60

namespace Px
open PySem PySem.Spec PyProof.Rows L2
/-! ## x[i] = e -/
def setIx (o i p : PV) (μ : Mu) (q : Mu → Prop) : Prop := match o with
  | .cell a => (match μ a with
    | some (.lst xs) => (match i with
      | .int n => (match ixN xs.length n with
        | some j => q (μ.put a (.lst (xs.set j p)))
        | none => False)
      | _ => False)
    | _ => False)
  | _ => False
def dSetI (dO dI d : DE) : DS := fun P ρ μ => d ρ μ (fun p μ1 => dO ρ μ1 (fun o μ2 => dI ρ μ2 (fun i μ3 => setIx o i p μ3 fun μ4 => P.nx ρ μ4) (fun xv μ' => P.xc xv ρ μ')) (fun xv μ' => P.xc xv ρ μ')) (fun xv μ' => P.xc xv ρ μ')
theorem asg_sub {o i : Expr} {pos : Pos} {env : Env} (h : noSlice i = true) : ∀ v, assign (.Subscript o i pos) env v = (do
      let ov ← holding [v] (eval o env)
      let iv ← holding [v, ov] (eval i env)
      standAt pos
      holding [v, ov, iv] (setItem ov iv v)
      release [v, ov, iv] []) := by
  intro v
  cases i <;> first | rfl | exact absurd h Bool.false_ne_true
theorem swst_of {tg e : Expr} {env : Env} (h : (match tg with | .Tuple _ _ _ => false | .List _ _ => false | _ => true) = true) : swappedStores [tg] e env = pure none := by
  cases tg <;> first | rfl | exact absurd h Bool.false_ne_true
theorem sole_of {tg e : Expr} {l : Nat} {env : Env} (h : noComp e = true) : swapsWithSole [tg] e l env = pure false := by
  cases e <;> first | rfl | exact absurd h Bool.false_ne_true
section
variable {X : Cx} {W : WX} {p0 pos : Pos} {o i e : Expr} {dO dI d : DE}
theorem s_setI (ho : EJ X W o dO) (hi : EJ X W i dI) (he : EJ X W e d) (h1 : noSlice i = true) (h2 : noComp e = true) : SJ X W (.Assign [.Subscript o i p0] e pos) (dSetI dO dI d) :=
  ps_imp (ps_asg he (pg_sub ho hi set_list (asg_sub h1)) (sole_of h2) (swst_of rfl)) fun D σ H ⟨B, ρ, μ, G, P, R, h, eo⟩ =>
  ⟨B, ρ, μ, G, _, _, R, h, fun p v μ1 G1 H1 h1 g1 r1 => ⟨B, ρ, μ1, G1, _, _, R.go g1, h1, fun oo w μ2 G2 H2 h2 g2 r2 => ⟨B, ρ, μ2, G2, _, _, R.go (g1.trans g2), h2, fun ii z μ3 G3 H3 h3 g3 r3 => by
    have g := (g1.trans g2).trans g3
    cases oo with
    | cell a =>
      unfold setIx at h3
      cases e0 : μ3 a with
      | none => simp only [e0] at h3
      | some cc =>
        cases cc with
        | lst xs =>
          simp only [e0] at h3
          cases ii with
          | int n =>
            simp only at h3
            cases e1 : ixN xs.length n with
            | none => simp only [e1] at h3
            | some j =>
              simp only [e1] at h3
              obtain ⟨ga, nb, u, ha, vs, rfl, rs⟩ := g3.ok.cell a _ e0
              have gp := g3.ok.goPut (d := .lst (xs.set j p)) (u := .lst (vs.set j v)) e0 ⟨_, rfl, rs.set j (r1.mono (g2.trans g3).gx)⟩
              exact ⟨a, vs, n, j, r2.cell_inv, r3.int_inv, ha, by rw [rs.length]; exact e1, eo.nx _ _ _ _ _ h3 (R.go (g.trans gp)) (g.trans gp)⟩
          | _ => simp only at h3
        | _ => simp only [e0] at h3
    | _ => exact h3.elim, (eo.go (g1.trans g2)).gx (R.go (g1.trans g2))⟩, (eo.go g1).gx (R.go g1)⟩, eo.gx R⟩
end
def sSetI (o i a : ZE) : ZS where
  d := fun R => dSetI (o.d R) (i.d R) (a.d R)
  ck := fun c e => match e with
    | .Assign [.Subscript x y _] z _ => noSlice y && (noComp z && (o.ck c x && (i.ck c y && a.ck c z)))
    | _ => false
  ok := fun {k R X W c e} h G => by
    split at h
    · obtain ⟨h1, h⟩ := He.ba h
      obtain ⟨h2, h⟩ := He.ba h
      obtain ⟨h3, h⟩ := He.ba h
      obtain ⟨h4, h5⟩ := He.ba h
      exact s_setI (o.ok h3 G.toGood) (i.ok h4 G.toGood) (a.ok h5 G.toGood) h1 h2
    · cases h
/-! ## x.append(e) -/
def isLC (μ : Mu) (o : PV) : Bool := match o with
  | .cell a => (match μ a with
    | some (.lst _) => true
    | _ => false)
  | _ => false
def appP (o p : PV) (μ : Mu) (q : QV) : Prop := match o with
  | .cell a => (match μ a with
    | some (.lst xs) => xs.length < sizeLine ∧ q .non (μ.put a (.lst (xs ++ [p])))
    | _ => False)
  | _ => False
def dApp (dO d : DE) : DE := fun ρ μ q x => dO ρ μ (fun o μ1 => br (isLC μ1 o) (d ρ μ1 (fun p μ2 => appP o p μ2 q) x) False) x
section
variable {X : Cx} {W : WX} {apos pos : Pos} {o e : Expr} {dO d : DE}
theorem e_app (ho : EJ X W o dO) (he : EJ X W e d) (h1 : nsup o = true) (h2 : nstar e = true) (h3 : (apos.endLine == pos.line) = true) : EJ X W (.Call (.Attribute o "append" apos) [e] [] pos) (dApp dO d) :=
  pe_imp (pe_bm PySem.F.plainAttrs_list PySem.F.slot_list_append PySem.F.type_list_append mt_append ho (pa_cons he pa_nil (star_cons h2)) (base_of h1) (by rw [star_cons h2] <;> rfl) h3 (star_cons h2) rfl) fun σ H Q ⟨B, ρ, μ, G, q, x, R, h, gv, gx⟩ =>
  ⟨B, ρ, μ, G, _, x, R, h, fun oo w μ1 G1 H1 h0 g1 r1 => by
    obtain ⟨hb, h1⟩ := br_and h0
    cases oo with
    | cell a =>
      unfold isLC at hb
      cases e0 : μ1 a with
      | none => simp only [e0] at hb; cases hb
      | some cc =>
        cases cc with
        | lst xs =>
          obtain ⟨_, _, u, ha, vs, rfl, rs⟩ := g1.ok.cell a _ e0
          have hv := r1.cell_inv
          subst hv
          refine ⟨.inl ⟨rfl, vs, .inl (.inl ha)⟩, B, ρ, μ1, G1, _, x, R.go g1, h1, fun p v μ2 G2 H2 h2 g2 r2 => ?_, gx.go g1⟩
          unfold appP at h2
          cases e1 : μ2 a with
          | none => simp only [e1] at h2
          | some c2 =>
            cases c2 with
            | lst ys =>
              simp only [e1] at h2
              obtain ⟨hl, hq⟩ := h2
              obtain ⟨ga, nb, u2, ha2, ws, rfl, rs2⟩ := g2.ok.cell a _ e1
              have gp := g2.ok.goPut (d := .lst (ys ++ [p])) (u := .lst (ws ++ [v])) e1 ⟨_, rfl, rs2.append (.cons r2 .nil)⟩
              exact ⟨a, ws, v, rfl, rfl, ha2, by rw [rs2.length]; exact hl, gv _ _ _ _ _ hq ((g1.trans g2).trans gp) rep_non⟩
            | _ => simp only [e1] at h2
        | _ => simp only [e0] at hb; cases hb
    | _ => exact absurd hb Bool.false_ne_true, gx⟩
end
def zApp (o a : ZE) : ZE where
  d := fun R => dApp (o.d R) (a.d R)
  ck := fun c e => match e with
    | .Call (.Attribute x y apos) [z] [] pos => decide (y = "append") && (nsup x && (nstar z && ((apos.endLine == pos.line) && (o.ck c x && a.ck c z))))
    | _ => false
  ok := fun {k R X W c e} h G => by
    split at h
    · obtain ⟨h1, h⟩ := He.ba h
      obtain ⟨h2, h⟩ := He.ba h
      obtain ⟨h3, h⟩ := He.ba h
      obtain ⟨h4, h⟩ := He.ba h
      obtain ⟨h5, h6⟩ := He.ba h
      obtain rfl := of_decide_eq_true h1
      exact e_app (o.ok h5 G) (a.ok h6 G) h2 h3 h4
    · cases h
/-! ## a slot's list is changed no longer -/
def dFz (i : Nat) (d : DS) : DS := fun P ρ μ => match nth ρ i with
  | some (.cell a) => (match μ a with
    | some (.lst xs) => d P (ρ.set i (some (.lst xs))) (μ.del a)
    | some (.dK ks xs) => d P (ρ.set i (some (.dK ks xs))) (μ.del a)
    | some (.dT ks xs) => d P (ρ.set i (some (.dT ks xs))) (μ.del a)
    | _ => False)
  | _ => False
theorem Rel.same {K : Frg} {B : BX} {ρ : En} {μ : Mu} {σ : L2.St} {G H : Hp} {i : Nat} {x y : PV} (R : Rel K B ρ μ σ G H) (h : nth ρ i = some y) (hv : ∀ v, Rep K B G y v → Rep K B G x v) : Rel K B (ρ.set i (some x)) μ σ G H := by
  refine ⟨R.ok, by rw [List.length_set]; exact R.len, fun j z e => ?_⟩
  rcases set_get e with ⟨rfl, q⟩ | ⟨n, q⟩
  · cases q
    obtain ⟨v, e1, r⟩ := R.at_ i y (nth_some h)
    exact ⟨v, e1, hv v r⟩
  · exact R.at_ j z q
theorem s_fz {X : Cx} {W : WX} {st : Stmt} {d : DS} (i : Nat) (h : SJ X W st d) : SJ X W st (dFz i d) := ps_imp h fun D σ H ⟨B, ρ, μ, G, P, R, h, eo⟩ => by
  unfold dFz at h
  split at h
  · rename_i a hn
    cases e : μ a with
    | none => simp only [e] at h
    | some c =>
      simp only [e] at h
      obtain ⟨ga, nb, u, ha, ck⟩ := R.ok.cell a c e
      have gf := R.ok.goFrz (by rw [e]; intro z; cases z) ha ga nb
      cases c with
      | lst xs =>
        obtain ⟨vs, rfl, rs⟩ := ck
        exact ⟨B, _, _, _, P, (R.go gf).same hn fun v r => by rw [r.cell_inv]; exact rep_lst upd_same (rs.mono gf.gx), h, eo.go gf⟩
      | ins c fs => exact h.elim
      | dK ks xs =>
        obtain ⟨vs, rfl, l, rs⟩ := ck
        exact ⟨B, _, _, _, P, (R.go gf).same hn fun v r => by rw [r.cell_inv]; simp only [Rep]; exact ⟨a, vs, rfl, upd_same, l, rs.mono gf.gx⟩, h, eo.go gf⟩
      | dT ks xs =>
        obtain ⟨vs, rfl, l, rs⟩ := ck
        exact ⟨B, _, _, _, P, (R.go gf).same hn fun v r => by rw [r.cell_inv]; simp only [Rep]; exact ⟨a, vs, rfl, upd_same, l, rs.mono gf.gx⟩, h, eo.go gf⟩
  · exact h.elim
def sFz (i : Nat) (s : ZS) : ZS where
  d := fun R => dFz i (s.d R)
  ck := s.ck
  ok := fun h G => s_fz i (s.ok h G)
/-- x = [comprehension] of a name that inner blocks read: stored as any other value -/
def sSetC (i : Nat) (a : ZE) : ZS where
  d := fun R => dSet i (a.d R)
  ck := fun c e => match e with
    | .Assign [.Name x _] (.ListComp elt gs scope vpos) _ => decide (c.N[i]? = some x) && (locF c x && (!decide (c.sc.names.lookup x = some .local) && a.ck c (.ListComp elt gs scope vpos)))
    | _ => false
  ok := fun {k R X W c e} h G => by
    split at h
    · rename_i x p elt gs scope vpos spos
      obtain ⟨h1, h⟩ := He.ba h
      obtain ⟨h2, h⟩ := He.ba h
      obtain ⟨h3, h4⟩ := He.ba h
      refine s_set i (a.ok h4 G.toGood) G.nd (by rw [G.N]; exact of_decide_eq_true h1) (G.loc h2).1 ?_ (G.loc h2).2
      have hk : (X.env.kindOf x == some NameKind.local) = false := by
        have h3 : ¬ c.sc.names.lookup x = some .local := by simpa using h3
        rw [← G.sc] at h3
        have h3 : ¬ X.env.kindOf x = some .local := h3
        cases e : X.env.kindOf x with
        | none => rfl
        | some k => cases k <;> first | rfl | exact absurd e h3
      show (pure (X.env.blockKind == .function && X.env.kindOf x == some .local && p.line == vpos.line && !(scope.names.any fun (n, k) => n == x && (k == .local || k == .cell))) : Sem Bool) = pure false
      rw [hk, Bool.and_false, Bool.false_and, Bool.false_and]
    · cases h
end Px

/-! # try with several clauses, each with a name or without -/
namespace Px
open PySem PySem.Spec PyProof.Rows L2
/-- one clause: the class it names, the slot of its name, its suite -/
structure Hd where
  c : Value
  i : Option Nat
  ts : Addr → Value → Option Addr → TS
def Hd.ends (h : Hd) (D : Ends) : Ends := match h.i with
  | none => { nx := D.nx, rt := D.rt, bk := D.bk, ct := D.ct }
  | some i => { nx := fun r G => D.nx (r.set i none) G, rt := D.rt, bk := fun r G => D.bk (r.set i none) G, ct := fun r G => D.ct (r.set i none) G }
def Hd.slots (h : Hd) (σ : L2.St) (a : Addr) : L2.St := match h.i with
  | none => σ
  | some i => σ.set i (some (.ref a))
/-- what the clauses wish of an error -/
def wHds (K : Frg) (Wo : WX) (D : Ends) : List Hd → WX
  | [] => Wo
  | h :: l => fun cls d σ H => ∃ b, PySem.W.exmOne K cls h.c = some b ∧ (b = true → ∀ a, H a = none → h.ts a cls d (h.ends D) (h.slots σ a) H) ∧ (b = false → wHds K Wo D l cls d σ H)
/-- a clause's suite keeps what is said of it -/
def SuOk (X : Cx) (sts : List Stmt) (ts : Addr → Value → Option Addr → TS) : Prop := ∀ (a : Addr) (oe : Obj) (cls : Value) (d : Option Addr) (pn : List (Addr × Obj)), L2N.Zn cls d oe → (∃ vs, oe.data = .fields vs) → PSs (X.suite a ((a, oe) :: pn)) sts (ts a cls d)
inductive HN (X : Cx) : List ExceptHandler → List Hd → Prop
  | nil : HN X [] []
  | bare {x : Str} {c : Value} {ts : Addr → Value → Option Addr → TS} {b0 : Stmt} {su : List Stmt} {np hp : Pos} {hs : List ExceptHandler} {l : List Hd} (hc : Names X x c) (ok : SuOk X (b0 :: su) ts) (r : HN X hs l) : HN X (.ExceptHandler (some (.Name x np)) none (b0 :: su) hp :: hs) (⟨c, none, ts⟩ :: l)
  | named {x n : Str} {i : Nat} {c : Value} {ts : Addr → Value → Option Addr → TS} {b0 : Stmt} {su : List Stmt} {np hp : Pos} {hs : List ExceptHandler} {l : List Hd} (hc : Names X x c) (hi : X.N[i]? = some n) (hl : X.env.kindOf n = some .local) (ok : SuOk X (b0 :: su) ts) (r : HN X hs l) : HN X (.ExceptHandler (some (.Name x np)) (some n) (b0 :: su) hp :: hs) (⟨c, some i, ts⟩ :: l)
/-- an error that has come down to a try, in the heap h -/
structure Down (X : Cx) (pins : List (Addr × Obj)) (a : Addr) (cls : Value) (d : Option Addr) (σ : L2.St) (H : Hp) (Bs : Heap) (s : Shared) (h : Heap) : Prop where
  fly : HandSPX.FlyingZ Bs (X.env :: X.outer) a (L2N.Zn cls d) h
  inv : ∀ h', HandSPX.FlyingZ Bs (X.env :: X.outer) a (L2N.Zn cls d) h' → h.UpToSlots h' → Inv X pins σ H { s with heap := h' }
  new : H a = none
  nL : a ≠ X.env.locals
  nF : a ∉ X.fs
section
variable {X : Cx} {pins : List (Addr × Obj)} {a : Addr} {cls : Value} {d : Option Addr} {σ : L2.St} {H : Hp} {Bs : Heap} {s : Shared} {h : Heap} {D : Ends}
theorem Down.here (z : Down X pins a cls d σ H Bs s h) : Inv X pins σ H { s with heap := h } := z.inv h z.fly (Heap.UpToSlots.refl _)
/-- the clause's class is looked at -/
theorem Down.test {x : Str} {c : Value} {np : Pos} {b : Bool} {Q : Bool → Shared → Prop} {E : Value → Shared → Prop} (z : Down X pins a cls d σ H Bs s h) (hc : Names X x c) (e : PySem.W.exmOne X.K cls c = some b) (q : Q b { s with heap := h }) :
    wpAny (model X.prog X.w) (X.A.mark (some (.ref a))) (eval (.Name x np) X.env) (fun u s1 => wpAny (model X.prog X.w) (X.A.mark (some (.ref a))) (excMatches (.ref a) u) Q E s1) E { s with heap := h } := by
  obtain ⟨oe, vs, ho, hz, hv⟩ := z.fly.there
  have look : PySem.W.Looks (model X.prog X.w) h (typeOf (.ref a)) cls := fun A Q E s k y => wpAny_typeOf_ref (k _ _ ho) (by rw [hz.1]; exact y)
  have mt := PySem.W.exm_one (M := model X.prog X.w) z.here.kIn look e
  have S := z.here.suite ho hv z.new z.nL z.nF
  obtain ⟨g1, g2, g3 | ⟨g3, g4, g5⟩⟩ := hc
  · exact ld_glob (X := X.suite a ((a, oe) :: (X.pn ++ pins))) S g1 g3 (mt.here q) g2
  · exact ld_blt (X := X.suite a ((a, oe) :: (X.pn ++ pins))) S g1 g3 g4 (mt.here q) g5 g2
/-- no clause takes it -/
theorem Down.on {Wo : WX} {sI s0 : Shared} (hs : X.stack = X.env :: X.outer) (hf : X.env.frame = some X.env.locals) (tk : L2N.Takes X Wo) (z : Down X pins a cls d σ H Bs s h) (xe : ∀ h4, HandSPX.HeldZ Bs (X.env :: X.outer) a (L2N.Zn cls d) X.env.locals h4 → h.UpToSlots h4 → L2N.XE X Wo (.ref a) { s with heap := h4 }) :
    wpAny (model X.prog X.w) X.A (handleBy (.ref a) X.env []) (SP X pins D) X.xe { s with heap := h } := by
  have fly := z.fly
  refine wpAny_handleBy_nil ?_
  obtain ⟨_, _, _, oe, vs, T, oT, tr, ho, _, hv, v1, _⟩ := id fly
  have up : wpAny (model X.prog X.w) X.A (setFlight (.ref a) X.env.frame) (fun _ s4 => wpAny (model X.prog X.w) X.A (throw (.ref a) : Sem Flow) (SP X pins D) X.xe s4) X.xe { s with heap := h } := by
    rw [hf]
    exact HandSPX.setFlight_upZ fly fun h4 held u4 => wpAny_throw (tk _ _ (xe h4 held u4))
  unfold PySem.passOn
  refine wpAny_bind (wpAny_field ho hv v1 ?_)
  rw [if_neg (by simp : ¬ ((Value.ref T == Value.none) = true))]
  first
    | exact wpAny_bind (wpAny_pure (wpAny_bind up))
    | exact wpAny_bind up
theorem sp_map {pins' : List (Addr × Obj)} {X' : Cx} {D' : Ends} {fl : Flow} {s' : Shared} (hn : ∀ r G, D'.nx r G → D.nx r G) (hb : ∀ r G, D'.bk r G → D.bk r G) (hc : ∀ r G, D'.ct r G → D.ct r G) (hr : ∀ r G, D'.rt r G → D.rt r G) (i : ∀ r G, Inv X' pins' r G s' → Inv X pins r G s') (q : SP X' pins' D' fl s') : SP X pins D fl s' := by
  cases fl with
  | next => obtain ⟨r, G, J, y⟩ := q; exact ⟨r, G, i _ _ J, hn _ _ y⟩
  | brk => obtain ⟨r, G, J, y⟩ := q; exact ⟨r, G, i _ _ J, hb _ _ y⟩
  | cont => obtain ⟨r, G, J, y⟩ := q; exact ⟨r, G, i _ _ J, hc _ _ y⟩
  | ret u => obtain ⟨v, r, G, J, e, y⟩ := q; exact ⟨v, r, G, i _ _ J, e, hr _ _ y⟩
/-- the clauses, one behind the other -/
theorem Down.hds {Wo : WX} (hs : X.stack = X.env :: X.outer) (hf : X.env.frame = some X.env.locals) (nd : X.N.Nodup) (tk : L2N.Takes X Wo) (z : Down X pins a cls d σ H Bs s h) (ok : X.Ok)
    (xe : Wo cls d σ H → ∀ h4, HandSPX.HeldZ Bs (X.env :: X.outer) a (L2N.Zn cls d) X.env.locals h4 → h.UpToSlots h4 → L2N.XE X Wo (.ref a) { s with heap := h4 }) :
    ∀ {hs' : List ExceptHandler} {l : List Hd}, HN X hs' l → wHds X.K Wo D l cls d σ H → wpAny (model X.prog X.w) X.A (handleBy (.ref a) X.env hs') (SP X pins D) X.xe { s with heap := h } := by
  intro hs' l hn
  induction hn with
  | nil => exact fun w => z.on (sI := s) (s0 := s) hs hf tk (xe w)
  | @bare x c ts b0 su np hp hs2 l2 hc su_ok r ih =>
    rintro ⟨b, e, yes, no⟩
    refine wpAny_handleBy_cons (codeAny_handlers_test (z.test hc e ?_)) (fun y => nomatch y)
    cases b with
    | false => exact ih (no rfl)
    | true =>
      refine codeAny_handlers_suite (HandSPX.lands_againZ z.fly fun h4 fly4 up4 => ?_)
      obtain ⟨oe, vs, ho, hz, hv⟩ := fly4.there
      have S := (z.inv h4 fly4 up4).suite ho hv z.new z.nL z.nF
      refine wpAny_mono ((su_ok a oe cls d (X.pn ++ pins) hz ⟨_, hv⟩).run [] _ _ H _ S (yes rfl a z.new)) (fun fl s6 q => ?_) fun _ _ y => y.elim
      exact sp_map (D := D) (pins := pins) (fun _ _ y => y) (fun _ _ y => y) (fun _ _ y => y) (fun _ _ y => y) (fun _ _ J => J.unsuite ok) q
  | @named x n i c ts b0 su np hp hs2 l2 hc hi hl su_ok r ih =>
    rintro ⟨b, e, yes, no⟩
    refine wpAny_handleBy_cons (codeAny_handlers_test (z.test hc e ?_)) (fun y => nomatch y)
    cases b with
    | false => exact ih (no rfl)
    | true =>
      refine codeAny_handlers_suite_as (HandSPX.lands_againZ z.fly fun h4 fly4 up4 => ?_)
      obtain ⟨oe, vs, ho, hz, hv⟩ := fly4.there
      have S := (z.inv h4 fly4 up4).suite ho hv z.new z.nL z.nF
      refine store_ok (v := .ref a) (X := X.suite a ((a, oe) :: (X.pn ++ pins))) S nd hi (.inl hl) rfl (fun s5 S5 => ?_) (.inr hl)
      refine wpAny_mono ((su_ok a oe cls d (X.pn ++ pins) hz ⟨_, hv⟩).run [] s5 _ H _ S5 (yes rfl a z.new)) (fun fl s6 q => ?_) fun _ _ y => y.elim
      have bye : ∀ {r : L2.St} {G : Hp} {F : Shared → Prop}, Inv (X.suite a ((a, oe) :: (X.pn ++ pins))) [] r G s6 → (∀ s7, Inv X pins (r.set i none) G s7 → F s7) → wpAny (model X.prog X.w) X.A (do bindName X.env n .none; unbindBehindTheSuite X.env n hp) (fun _ s7 => F s7) X.xe s6 := fun {r G F} J y => gone_ok (J.unsuite ok) nd hi hl y
      cases fl with
      | next => obtain ⟨r, G, J, y⟩ := q; exact bye J fun s7 J7 => ⟨_, _, J7, y⟩
      | brk => obtain ⟨r, G, J, y⟩ := q; exact bye J fun s7 J7 => ⟨_, _, J7, y⟩
      | cont => obtain ⟨r, G, J, y⟩ := q; exact bye J fun s7 J7 => ⟨_, _, J7, y⟩
      | ret u => obtain ⟨v, r, G, J, e, y⟩ := q; exact bye J fun s7 J7 => ⟨_, _, _, J7, e, y⟩
end
/-- a try with clauses -/
theorem ps_tryN {X : Cx} {body : List Stmt} {h0 : ExceptHandler} {hs' : List ExceptHandler} {l : List Hd} {pos : Pos} {tb : WX → TS} {Wo : WX} (hs : X.stack = X.env :: X.outer) (hf : X.env.frame = some X.env.locals) (nd : X.N.Nodup) (tk : L2N.Takes X Wo)
    (hb : ∀ (W : WX) (pn : List (Addr × Obj)) (xe : Value → Shared → Prop), L2N.Takes (X.tr pn xe) W → PassesOwn (model X.prog X.w) X.A X.env xe → PSs (X.tr pn xe) body (tb W))
    (hh : HN X (h0 :: hs') l) : PS X (.Try body (h0 :: hs') [] [] pos) (fun D σ H => tb (wHds X.K Wo D l) D σ H) := by
  refine ⟨fun pins s σ H D I q => wpAny_Try_except ?_⟩
  have ok := I.ok
  have fr : X.A.frames = some (X.env :: X.outer) := by rw [ok.frames, hs]
  refine wpAny_mono ((hb (wHds X.K Wo D l) (X.pn ++ pins) (fun e s1 => wpAny (model X.prog X.w) X.A (noteFrame e X.env) (fun _ s2 => wpAny (model X.prog X.w) X.A (setFlight e none) (fun _ s3 =>
    wpAny (model X.prog X.w) X.A (handleBy e X.env (h0 :: hs')) (SP X pins D) X.xe s3) X.xe s2) X.xe s1) (fun u s' x => ?_) PassesOwn.looking).run [] s σ H D (I.toTry _) q) (fun fl s1 y => ?_) (fun _ _ y => y)
  · obtain ⟨a, Bs, sI, pins', r, G, cls, d, rfl, J', nb, up, sky, na, os, ag, w⟩ := x
    have J : Inv X pins r G sI := J'.ofTry ok
    rw [show (X.tr (X.pn ++ pins) _).stack = X.env :: X.outer from hs] at sky
    show wpAny (model X.prog X.w) X.A (noteFrame (.ref a) X.env) _ _ _
    refine L2N.Sky.land L2N.Zn.steady fr hf sky fun h3 fly up3 => ?_
    have far : a ∉ frs (X.env :: X.outer) := fun hm => by
      obtain ⟨oe, vs, ho, _, hv⟩ := fly.there
      obtain ⟨_, o', e', nf⟩ := fly.2.2.1.mem hm
      rw [ho] at e'
      cases e'
      exact nf _ hv
    have z : Down X pins a cls d r G Bs s' h3 :=
      ⟨fly, fun h4 fly4 up4 => J.landed nb fly4.1 ((up.trans up3).trans up4) os ag, na, fun y => far (List.mem_filterMap.mpr ⟨X.env, List.mem_cons_self, by rw [hf, y]⟩), fun hm => by
        obtain ⟨e, he, y⟩ := List.mem_filterMap.mp hm
        exact far (List.mem_filterMap.mpr ⟨e, List.mem_cons_of_mem _ he, y⟩)⟩
    exact z.hds hs hf nd tk ok (fun w h4 held u4 => ⟨a, Bs, sI, pins, r, G, cls, d, rfl, J, nb, (up.trans up3).trans u4, .inr (.inr (by rw [hs]; exact held)), na, os, ag, w⟩) hh w
  · cases fl with
    | next => obtain ⟨r, G, J, y⟩ := y; exact wpAny_execs_nil ⟨r, G, J.ofTry ok, y⟩
    | brk => obtain ⟨r, G, J, y⟩ := y; exact ⟨r, G, J.ofTry ok, y⟩
    | cont => obtain ⟨r, G, J, y⟩ := y; exact ⟨r, G, J.ofTry ok, y⟩
    | ret u => obtain ⟨v, r, G, J, e, y⟩ := y; exact ⟨v, r, G, J.ofTry ok, e, y⟩
end Px

/-! # return e + super().m(): what is at the left is read as anywhere, super() at the place -/
namespace Px
open PySem PySem.Spec PyProof.Rows L2
open NdefX (NF NScope CellsAt startF envF ncx inv_startN)
open PySem.W (findIn typeIn keepIn subIn clsIn nsIn codeIn alongIn fnX envX)
def dSupT (tab : Cl → Option Ct) (f : FO) (dl : DE) : DS := fun P ρ μ => match nth ρ 0 with
  | some p => dl ρ μ (fun a μ1 => match rcv μ1 p with
    | some c => (match tab c with
      | some ct => ct [p] μ1 (fun b μ2 => f a b μ2 P.rt (fun xv μ3 => P.xc xv ρ μ3)) (fun xv μ3 => P.xc xv ρ μ3)
      | none => False)
    | none => False) (fun xv μ3 => P.xc xv ρ μ3)
  | none => False
section
variable {P : Program} {w : World} {K : Frg} {mg : Str → Option Value} {base : Heap} {k : Nat} {f D cda cc : Addr} {nm qual m : Str} {kwd : List (Str × V)} {params : Arguments} {scope : Scope} {N ps : List Str} {l : Expr} {op : Operator} {p0 p1 p2 pos bp rp : Pos} {c : Ct} {fo' : FO} {dl : DE} {tab : Cl → Option Ct} {ar : Arg}
theorem body_supT (T : SupF P K f D nm qual params [.Return (some (.BinOp l op (.Call (.Attribute (.Call (.Name "super" p0) [] [] p1) m p2) [] [] pos) bp)) rp] scope kwd cda cc) (S : NScope N ps ["__class__"] scope)
    (ST : STab K P w mg base k D m [] tab) (hsu : mg "super" = none)
    (hks : scope.names.lookup ("super" : Str) = some .globalImplicit) (hkc : scope.names.lookup ("__class__" : Str) = some .free) (hka : scope.names.lookup ar.arg = some .local) (hp : (params.posonlyargs ++ params.args).head? = some ar) (hN : N[0]? = some ar.arg)
    (der : ∀ (F : NF) (A : Around) (outer : List Env) (s : Shared) (H : Hp) (E : XK), F.scope = scope → F.qual = qual → Here false (cxS P w K mg base N F f A outer s H E) (fun cls dd _ H' => E cls dd H') k → EJ (cxS P w K mg base N F f A outer s H E) (fun cls dd _ H' => E cls dd H') l dl ∧ OpJ (cxS P w K mg base N F f A outer s H E) (fun cls dd _ H' => E cls dd H') (binaryOp op) fo')
    (pure_ : ∀ as μ q z, c as μ q z → dSupT tab fo' dl (endsOf q z) (startE N.length as) μ)
    (hev : ∀ env : Env, ∃ pl : Sem Bool, eval (.Call (.Attribute (.Call (.Name "super" p0) [] [] p1) m p2) [] [] pos) env = (do
      let ov ← attributeBase (.Call (.Name "super" p0) [] [] p1) m env (eval (.Call (.Name "super" p0) [] [] p1) env)
      standAt p2.atName
      let (g, first) ← holding [ov] (getMethod ov m pl)
      callWith pos g first (backTo pos (starEach [] env)) (backToKw pos (keywordEach [] env)))) :
    BodyOk P w K mg base k f cda cc nm qual params [.Return (some (.BinOp l op (.Call (.Attribute (.Call (.Name "super" p0) [] [] p1) m p2) [] [] pos) bp)) rp] scope N c := fun A outer s H vs Q E s1 hr hsp J => by
  have he : Here false (cxS P w K mg base N ⟨nm, qual, params, [.Return (some (.BinOp l op (.Call (.Attribute (.Call (.Name "super" p0) [] [] p1) m p2) [] [] pos) bp)) rp], scope, [("__class__", cc)], cda⟩ f A outer s H E) (fun cls dd _ H' => E cls dd H') k := here_S hr
  obtain ⟨hl, ho⟩ := der _ A outer s H E rfl rfl he
  obtain ⟨B, μ, G, as, q, z, o, r, hc, gq, gz⟩ := hsp
  have R : Rel K B (startE N.length as) μ (L2.start N vs) G H := rel_start o r
  have hd := pure_ as μ q z hc
  unfold dSupT at hd
  cases e0 : nth (startE N.length as) 0 with
  | none => simp only [e0] at hd
  | some p =>
    simp only [e0] at hd
    obtain ⟨pl, hev'⟩ := hev (envX qual scope s.heap.objs.size f (.ref cda) [("__class__", cc)])
    refine ks_wpAt_execs_cons (ks_wpAt_Return_some (ks_wpAt_BinOp2 (_root_.PySem.wpAt_of_wpAny (thn (hl.run [] s1 _ H (fun v H1 => ∃ μ1 G1 a, Go K B μ G H μ1 G1 H1 ∧ Rep K B G1 a v ∧ (match rcv μ1 p with
      | some c => (match tab c with
        | some ct => ct [p] μ1 (fun b μ2 => fo' a b μ2 (endsOf q z).rt (fun xv μ3 => z xv μ3)) (fun xv μ3 => z xv μ3)
        | none => False)
      | none => False)) J ⟨B, _, μ, G, _, _, R, hd, fun a v μ1 G1 H1 h1 g1 r1 => ⟨μ1, G1, a, g1, r1, h1⟩, fun xv d μ3 G3 H3 h3 g3 r3 => gz xv d μ3 G3 H3 h3 g3 r3⟩) fun u s2 ⟨va, H1, J1, ru, μ1, G1, a, g1, ra, hd1⟩ => ?_))))
    cases e1 : rcv μ1 p with
    | none => simp only [e1] at hd1
    | some c0 =>
      simp only [e1] at hd1
      cases e2 : tab c0 with
      | none => simp only [e2] at hd1
      | some ct =>
        simp only [e2] at hd1
        obtain ⟨hmf, hcl, f2, M, Fn⟩ := ST c0 ct e2
        have R1 := R.go g1
        obtain ⟨v, ev, rp'⟩ := R1.at_ 0 p (nth_some e0)
        obtain ⟨x, dx, ws, rfl, hx, hlk⟩ := rcv_ok R1.ok rp' e1 hmf
        show _root_.PySem.wpAt _ _ _ (eval (.Call (.Attribute (.Call (.Name "super" p0) [] [] p1) m p2) [] [] pos) (envX qual scope s.heap.objs.size f (.ref cda) [("__class__", cc)])) _ _ _
        rw [hev']
        refine _root_.PySem.wpAt_bind (_root_.PySem.wpAt_mono (sup_meth (X := cxS P w K mg base N ⟨nm, qual, params, [.Return (some (.BinOp l op (.Call (.Attribute (.Call (.Name "super" p0) [] [] p1) m p2) [] [] pos) bp)) rp], scope, [("__class__", cc)], cda⟩ f A outer s H E) (pl := pl) (cont := fun g first => callWith pos g first (backTo pos (starEach [] (envX qual scope s.heap.objs.size f (.ref cda) [("__class__", cc)]))) (backToKw pos (keywordEach [] (envX qual scope s.heap.objs.size f (.ref cda) [("__class__", cc)]))))
          T M J1 hcl rfl S.kind hks hkc hka hp hN ev hx hsu (fun q' s' J2 => ?_)) (fun ov s₁ h₁ => _root_.PySem.wpAt_of_wpAny (wpAny_bind (wpAny_standAt (wpAny_bind (wpAny_holding (wpAny_mono h₁ (fun fx s₂ h₂ => h₂) fun _ _ x => x)))))) fun _ _ x => x)
        refine PySem.W.callWith_of (P := PySem.W.MethP K q' f2 (.ref x)) rfl (PySem.W.keeps_M M.fi) (PySem.evalArgs_none ⟨⟨ClX.pin_at J2, J2.kIn⟩, ?_⟩)
        refine wpAny_mono (run_cmsK (ks := []) (wz := []) (us := []) (vs := []) (Q := fun b H3 => rAB K (fun cls dd _ H' => E cls dd H') fo' Q (L2.start N vs) va b H3) Fn rfl hr he.tk J2 rfl .nil ⟨B, μ1, G1, _, _, _, g1.ok, .cons rp' .nil, hd1, fun p3 v3 μ3 G3 H3 h3 g3 r3 => ⟨B, _, μ3, G3, a, p3, _, _, R1.go g3, ra.mono g3.gx, r3, h3, fun p4 v4 μ4 G4 H4 h4 g4 r4 => gq _ _ μ4 G4 H4 h4 ((g1.trans g3).trans g4) r4, fun xv d μ4 G4 H4 h4 g4 r4 => gz xv d μ4 G4 H4 h4 ((g1.trans g3).trans g4) r4⟩, fun xv d μ3 G3 H3 h3 g3 r3 => gz xv d μ3 G3 H3 h3 (g1.trans g3) r3⟩) (fun u2 s4 hu => ?_) fun _ _ z => z
        obtain ⟨v4, H4, J5, rv4, q4⟩ := hu
        refine wpAny_mono (ho.run J5 ru rv4 q4) (fun u5 s5 hu5 => ?_) fun _ _ z => z
        obtain ⟨v6, H6, J6, rv6, q6⟩ := hu5
        exact ⟨v6, H6, _, J6, rv6, q6⟩
end
end Px

namespace Px
open PySem PySem.Spec PyProof.Rows L2
/-! ## try with several clauses -/
def clEnds (i : Option Nat) (P : DEn) : DEn := match i with
  | none => { P with xc := fun _ _ _ => False }
  | some i => { P with nx := fun r m => P.nx (r.set i none) m, bk := fun r m => P.bk (r.set i none) m, ct := fun r m => P.ct (r.set i none) m, xc := fun _ _ _ => False }
def clSet (i : Option Nat) (ρ : En) (p : PV) : En := match i with
  | none => ρ
  | some i => ρ.set i (some p)
abbrev Clau := Cl × Option Nat × (Addr → Addr → Cl → DS)
def dCla : List Clau → DEn → XV → En → Mu → Prop
  | [], P, xv, ρ, μ => P.xc xv ρ μ
  | (c0, i, ds) :: r, P, xv, ρ, μ => br (subX xv.1 c0) (∀ a dd, ds a dd xv.1 (clEnds i P) (clSet i ρ (.exc a dd xv.1 xv.2)) μ) (dCla r P xv ρ μ)
def dTryN (l : List Clau) (db : DS) : DS := fun P ρ μ => db { P with xc := fun xv ρ' μ' => dCla l P xv ρ' μ' } ρ μ
def hdOf (K : Frg) (z : Clau) : Hd := ⟨.ref (ca K z.1), z.2.1, fun a cls d D σ H => ∃ c dd, xcB K c = true ∧ subX c z.1 = true ∧ cls = .ref (ca K c) ∧ XD c d dd ∧ tS K Wno (z.2.2 a dd c) D σ H⟩
theorem cla_ok {K : Frg} {W : WX} {B : BX} {μ0 : Mu} {G0 H0 : Hp} {P : DEn} {D : Ends} (ka : KA K) (eo : EndsOk K W B μ0 G0 H0 P D) {xv : XV} {d : Option Addr} {ρ : En} {σ : L2.St} {μ : Mu} {G H : Hp} (R : Rel K B ρ μ σ G H) (g : Go K B μ0 G0 H0 μ G H) (rr : XRep K B G xv d) :
    ∀ {l : List Clau}, (∀ z ∈ l, xcB K z.1 = true) → dCla l P xv ρ μ → wHds K W D (l.map (hdOf K)) (.ref (ca K xv.1)) d σ H
  | [], _, h => eo.xc xv d ρ σ μ G H h R g rr
  | (c0, i, ds) :: r, hl, h => by
    have hc := rr.1
    refine ⟨subX xv.1 c0, ka.xm xv.1 c0 hc (hl _ List.mem_cons_self), fun hb a ha => ?_, fun hb => cla_ok ka eo R g rr (fun z hz => hl z (List.mem_cons_of_mem _ hz)) (h.f hb)⟩
    have h0 := h.t hb
    obtain ⟨dd, hx, rx⟩ : ∃ dd, XD xv.1 d dd ∧ Rep K B G (.exc a dd xv.1 xv.2) (.ref a) := by
      rcases rr.2 with ⟨e1, e2, e3⟩ | ⟨dd, vs, e1, e2, e3, e4⟩
      · exact ⟨0, .inl ⟨e1, e3⟩, by simp only [Rep]; exact ⟨trivial, .inl e1⟩⟩
      · exact ⟨dd, .inr e1, by simp only [Rep]; exact ⟨trivial, .inr ⟨vs, e2, e3, e4⟩⟩⟩
    have eo2 := eo.go g
    cases i with
    | none => exact ⟨xv.1, dd, hc, hb, rfl, hx, B, _, μ, G, _, R, h0 a dd, ⟨eo2.nx, eo2.rt, eo2.bk, eo2.ct, fun _ _ _ _ _ _ _ z => z.elim⟩⟩
    | some i => exact ⟨xv.1, dd, hc, hb, rfl, hx, B, _, μ, G, _, R.set i rx, h0 a dd, ⟨fun r s μ2 G2 H2 z R2 g2 => eo2.nx _ _ μ2 G2 H2 z (R2.clear i) g2, eo2.rt, fun r s μ2 G2 H2 z R2 g2 => eo2.bk _ _ μ2 G2 H2 z (R2.clear i) g2, fun r s μ2 G2 H2 z R2 g2 => eo2.ct _ _ μ2 G2 H2 z (R2.clear i) g2, fun _ _ _ _ _ _ _ z => z.elim⟩⟩
theorem s_tryN {X : Cx} {W : WX} {body : List Stmt} {h0 : ExceptHandler} {hs' : List ExceptHandler} {l : List Clau} {pos : Pos} {db : DS} (ka : KA X.K) (nd : X.N.Nodup) (tk : L2N.Takes X W) (hl : ∀ z ∈ l, xcB X.K z.1 = true)
    (hb : ∀ (W' : WX) (pn : List (Addr × Obj)) (xe : Value → Shared → Prop), L2N.Takes (X.tr pn xe) W' → PassesOwn (model X.prog X.w) X.A X.env xe → BJ (X.tr pn xe) W' body db)
    (hn : HN X (h0 :: hs') (l.map (hdOf X.K))) (h1 : X.stack = X.env :: X.outer) (h2 : X.env.frame = some X.env.locals) : SJ X W (.Try body (h0 :: hs') [] [] pos) (dTryN l db) :=
  ps_imp (ps_tryN (tb := fun W' => tS X.K W' db) (Wo := W) h1 h2 nd tk hb hn) fun D σ H ⟨B, ρ, μ, G, P, R, h, eo⟩ =>
    ⟨B, ρ, μ, G, _, R, h, ⟨eo.nx, eo.rt, eo.bk, eo.ct, fun xv d ρ' σ' μ' G' H' h0 R' g rr => cla_ok ka eo R' g rr hl h0⟩⟩
structure Cla where
  c : Cl
  i : Option Nat
  s : ZB
def Cla.d (R : Rt) (k : Cla) : Clau := (k.c, k.i, fun a dd c => k.s.d { R with L := R.LH, Q := [], xi := some (a, dd, c) })
def nmOk (c : Cc) : Option Nat → Option Str → Bool
  | none, none => true
  | some i, some n => decide (c.N[i]? = some n) && decide (c.sc.names.lookup n = some .local)
  | _, _ => false
def ckCl (c : Cc) : List Cla → List ExceptHandler → Bool
  | [], [] => true
  | k :: ks, .ExceptHandler (some (.Name y _)) n (b0 :: suite) _ :: hs => decide (y = k.c.name) && (glB c.sc y && (decide (k.c ∈ c.S.xs) && (nmOk c k.i n && (k.s.ck { c with cm := false } (b0 :: suite) && ckCl c ks hs))))
  | _, _ => false
theorem ckCl_ok {k : Nat} {R : Rt} {X : Cx} {W : WX} {c : Cc} (G : GoodS k R X W c) (hc : c.cm = true) : ∀ {ks : List Cla} {hs : List ExceptHandler}, ckCl c ks hs = true → HN X hs ((ks.map (Cla.d R)).map (hdOf X.K)) ∧ ∀ z ∈ ks.map (Cla.d R), xcB X.K z.1 = true
  | [], [], _ => ⟨.nil, fun _ h => nomatch h⟩
  | [], _ :: _, h => nomatch h
  | k0 :: ks, [], h => nomatch h
  | k0 :: ks, .ExceptHandler ty n su p :: hs, h => by
    match ty, su, h with
    | some (.Name y np), b0 :: suite, h =>
      obtain ⟨h1, h⟩ := He.ba h
      obtain ⟨h2, h⟩ := He.ba h
      obtain ⟨h3, h⟩ := He.ba h
      obtain ⟨h4, h⟩ := He.ba h
      obtain ⟨h5, h6⟩ := He.ba h
      obtain rfl := of_decide_eq_true h1
      have h3 := of_decide_eq_true h3
      obtain ⟨g1, g2, _⟩ := G.gl h2
      obtain ⟨j1, j2⟩ := ckCl_ok G hc h6
      have hx := G.fa.xc k0.c h3
      have nm : Names X k0.c.name (.ref (ca X.K k0.c)) := ⟨g1, g2, .inl (G.fa.cn k0.c (List.mem_append_right _ h3))⟩
      have su_ok : SuOk X (b0 :: suite) (hdOf X.K (Cla.d R k0)).ts := fun a oe cls d pn hz hv => ⟨fun pins s σ H D J ⟨c2, dd, hc2, hsb, e, hxd, hh⟩ => by
        subst e
        exact (k0.s.ok h5 (k := k) (R := { R with L := R.LH, Q := [], xi := some (a, dd, c2) }) (X := X.suite a ((a, oe) :: pn)) (W := Wno) ⟨⟨G.prog, G.N, G.sc, G.nd, G.fn, suite_md hz hv, suite_tk, suite_rm G.rm, G.fa, G.ph, G.ph, ⟨G.qo.ka, fun z => absurd rfl z, fun _ _ z => (nomatch z)⟩, fun a' dd' c' e => by
          cases e
          exact ⟨X, oe, pn, d, rfl, rfl, hc2, hz, hv, hxd⟩⟩, fun z => (nomatch z), G.st, G.fr⟩).run pins s σ H D J hh⟩
      refine ⟨?_, fun z hz => ?_⟩
      · obtain ⟨c0, i0, s0⟩ := k0
        match i0, n, h4 with
        | none, none, _ => exact .bare nm su_ok j1
        | some i, some n, h4 =>
          obtain ⟨h7, h8⟩ := He.ba h4
          refine .named nm (by rw [G.N]; exact of_decide_eq_true h7) ?_ su_ok j1
          show X.env.scope.names.lookup n = some .local
          rw [G.sc]; exact of_decide_eq_true h8
      · rcases List.mem_cons.mp hz with rfl | hz
        · exact hx
        · exact j2 z hz
def sTryN (ks : List Cla) (b : ZB) : ZS where
  d := fun R => dTryN (ks.map (Cla.d R)) (b.d R)
  ck := fun c e => match e with
    | .Try body (h0 :: hs) [] [] _ => c.cm && (b.ck c body && ckCl c ks (h0 :: hs))
    | _ => false
  ok := fun {k R X W c e} h G => by
    split at h
    · obtain ⟨h1, h⟩ := He.ba h
      obtain ⟨h2, h3⟩ := He.ba h
      obtain ⟨j1, j2⟩ := ckCl_ok G h1 h3
      refine s_tryN G.fa.ka G.nd G.tk j2 (fun W' pn xe tk po => ?_) j1 G.st G.fr
      exact b.ok h2 ⟨⟨G.prog, G.N, G.sc, G.nd, G.fn, .inl (G.calm h1), tk, G.rm, G.fa, G.pr, G.ph, ⟨G.qo.ka, G.qo.calm, G.qo.ok⟩, fun a dd c2 e => by
          obtain ⟨X0, oe, pn, d, hX, _⟩ := G.xi a dd c2 e
          have z := G.calm h1
          rw [hX] at z
          cases z⟩, fun _ => po, G.st, G.fr⟩
    · cases h
/-! ## return e + super().m() -/
section
open NdefX (NF NScope)
variable {S : Stt} {w : World} {K : Frg} {mg : Str → Option Value} {base : Heap} {k : Nat} {f cda cc : Addr} {nm qual : Str} {kwd : List (Str × V)} {params : Arguments} {scope : Scope} {N ps : List Str} {l : Expr} {op : Operator} {p0 p1 p2 pos bp rp : Pos} {c : Ct} {ar : Arg} {L LH : Tbl} {D0 Bc : Cl} {m : Nat}
theorem zsupT_body (a : ZE) (fa : Facts S K mg) (T : SupF S.P K f (ca K D0) nm qual params [.Return (some (.BinOp l op (.Call (.Attribute (.Call (.Name "super" p0) [] [] p1) (S.nm m) p2) [] [] pos) bp)) rp] scope kwd cda cc) (Sc : NScope N ps ["__class__"] scope)
    (kc : kcB K D0 = true) (hm : S.nm m ∉ D0.flds) (sm : SupM K (ca K D0) (ca K D0) (S.nm m) (He.ma K (ca K Bc) (S.nm m))) (pr : AllP S false S.P w K mg base (k + 2) L) (ph : AllP S true S.P w K mg base k LH) (pr0 : AllP S false S.P w K mg base k L)
    (hsu : ("super" : Str) ∈ S.fre) (hks : scope.names.lookup ("super" : Str) = some .globalImplicit) (hkc : scope.names.lookup ("__class__" : Str) = some .free) (hka : scope.names.lookup ar.arg = some .local) (hp : (params.posonlyargs ++ params.args).head? = some ar) (hN : N[0]? = some ar.arg)
    (ck1 : a.ck { S := S, N := N, sc := scope, cm := true, fn := fun _ => false } l = true) (few : fewB [] [] p2 pos = true)
    (pure_ : ∀ as μ q z, c as μ q z → dSupT (supT { L := L, LH := LH } D0 Bc m []) (opD { L := L, LH := LH } op) (a.d { L := L, LH := LH }) (endsOf q z) (startE N.length as) μ) :
    BodyOk S.P w K mg base (k + 2) f cda cc nm qual params [.Return (some (.BinOp l op (.Call (.Attribute (.Call (.Name "super" p0) [] [] p1) (S.nm m) p2) [] [] pos) bp)) rp] scope N c := by
  refine body_supT (w := w) (mg := mg) (base := base) (k := k + 2) (tab := supT { L := L, LH := LH } D0 Bc m []) T Sc (stab_of (ks := []) (w := w) (base := base) kc hm sm pr) (fa.fre _ hsu) hks hkc hka hp hN (fun F A outer s H E hs hq he => ?_) pure_ (fun env => ⟨(do return (← importBound (.Call (.Name "super" p0) [] [] p1) env).getD true), ?_⟩)
  · have G := good_sup (L := L) (LH := LH) fa Sc.nd hs he pr0 ph
    exact ⟨a.ok ck1 G, opD_ok G op⟩
  · obtain ⟨_, h2⟩ := He.ba few
    obtain ⟨_, h3⟩ := He.ba h2
    show (do
      let ov ← attributeBase (.Call (.Name "super" p0) [] [] p1) (S.nm m) env (eval (.Call (.Name "super" p0) [] [] p1) env)
      standAt p2.atName
      methodCall (.Call (.Name "super" p0) [] [] p1) (S.nm m) p2 pos env ov 0 (backTo pos (starEach [] env)) (backToKw pos (keywordEach [] env))) = _
    have fw : methodCallForm 0 (backTo pos (starEach [] env)) (backToKw pos (keywordEach [] env)) = true := rfl
    unfold methodCall
    simp only [fw, calleeOf, methodCallPos, h3, if_true, Bool.not_true, Bool.false_or]
    rfl
end
/-! ## small words for plain proofs -/
theorem br_self {α : Type} {b : α} [Decidable (b = b)] {A B : Prop} (h : A) : br (decide (b = b)) A B := brT (decide_eq_true rfl) h
theorem br_nself {α : Type} {b : α} [Decidable (b = b)] {A B : Prop} (h : B) : br (!decide (b = b)) A B := brF (by rw [decide_eq_true rfl]; rfl) h
end Px

/-! # sets whose members are of one kind (texts): made, added to, sorted -/
namespace Px
open PySem PySem.Spec PyProof.Rows L2
/-- a kind of members: how a value tells its key -/
structure Mk1 (P : Program) (w : World) (α : Type) [DecidableEq α] where
  kk : PySem.KeyKind P w α
  key : Value → α
  ok : Value → Prop
  iff : ∀ {v : Value} {k : α}, ok v → (kk.is k v = true ↔ key v = k)
  sc : ∀ {v : Value}, ok v → v.scannable = true
section
variable {P : Program} {w : World} {α : Type} [DecidableEq α] {M : Mk1 P w α} {A : Around} {E : Value → Shared → Prop} {s : Shared} {h h' : Heap} {a : Addr} {L : List α}
theorem Mk1.is (M : Mk1 P w α) {v : Value} (hv : M.ok v) : M.kk.is (M.key v) v = true := (M.iff hv).mpr rfl
def Mk1.good (M : Mk1 P w α) (e : Int × Value) : Prop := M.ok e.2 ∧ e.1 = M.kk.hash (M.key e.2)
def Mk1.keys (M : Mk1 P w α) (es : Array (Int × Value)) : List α := es.toList.map fun e => M.key e.2
/-- the table of a set that can be walked -/
structure Tab (w : World) (t : SetTable) (n : Nat) : Prop where
  fit : t.fits n = true
  ris : Ris t.place.toList
  led : w.params.followText "set-order" = true ∨ t.led = true
/-- the set at a: L its members, each once -/
structure Mset (M : Mk1 P w α) (h : Heap) (a : Addr) (L : List α) : Prop where
  ex : ∃ o es ep t, h.get? a = some o ∧ o.ExactSet ∧ o.data = .set es ep t ∧ (∀ e ∈ es.toList, M.good e) ∧ (M.keys es).Perm L ∧ Tab w t es.size
  nd : L.Nodup
  few : L.length < scanBound
theorem Mset.at (R : Mset M h a L) (k : ∀ o, h.get? a = some o → h'.get? a = some o) : Mset M h' a L := by
  obtain ⟨o, es, ep, t, ho, r⟩ := R.ex
  exact ⟨⟨o, es, ep, t, k o ho, r⟩, R.nd, R.few⟩
theorem Mk1.keys_len (es : Array (Int × Value)) : (M.keys es).length = es.size := by
  unfold Mk1.keys
  rw [List.length_map, Array.length_toList]
theorem Mk1.elems {es : Array (Int × Value)} (g : ∀ e ∈ es.toList, M.good e) : ElemsOf M.kk es.toList := fun e he => ⟨⟨_, M.is (g e he).1, (g e he).2⟩, M.sc (g e he).1⟩
theorem Mk1.mem {es : Array (Int × Value)} (g : ∀ e ∈ es.toList, M.good e) (k : α) : k ∈ M.keys es ↔ ∃ e ∈ es.toList, M.kk.is k e.2 = true := by
  unfold Mk1.keys
  rw [List.mem_map]
  exact ⟨fun ⟨e, he, q⟩ => ⟨e, he, (M.iff (g e he).1).mpr q⟩, fun ⟨e, he, q⟩ => ⟨e, he, (M.iff (g e he).1).mp q⟩⟩
theorem Mset.setOf (R : Mset M h a L) : h.SetOf M.kk a (fun k => decide (k ∈ L)) L.length := by
  obtain ⟨o, es, ep, t, ho, hx, hd, g, pm, T⟩ := R.ex
  have hz : es.size = L.length := by rw [← Mk1.keys_len (M := M), pm.length_eq]
  exact ⟨o, es, ep, t, ho, hx, hd, Mk1.elems g, fun k => by rw [decide_eq_true_iff, ← pm.mem_iff]; exact Mk1.mem g k, by rw [hz]; exact R.few, T.fit, hz⟩
/-- one more member -/
def ins1 (L : List α) (k : α) : List α := if k ∈ L then L else k :: L
theorem ins1_nd (nd : L.Nodup) (k : α) : (ins1 L k).Nodup := by
  unfold ins1
  split
  · exact nd
  · exact List.nodup_cons.mpr ⟨by assumption, nd⟩
theorem ins1_len (L : List α) (k : α) : (ins1 L k).length ≤ L.length + 1 := by
  unfold ins1
  split
  · exact Nat.le_succ _
  · exact Nat.le_refl _
theorem mem_ins1 (L : List α) (k x : α) : x ∈ ins1 L k ↔ x = k ∨ x ∈ L := by
  unfold ins1
  split
  · rename_i z
    exact ⟨.inr, fun q => q.elim (fun e => e ▸ z) id⟩
  · exact List.mem_cons
theorem gave_ok (b : Bool) {s1 : Shared} {Q : Unit → Shared → Prop} (q : Q () s1) : wpAny (model P w) A (match b with
    | true => rule "set.scan.the-table-gave-way"
    | false => pure ()) Q E s1 := by
  cases b
  · exact wpAny_pure q
  · exact wpAny_rule q
/-- the end of an addition: stored, and laid out anew where the table is full -/
theorem mset_tail {gv : Bool → Sem Unit} (hgv : ∀ (b : Bool) (s1 : Shared) (Q : Unit → Shared → Prop), Q () s1 → wpAny (model P w) A (gv b) Q E s1) {o : Obj} {es es1 : Array (Int × Value)} {ep : Nat} {t t1 : SetTable} {L1 : List α} {was : Bool} {Q : Option Bool → Shared → Prop}
    (ho : s.heap.get? a = some o) (hx : o.ExactSet) (hd : o.data = .set es ep t) (g1 : ∀ e ∈ es1.toList, M.good e) (pm : (M.keys es1).Perm L1) (nd1 : L1.Nodup) (few : L1.length < scanBound) (T1 : Tab w t1 es1.size)
    (q : ∀ h', Heap.SameBut a s.heap h' → Mset M h' a L1 → Q (some true) { s with heap := h' }) :
    wpAny (model P w) A (do
      storeSet a es1 t1
      if (!was && t1.tooFull) = true then do
        gv (relayAll t1 es1 (SetTable.grown es1.size)).2.2
        storeSet a (relayAll t1 es1 (SetTable.grown es1.size)).1 (relayAll t1 es1 (SetTable.grown es1.size)).2.1
        pure (some true)
      else pure (some true)) Q E s := by
  have sz : ∀ {e2 : Array (Int × Value)}, e2.toList.Perm es1.toList → e2.size < scanBound := fun {e2} p => by
    rw [← Array.length_toList, p.length_eq, Array.length_toList, ← Mk1.keys_len (M := M), pm.length_eq]
    exact few
  refine wpAny_bind (wpAny_storeSet_of ho hd ?_ (fits_of_scanBound (sz (.refl _))))
  have ho1 := store_at (es' := es1) (t' := t1) ho hd
  have sb := Heap.SameBut.update s.heap a (Obj.putSet es1 t1)
  by_cases full : (!was && t1.tooFull) = true
  · rw [if_pos full]
    have p2 := relayAll_perm t1 es1 (SetTable.grown es1.size)
    have f2 := relayAll_fits t1 es1 (SetTable.grown es1.size)
    have r2 := relayAll_ris t1 es1 (SetTable.grown es1.size)
    have l2 := relayAll_led t1 es1 (SetTable.grown es1.size)
    generalize relayAll t1 es1 (SetTable.grown es1.size) = y at p2 f2 r2 l2 ⊢
    obtain ⟨e2, t2, gave⟩ := y
    dsimp only at p2 f2 r2 l2 ⊢
    refine wpAny_bind (hgv _ _ _ (wpAny_bind (wpAny_storeSet_of ho1 rfl ?_ (fits_of_scanBound (sz p2)))))
    have ho2 := store_at (es' := e2) (t' := t2) ho1 rfl
    exact wpAny_pure (q _ (sb.trans (Heap.SameBut.update _ a _)) ⟨⟨_, e2, _, t2, ho2, hx, rfl, fun e he => g1 e (p2.mem_iff.mp he), (p2.map _).trans pm, ⟨f2, r2, T1.led.imp id fun z => l2.trans z⟩⟩, nd1, few⟩)
  · rw [if_neg full]
    exact wpAny_pure (q _ sb ⟨⟨_, es1, _, t1, ho1, hx, rfl, g1, pm, T1⟩, nd1, few⟩)
theorem mset_hashed {v : Value} {Q : Bool → Shared → Prop} (hv : M.ok v) (R : Mset M s.heap a L) (room : L.length + 1 < scanBound)
    (q : ∀ h', Heap.SameBut a s.heap h' → Mset M h' a (ins1 L (M.key v)) → Q (!decide (M.key v ∈ L)) { s with heap := h' }) :
    wpAny (model P w) A (setAddHashed a v (M.kk.hash (M.key v))) Q E s := by
  obtain ⟨o, es, ep, t, ho, hx, hd, g, pm, T⟩ := R.ex
  have el := Mk1.elems g
  have sz : es.size < scanBound := by rw [← Mk1.keys_len (M := M), pm.length_eq]; exact R.few
  unfold setAddHashed
  unfold setAddHashedIn
  refine wpAny_holding (wpAny_bind (wpAny_setState_of ho hd T.fit ?_))
  show wpAny _ _ (if byScan v es = true then _ else _) _ _ _
  rw [byScan_of (M.sc hv) sz el, if_pos rfl]
  unfold setAddByScan
  refine wpAny_bind (wpAny_bind (wpAny_rule (wpAny_bind (wpAny_setScan_of (M.is hv) ho hd T.fit el ?_))))
  cases fi : List.findIdx? (fun e => M.kk.is (M.key v) e.2) es.toList with
  | some j =>
    obtain ⟨hj, pj, _⟩ := List.findIdx?_eq_some_iff_getElem.mp fi
    have hin : M.key v ∈ L := pm.mem_iff.mp ((Mk1.mem g _).mpr ⟨es.toList[j], List.getElem_mem hj, pj⟩)
    have z := q s.heap (Heap.SameBut.refl a s.heap) (by unfold ins1; rw [if_pos hin]; exact R)
    rw [decide_eq_true hin] at z
    exact wpAny_pure (wpAny_pure z)
  | none =>
    have hin : M.key v ∉ L := fun z => by
      obtain ⟨e, he, y⟩ := (Mk1.mem g _).mp (pm.mem_iff.mpr z)
      have := List.findIdx?_eq_none_iff.mp fi e he
      rw [y] at this
      cases this
    have z : ∀ h', Heap.SameBut a s.heap h' → Mset M h' a (M.key v :: L) → Q true { s with heap := h' } := fun h' sb r => by
      have z := q h' sb (by unfold ins1; rw [if_neg hin]; exact r)
      rw [decide_eq_false hin] at z
      exact z
    have p1 := layNew_perm t es (M.kk.hash (M.key v)) v
    have f1 := layNew_fits t es (M.kk.hash (M.key v)) v
    have r1 := layNew_ris t es (M.kk.hash (M.key v)) v T.ris
    have l1 := layNew_led t es (M.kk.hash (M.key v)) v
    dsimp only
    generalize layNew t es (M.kk.hash (M.key v)) v = y at p1 f1 r1 l1 ⊢
    obtain ⟨e1, t1, was, gave⟩ := y
    dsimp only at p1 f1 r1 l1 ⊢
    rw [Array.toList_push] at p1
    have p1 := p1.trans (List.perm_append_singleton _ _)
    have g1 : ∀ e ∈ e1.toList, M.good e := fun e he => (List.mem_cons.mp (p1.mem_iff.mp he)).elim (fun y => by rw [y]; exact ⟨hv, rfl⟩) (g e)
    have k1 : (M.keys e1).Perm (M.key v :: L) := (p1.map _).trans (List.Perm.cons _ pm)
    have d1 : (M.key v :: L).Nodup := List.nodup_cons.mpr ⟨hin, R.nd⟩
    have led : w.params.followText "set-order" = true ∨ t1.led = true := T.led.imp id fun y => l1.trans y
    refine wpAny_bind (gave_ok _ ?_)
    split
    · refine wpAny_bind ?_
      rw [hashByValue_scannable 8 (M.sc hv)]
      refine wpAny_pure (mset_tail (fun b s1 Q' y => gave_ok b y) ho hx hd g1 k1 d1 room ⟨?_, ?_, ?_⟩ fun h' sb r => ?_)
      · first | (split <;> first | exact f1 | exact SetTable.fits_plain_off f1) | exact f1
      · first | (split <;> exact r1) | exact r1
      · first | (split <;> exact led) | exact led
      · exact wpAny_pure (z h' sb r)
    · refine wpAny_bind (wpAny_pure ?_)
      simp only [↓reduceIte]
      exact mset_tail (fun b s1 Q' y => gave_ok b y) ho hx hd g1 k1 d1 room ⟨f1, r1, led⟩ fun h' sb r => wpAny_pure (z h' sb r)
/-- found.add(v) -/
theorem mset_add {v : Value} {Q : Value → Shared → Prop} (hv : M.ok v) (R : Mset M s.heap a L) (room : L.length + 1 < scanBound)
    (q : ∀ h', Heap.SameBut a s.heap h' → Mset M h' a (ins1 L (M.key v)) → Q .none { s with heap := h', toks := s.toks + 1 }) :
    wpAny (model P w) A (call (.builtin "set.add") [.ref a, v]) Q E s := by
  refine wpAny_call_entry F.slot_set_add R.setOf.typeIs F.entry_set_add ?_ (F.args_set_add_2 _ _)
  unfold Builtin.«set.add»
  unfold Builtin.Frozenset.oneOther
  simp only [bind_assoc, List.isEmpty_nil]
  unfold setAdd Builtin.Frozenset.addrOf
  refine wpAny_bind (wpAny_pure ?_)
  try dsimp only
  refine wpAny_bind (wpAny_pure ?_)
  try dsimp only
  refine wpAny_bind (wpAny_holding (wpAny_bind (M.kk.pyHash (M.is hv) (mset_hashed (s := { s with toks := s.toks + 1 }) hv R room fun h' sb r => ?_))))
  exact wpAny_pure ⟨_, rfl, q h' sb r⟩
/-- a new set -/
theorem mset_new {h : Heap} : Mset M (h.push { cls := .type "set", dict := none, data := .set #[] 0 (.fresh 0 0 (!w.params.followText "set-order")) }) h.objs.size [] := by
  refine ⟨⟨_, #[], 0, _, Heap.get?_push_size _ rfl, ⟨rfl, rfl, rfl⟩, rfl, fun e he => by simp at he, .refl _, ⟨rfl, List.Pairwise.nil, ?_⟩⟩, List.nodup_nil, show 0 < scanBound by decide⟩
  show _ ∨ (!w.params.followText "set-order") = true
  cases w.params.followText "set-order"
  · exact .inr rfl
  · exact .inl rfl
end
/-! ## texts -/
def strM (P : Program) (w : World) : Mk1 P w Str where
  kk := PySem.strKind P w
  key := fun v => match v with
    | .str k _ => k
    | _ => Str.empty
  ok := fun v => ∃ k t, v = .str k t
  iff := fun {v k} ⟨k0, t, e⟩ => by
    subst e
    show Value.isStrOf k (.str k0 t) = true ↔ k0 = k
    show (k0 == k) = true ↔ k0 = k
    exact beq_iff_eq
  sc := fun {v} ⟨k, t, e⟩ => by subst e; rfl
end Px

/-! # sets of texts: sorted, comprehensions -/
namespace Px
open PySem PySem.Spec PyProof.Rows L2
/-! ## texts in order, each once -/
def ltT (x y : Str) : Bool := ltCps x.cps.toList y.cps.toList
theorem ltCps_irr : ∀ a : List Nat, ltCps a a = false
  | [] => rfl
  | a :: r => by
    show (decide (a < a) || (a == a && ltCps r r)) = false
    rw [ltCps_irr r]
    simp
theorem ltCps_tri : ∀ a b : List Nat, ltCps a b = false → ltCps b a = false → a = b
  | [], [], _, _ => rfl
  | [], _ :: _, h, _ => by cases h
  | _ :: _, [], _, h => by cases h
  | a :: r, b :: t, h, h' => by
    have h : (decide (a < b) || (a == b && ltCps r t)) = false := h
    have h' : (decide (b < a) || (b == a && ltCps t r)) = false := h'
    simp only [Bool.or_eq_false_iff, decide_eq_false_iff_not] at h h'
    have e : a = b := by omega
    subst e
    have h1 : ltCps r t = false := by simpa using h.2
    have h2 : ltCps t r = false := by simpa using h'.2
    rw [ltCps_tri r t h1 h2]
theorem ltCps_trans : ∀ a b c : List Nat, ltCps a b = true → ltCps b c = true → ltCps a c = true
  | [], [], c, h, _ => by cases h
  | [], _ :: _, [], _, h => by cases h
  | [], _ :: _, _ :: _, _, _ => rfl
  | _ :: _, [], c, h, _ => by cases h
  | _ :: _, _ :: _, [], _, h => by cases h
  | a :: r, b :: t, c :: u, h, h' => by
    have f : (decide (a < b) || (a == b && ltCps r t)) = true := h
    have f' : (decide (b < c) || (b == c && ltCps t u)) = true := h'
    show (decide (a < c) || (a == c && ltCps r u)) = true
    simp only [Bool.or_eq_true, decide_eq_true_eq, Bool.and_eq_true, beq_iff_eq] at f f' ⊢
    rcases f with f | ⟨e1, f⟩ <;> rcases f' with f' | ⟨e2, f'⟩
    · exact .inl (by omega)
    · exact .inl (by omega)
    · exact .inl (by omega)
    · exact .inr ⟨by omega, ltCps_trans r t u f f'⟩
theorem ltT_irr (x : Str) : ltT x x = false := ltCps_irr _
theorem ltT_tri {x y : Str} (h : ltT x y = false) (h' : ltT y x = false) : x = y := by
  have := ltCps_tri _ _ h h'
  obtain ⟨a⟩ := x
  obtain ⟨b⟩ := y
  have : a.toList = b.toList := this
  rw [Array.toList_inj.mp this]
theorem ltT_trans {x y z : Str} (h : ltT x y = true) (h' : ltT y z = true) : ltT x z = true := ltCps_trans _ _ _ h h'
/-- strictly rising -/
def upT (l : List Str) : Prop := l.Pairwise fun x y => ltT x y = true
theorem rise_up : ∀ (p : Str) (l : List Str), risingS p l = true → (p :: l).Nodup → upT (p :: l)
  | p, [], _, _ => List.pairwise_singleton _ _
  | p, x :: r, h, nd => by
    have h : (!ltT x p && risingS x r) = true := h
    obtain ⟨h1, h2⟩ := He.ba h
    have h1 : ltT x p = false := by simpa using h1
    obtain ⟨n1, n2⟩ := List.nodup_cons.mp nd
    have up := rise_up x r h2 n2
    have px : ltT p x = true := by
      cases e : ltT p x with
      | true => rfl
      | false => exact absurd (ltT_tri e h1) fun z => n1 (z ▸ List.mem_cons_self)
    refine List.pairwise_cons.mpr ⟨fun y hy => ?_, up⟩
    rcases List.mem_cons.mp hy with rfl | hy
    · exact px
    · exact ltT_trans px ((List.pairwise_cons.mp up).1 y hy)
theorem sorted_up {l : List Str} (h : sortedS l = true) (nd : l.Nodup) : upT l := by
  cases l with
  | nil => exact List.Pairwise.nil
  | cons p r => exact rise_up p r h nd
theorem up_eq : ∀ {l m : List Str}, upT l → upT m → (∀ x, x ∈ l ↔ x ∈ m) → l = m
  | [], [], _, _, _ => rfl
  | [], y :: m, _, _, h => absurd ((h y).mpr List.mem_cons_self) (by simp)
  | x :: l, [], _, _, h => absurd ((h x).mp List.mem_cons_self) (by simp)
  | x :: l, y :: m, hl, hm, h => by
    obtain ⟨l1, l2⟩ := List.pairwise_cons.mp hl
    obtain ⟨m1, m2⟩ := List.pairwise_cons.mp hm
    have e : x = y := by
      rcases List.mem_cons.mp ((h x).mp List.mem_cons_self) with e | e
      · exact e
      · rcases List.mem_cons.mp ((h y).mpr List.mem_cons_self) with e2 | e2
        · exact e2.symm
        · have := ltT_trans (m1 x e) (l1 y e2)
          rw [ltT_irr] at this
          cases this
    subst e
    have nx : ∀ {k : List Str}, (∀ y ∈ k, ltT x y = true) → x ∉ k := fun hk hx => by
      have := hk x hx
      rw [ltT_irr] at this
      cases this
    rw [up_eq l2 m2 fun z => ⟨fun hz => ?_, fun hz => ?_⟩]
    · rcases List.mem_cons.mp ((h z).mp (List.mem_cons_of_mem _ hz)) with rfl | q
      · exact absurd hz (nx l1)
      · exact q
    · rcases List.mem_cons.mp ((h z).mpr (List.mem_cons_of_mem _ hz)) with rfl | q
      · exact absurd hz (nx m1)
      · exact q
def insT (x : Str) : List Str → List Str
  | [] => [x]
  | y :: r => if ltT x y = true then x :: y :: r else if x = y then y :: r else y :: insT x r
theorem mem_insT (x z : Str) : ∀ l, z ∈ insT x l ↔ z = x ∨ z ∈ l
  | [] => by simp [insT]
  | y :: r => by
    unfold insT
    split
    · exact List.mem_cons
    · split
      · rename_i e
        subst e
        simp
      · rw [List.mem_cons, mem_insT x z r, List.mem_cons]
        constructor
        · rintro (h | h | h)
          · exact .inr (.inl h)
          · exact .inl h
          · exact .inr (.inr h)
        · rintro (h | h | h)
          · exact .inr (.inl h)
          · exact .inl h
          · exact .inr (.inr h)
theorem up_insT (x : Str) : ∀ {l : List Str}, upT l → upT (insT x l)
  | [], _ => List.pairwise_singleton _ _
  | y :: r, h => by
    obtain ⟨h1, h2⟩ := List.pairwise_cons.mp h
    unfold insT
    split
    · rename_i e
      refine List.pairwise_cons.mpr ⟨fun z hz => ?_, h⟩
      rcases List.mem_cons.mp hz with rfl | hz
      · exact e
      · exact ltT_trans e (h1 z hz)
    · rename_i e
      split
      · exact h
      · rename_i ne
        refine List.pairwise_cons.mpr ⟨fun z hz => ?_, up_insT x h2⟩
        rcases (mem_insT x z r).mp hz with rfl | hz
        · cases e2 : ltT y z with
          | true => rfl
          | false => exact absurd (ltT_tri (by simpa using e) e2) ne
        · exact h1 z hz
/-- the texts of a list in order, each once -/
def sortU : List Str → List Str
  | [] => []
  | x :: l => insT x (sortU l)
theorem sortU_up : ∀ l, upT (sortU l)
  | [] => List.Pairwise.nil
  | x :: l => up_insT x (sortU_up l)
theorem mem_sortU (z : Str) : ∀ l, z ∈ sortU l ↔ z ∈ l
  | [] => Iff.rfl
  | x :: l => by
    show z ∈ insT x (sortU l) ↔ _
    rw [mem_insT, mem_sortU z l, List.mem_cons]
theorem up_nd {l : List Str} (h : upT l) : l.Nodup := h.imp fun {x y} e z => by
  subst z
  rw [ltT_irr] at e
  cases e
theorem sortU_nd (l : List Str) : (sortU l).Nodup := up_nd (sortU_up l)
theorem sortU_of {l m : List Str} (h : upT m) (e : ∀ x, x ∈ m ↔ x ∈ l) : m = sortU l := up_eq h (sortU_up l) fun x => (e x).trans (mem_sortU x l).symm
theorem insT_len (x : Str) : ∀ l, (insT x l).length ≤ l.length + 1
  | [] => Nat.le_refl _
  | y :: r => by
    unfold insT
    split
    · exact Nat.le_refl _
    · split
      · exact Nat.le_succ _
      · exact Nat.succ_le_succ (insT_len x r)
theorem sortU_len : ∀ l, (sortU l).length ≤ l.length
  | [] => Nat.le_refl _
  | x :: l => Nat.le_trans (insT_len x _) (Nat.succ_le_succ (sortU_len l))
/-! ## sorted(a set of texts) -/
section
variable {P : Program} {w : World} {A : Around} {E : Value → Shared → Prop} {s : Shared} {a : Addr} {L : List Str}
theorem strs_of : ∀ (l : List Value), (∀ v ∈ l, (strM P w).ok v) → StrsAre l (l.map (strM P w).key)
  | [], _ => .nil
  | v :: l, h => by
    obtain ⟨k, t, rfl⟩ := h v List.mem_cons_self
    exact .cons k t (strs_of l fun u hu => h u (List.mem_cons_of_mem _ hu))
theorem sorted_mset {Q : Value → Shared → Prop} (R : Mset (strM P w) s.heap a L) (hh : A.handled = none)
    (q : ∀ (s' : Shared) (p : Addr) (out : Array Value) (c : Nat), (∀ b o, s.heap.get? b = some o → s'.heap.get? b = some o) → s'.gens = s.gens → s'.os = s.os → s.heap.objs.size ≤ p → s'.heap.get? p = some (seqObj "list" out c) → StrsAre out.toList (sortU L) → Q (.ref p) s') :
    wpAny (model P w) A (call (.builtin "sorted") [.ref a]) Q E s := by
  obtain ⟨o, es, ep, t, ho, hx, hd, g, pm, T⟩ := R.ex
  have hz : es.size = L.length := by rw [← Mk1.keys_len (M := strM P w), pm.length_eq]
  have hb : es.size < scanBound := by rw [hz]; exact R.few
  refine Calls.call_function_entry kind_sorted plain_sorted entry_sorted (args_sorted1 _) ?_
  unfold Builtin.«sorted»
  refine wpAny_bind (m := checkCount "sorted" 1 1 _) (wpAny_pure (wpAny_bind (collect_set (A := A.in1) hh ⟨o, ho, hx.1, hd⟩ T.fit hb T.ris T.led fun s1 vs k1 sz1 g1 o1 p1 => ?_)))
  have hv : ∀ v ∈ vs, (strM P w).ok v := fun v m => by
    obtain ⟨e, he, y⟩ := List.mem_map.mp (p1.mem_iff.mp m)
    rw [← y]; exact (g e he).1
  have pk : (vs.map (strM P w).key).Perm L := by
    have y := p1.map (strM P w).key
    rw [List.map_map] at y
    exact y.trans pm
  have hs := strs_of vs hv
  have vl : vs.length = L.length := by rw [p1.length_eq, List.length_map, Array.length_toList]; exact hz
  have sl : vs.length ≤ sizeLine := by rw [vl, ← hz]; exact Nat.le_trans (Nat.le_of_lt hb) (by rw [sizeLine_eq]; decide)
  refine wpAny_bind (wpAny_newList ?_ sl)
  have hoL : (s1.heap.push (seqObj "list" vs.toArray 0)).get? s1.heap.objs.size = some (seqObj "list" vs.toArray 0) := Heap.get?_push_size _ rfl
  refine wpAny_bind (wpAny_holding (wpAny_call_entry slot_list_sort ⟨_, hoL, rfl⟩ entry_list_sort (list_sort_treeKAny strKind_oneLt hoL hs.keysOf (fun v1 v2 rest e => keyKind_strs (by rw [← e]; exact hs)) sl fun st' a1 a2 => ⟨_, rfl, ?_⟩) (args_list_sort _)))
  obtain ⟨ys, y1, y2, y3⟩ := sorted_out_str hs a1 a2
  have py := y2.trans pk
  have ey : ys = sortU L := sortU_of (sorted_up y3 (py.nodup_iff.mpr R.nd)) fun x => py.mem_iff
  subst ey
  obtain ⟨c, hc⟩ := sortedHeap_at (vs := vs) (out := (arrOf st').map (·.2)) hoL
  refine wpAny_pure ⟨_, rfl, q _ s1.heap.objs.size _ c (fun b u e => ?_) g1 o1 sz1 hc y1⟩
  have k := k1 b u e
  have lt := Heap.lt_size k
  show (sortedHeap (s1.heap.push (seqObj "list" vs.toArray 0)) s1.heap.objs.size vs _).get? b = some u
  rw [sortedHeap_old (Nat.ne_of_lt lt) (by rw [size_push']; exact Nat.lt_succ_of_lt lt)]
  exact Heap.get?_push_of_some _ k
end
/-! ## as things of the heap -/
def SetT (P : Program) (w : World) (a : Addr) (L : List Str) : HO := .ext fun h => Mset (strM P w) h a L
section
variable {P : Program} {w : World} {X : Cx} {pins : List (Addr × Obj)} {σ : L2.St} {H : Hp} {s : Shared} {a : Addr} {L : List Str}
theorem setT_new {h : Heap} (R : Mset (strM P w) h a L) : ObjOk P w H h a (SetT P w a L) := by
  obtain ⟨o, _, _, _, ho, _⟩ := R.ex
  exact ⟨R, ⟨o, ho⟩, fun h1 h2 p k => p.at k⟩
theorem setT_get (J : Inv X pins σ H s) (ha : H a = some (SetT X.prog X.w a L)) : Mset (strM X.prog X.w) s.heap a L := (J.hok a _ ha).1
/-- sorted(a) -/
def rSortT (P : Program) (w : World) : List V → Hp → VK → Prop := fun vs H Q => ∃ (a : Addr) (L : List Str), vs = [V.ref a] ∧ H a = some (SetT P w a L) ∧ ∀ p, H p = none → Q (.ref p) (upd H p (.lst ((sortU L).map V.str)))
theorem cr_sortT (hc : X.calm = true) : CallR X (.builtin "sorted") (rSortT X.prog X.w) := by
  intro pins s σ H vs us Q J r h
  obtain ⟨a, L, rfl, ha, q⟩ := h
  rw [Vals.ref1 r]
  have R := setT_get J ha
  refine sorted_mset R (J.ok.hd hc) fun s' p out c k1 g1 o1 hp hl hs => ?_
  have hn : H p = none := J.hok.fresh hp
  have sl : ((sortU L).map V.str).length ≤ sizeLine := by
    rw [List.length_map]
    exact Nat.le_trans (sortU_len L) (Nat.le_trans (Nat.le_of_lt R.few) (by rw [sizeLine_eq]; decide))
  obtain ⟨h', g', d', t', os'⟩ := s'
  have g1 : g' = s.gens := g1
  have o1 : os' = s.os := o1
  subst g1 o1
  have J2 : Inv X pins σ (upd H p (.lst ((sortU L).map V.str))) ⟨h', s.gens, d', t', s.os⟩ := J.call (ch := []) (Un.laid k1 hp hn) (J.hok.laid k1 hp ⟨sl, out.toList, c, vals_of_strs hs, hl⟩) J.bare (fun _ z => nomatch z)
  exact ⟨.ref p, _, J2, rfl, q p hn⟩
end
end Px

/-! # sorted({text for .. in .. if ..}) -/
namespace Px
open PySem PySem.Spec PyProof.Rows L2
section
variable {X : Cx}
theorem setT_add {pins : List (Addr × Obj)} {σ : L2.St} {H : Hp} {s : Shared} {E : Value → Shared → Prop} {D : Addr} {L : List Str} {k : Str} {t : Tok} {Q : Value → Shared → Prop} (J : Inv X pins σ H s) (hD : H D = some (SetT X.prog X.w D L)) (room : L.length + 1 < scanBound)
    (q : ∀ s', Inv X pins σ (upd H D (SetT X.prog X.w D (ins1 L k))) s' → Q .none s') : wpAny (model X.prog X.w) X.A (call (.builtin "set.add") [.ref D, .str k t]) Q E s := by
  refine mset_add (M := strM X.prog X.w) ⟨k, t, rfl⟩ (setT_get J hD) room fun h' sb new => q _ ?_
  have he : ∃ u, h'.get? D = some u := by
    obtain ⟨o, _, _, _, ho, _⟩ := new.ex
    exact ⟨o, ho⟩
  exact J.write (t' := s.toks + 1) (e := D) (by rw [hD]; trivial) (.inl rfl) (fun b u n e => (sb.2 b n).trans e) he (setT_new new)
/-- what a set comprehension of texts asks: D the new set -/
def tScT (P : Program) (w : World) (wi : TI) (g : TG) (tt : TT) (te : TE) (vs : List Nat) : TE := fun σ H Q => wi σ H fun J H1 => ∀ D, H1 D = none → ∃ W : Nat → Nat → Hp → Prop, (∃ m, W 0 m (upd H1 D (SetT P w D []))) ∧ ∀ i m H, W i m H →
  (J.stop i H ∧ Q (.ref D) H) ∨ (J.go i H ∧ ∃ Nx : Hp → Prop, (∀ H', Nx H' → ∃ m', m' < m ∧ W (i + 1) m' H') ∧ ∀ x H', J.yld i H x H' → g x (L2.wipe σ vs) H' fun σ2 H2 => L2.wipe σ2 vs = L2.wipe σ vs ∧ tt σ2 H2 fun b H3 =>
    if b = true then te σ2 H3 fun y H4 => ∃ (k : Str) (L : List Str), y = .str k ∧ H4 D = some (SetT P w D L) ∧ L.length + 1 < scanBound ∧ Nx (upd H4 D (SetT P w D (ins1 L k))) else Nx H3)
abbrev freshO (w : World) : Obj := { cls := .type "set", dict := none, data := .set #[] 0 (.fresh 0 0 (!w.params.followText "set-order")) }
theorem pe_scT {elt tg iter : Expr} {ifs : List Expr} {scope : Scope} {own : List (Str × Nat)} {pos : Pos} {wi : TI} {g : TG} {tt : TT} {te : TE} (hc : X.calm = true) (nd : X.N.Nodup) (hi : PI X tg iter wi) (ok : BlkOk X.N X.env.scope scope own)
    (hg : ∀ (s : Shared) (H : Hp) (C : Addr) (cl : List (Str × Addr)) (fp : List Addr), PG (X.blk s H scope (compEnvC scope cl C X.env) fp) tg g)
    (ht : ∀ (s : Shared) (H : Hp) (C : Addr) (cl : List (Str × Addr)) (fp : List Addr), PTs (X.blk s H scope (compEnvC scope cl C X.env) fp) ifs tt)
    (he : ∀ (s : Shared) (H : Hp) (C : Addr) (cl : List (Str × Addr)) (fp : List Addr), PE (X.blk s H scope (compEnvC scope cl C X.env) fp) elt te) (hs : ∀ x, foldedSetIterable iter X.env x = pure x) :
    PE X (.SetComp elt [⟨tg, iter, ifs, 0⟩] scope pos) (tScT X.prog X.w wi g tt te (own.map (·.2))) := by
  refine ⟨fun pins s σ H Q J z => ?_⟩
  rw [PpSet.eval_SetComp]
  have free : ∀ y ∈ scope.names, y.2 = .free → ∃ c, X.env.cells.lookup y.1 = some c := fun y hy e => (ok.free y hy e).elim (fun k => J.ok.has _ (.inl k)) fun k => J.ok.has _ (.inr k)
  refine wpAny_comprehension_free rfl hs (closure_ok free) ok.kind (fun y hy e => by rw [ok.uniq y hy, e]) (thn (hi.run pins s σ H _ J z) fun xv s1 hx => thn hx fun itv s2 ⟨it, fp, tn, Jt, H2, e, J2, T, st2, f2, q⟩ => ?_)
  subst e
  refine PpSet.newSet_ok (newEnv_comp ?_)
  obtain ⟨D, hD⟩ : ∃ D, s2.heap.objs.size = D := ⟨_, rfl⟩
  rw [hD]
  have nD : H2 D = none := J2.hok.fresh (Nat.le_of_eq hD)
  obtain ⟨W, ⟨m0, w0⟩, turn⟩ := q D nD
  obtain ⟨s3, es3⟩ : ∃ s3 : Shared, s3 = { s2 with heap := s2.heap.push (freshO X.w) } := ⟨_, rfl⟩
  have h3 : s3.heap = s2.heap.push (freshO X.w) := by rw [es3]
  have J3 : Inv X pins σ (upd H2 D (SetT X.prog X.w D [])) s3 := by
    rw [es3]
    refine J2.laid (t' := s2.toks) (fun b o e => Heap.get?_push_of_some _ e) (Nat.le_of_eq hD) ?_
    rw [← hD]
    exact setT_new mset_new
  rw [← es3]
  have st3 : tn 0 s3.heap := T.keep _ _ _ st2 fun b _ o e => by rw [h3]; exact Heap.get?_push_of_some _ e
  obtain ⟨H3, eH3⟩ : ∃ H3, H3 = upd H2 D (SetT X.prog X.w D []) := ⟨_, rfl⟩
  rw [← eH3] at J3 w0
  have f3 : ∀ b ∈ fp, FpOk X pins H3 b ∧ b < s3.heap.objs.size := fun b hb => by
    obtain ⟨o, e, _⟩ := T.obj _ _ st2 b hb
    have lt := Heap.lt_size e
    refine ⟨⟨?_, (f2 b hb).2⟩, by rw [h3, Heap.size_push]; exact Nat.lt_succ_of_lt lt⟩
    rw [eH3, upd_ne (by rw [← hD]; exact Nat.ne_of_lt lt)]
    exact (f2 b hb).1
  have J4 := block_start J3 ok nd f3
  obtain ⟨cls, ecl⟩ : ∃ cls, cls = cellsFrom (s3.heap.objs.size + 1) scope.names (cloFrom X.env.cells scope.names []) := ⟨_, rfl⟩
  have pg := hg s3 H3 s3.heap.objs.size cls fp
  have pt := ht s3 H3 s3.heap.objs.size cls fp
  have pe := he s3 H3 s3.heap.objs.size cls fp
  rw [← ecl] at J4
  obtain ⟨s4, es4⟩ : ∃ s4 : Shared, s4 = { s3 with heap := pushCells (s3.heap.push { cls := .type "dict", data := .dict #[] }) scope.names } := ⟨_, rfl⟩
  rw [← es4] at J4
  show codeAny _ _ (.compStart (.SetComp elt [⟨tg, iter, ifs, 0⟩] scope pos) 0 (.ref it) (.ref D) (compEnvC scope (cellsFrom (s3.heap.objs.size + 1) scope.names (cloFrom X.env.cells scope.names [])) s3.heap.objs.size X.env)) (compPost (model X.prog X.w) X.A X.xe none (EP X pins σ Q) (.ref D) s3.heap.objs.size) { s3 with heap := pushCells (s3.heap.push { cls := .type "dict", data := .dict #[] }) scope.names }
  rw [← es4, ← ecl]
  have st4 : tn 0 s4.heap := T.keep _ _ _ st3 fun b _ o e => by rw [es4]; exact pushCells_keeps _ _ _ _ (Heap.get?_push_of_some _ e)
  obtain ⟨ce, ece⟩ : ∃ ce, ce = compEnvC scope cls s3.heap.objs.size X.env := ⟨_, rfl⟩
  rw [← ece] at J4 pg pt pe ⊢
  have cL : ce.locals = s3.heap.objs.size := by rw [ece]; rfl
  have nfp : ∀ b ∈ fp, H3 b = none := fun b hb => (f3 b hb).1.1
  have own_fp : ∀ {σ' : L2.St} {H' : Hp} {s' : Shared}, Inv (X.blk s3 H3 scope ce fp) [] σ' H' s' → (∀ b ∈ fp, H' b = none) → ∀ b ∈ fp, FpOk (X.blk s3 H3 scope ce fp) [] H' b := fun {σ' H' s'} I' hn b hb =>
    ⟨hn b hb, (I'.ok.exf b hb).1, I'.ok.exfs b hb, .inl hb, fun x c e => (I'.ok.exf b hb).2 x c e, fun p hp => absurd (show p ∈ ([] : List (Addr × Obj)) ++ [] from hp) (by simp)⟩
  have loop : codeAny (model X.prog X.w) X.A (.compLoop (.SetComp elt [⟨tg, iter, ifs, 0⟩] scope pos) 0 (.ref it) (.ref D) ce) (compPost (model X.prog X.w) X.A X.xe none (EP X pins σ Q) (.ref D) s3.heap.objs.size) s4 := by
    refine PpSet.compLoopS_any (fun n s' => ∃ i H', Inv (X.blk s3 H3 scope ce fp) [] (L2.wipe σ (own.map (·.2))) H' s' ∧ tn i s'.heap ∧ (∀ b ∈ fp, H' b = none) ∧ W i n H') ?_ m0 ⟨0, H3, J4, st4, nfp, w0⟩
    rintro n s5 ⟨i, H5, J5, st5, n5, w5⟩
    rcases turn i n H5 w5 with ⟨stop, fin⟩ | ⟨go, Nx, hNx, step⟩
    · refine thnF (T.done (X.blk s3 H3 scope ce fp) rfl rfl rfl hc i [] s5 _ H5 (fun _ _ => False) J5 (own_fp J5 n5) st5 stop) fun r s6 ⟨er, J6⟩ => ?_
      subst er
      have nC : H5 s3.heap.objs.size = none := by
        have y : H5 ce.locals = none := J6.free
        rw [cL] at y
        exact y
      have J7 : Inv X pins σ H5 s6 := J3.call' (ch := fp) J6.os J6.base J6.hok J6.bare fun b hb => ⟨(f3 b hb).1.2.2.2.1, (f3 b hb).1.2.1, (f3 b hb).1.2.2.2.2.1, (f3 b hb).1.2.2.2.2.2⟩
      obtain ⟨m, hn, _⟩ := J6.loc
      have hn : s6.heap.Ns ce.locals m := hn
      rw [cL] at hn
      obtain ⟨f0, f1, _, f4, f5, f6⟩ := J3.fpOk (Nat.le_refl _) nC
      exact ⟨m, hn, fun h'' sb => ⟨.ref D, H5, J7.turned (t' := s6.toks) (fun b o hb e => (sb.2 b hb).trans e) f0 f1 f4 f5 f6, rfl, fin⟩⟩
    · refine thnF (T.item (X.blk s3 H3 scope ce fp) rfl rfl rfl hc i [] s5 _ H5 (fun _ _ => False) J5 (own_fp J5 n5) st5 go) fun r s6 ⟨u, er, h6⟩ => ?_
      subst er
      refine thnF h6 fun _ s7 ⟨x, H7, J7, r7, y7, st7, n7⟩ => ?_
      refine thnF (pg.run _ s7 _ H7 x u _ (J7.pinned (own_fp J7 n7) (T.obj _ _ st7)) r7 (step x H7 y7)) fun _ s8 ⟨σ8, H8, J8, hw8, q8⟩ => ?_
      refine thnF (pt.run _ s8 σ8 H8 _ J8 q8) fun b s9 ⟨H9, J9, q9⟩ => ?_
      have back : ∀ {s' : Shared} {H' : Hp}, Inv (X.blk s3 H3 scope ce fp) ([] ++ pinsAt fp s7.heap) σ8 H' s' → Nx H' → ∃ m, m < n ∧ ∃ i H', Inv (X.blk s3 H3 scope ce fp) [] (L2.wipe σ (own.map (·.2))) H' s' ∧ tn i s'.heap ∧ (∀ b ∈ fp, H' b = none) ∧ W i m H' := fun {s' H'} J' nx => by
        obtain ⟨m', hm, w'⟩ := hNx H' nx
        have pin : ∀ b ∈ fp, ∀ o, s7.heap.get? b = some o → s'.heap.get? b = some o ∧ H' b = none := fun b hb o e => by
          have y := J'.pin (b, o) (List.mem_append_right _ (List.mem_append_right _ (mem_pinsAt hb e)))
          exact ⟨y.1, y.2.1⟩
        refine ⟨m', hm, i + 1, H', (J'.unpinned (pins := [])).weak (by rw [← hw8, wipe_length]) (fun j v e => ?_), T.keep _ _ _ st7 fun b hb o e => (pin b hb o e).1, fun b hb => ?_, w'⟩
        · rw [← hw8] at e
          exact (wipe_some e).1
        · obtain ⟨o, e, _⟩ := T.obj _ _ st7 b hb
          exact (pin b hb o e).2
      cases b with
      | false =>
        rw [if_neg (by decide)] at q9
        exact back J9 q9
      | true =>
        rw [if_pos rfl] at q9
        refine thnF (pe.run _ s9 σ8 H9 _ J9 q9) fun z s10 ⟨yv, H10, J10, r10, k, L, ey, hD10, room, nx⟩ => ?_
        subst ey
        obtain ⟨tk, rfl⟩ := r10
        exact setT_add (X := X.blk s3 H3 scope ce fp) J10 hD10 room fun s11 J11 => back J11 nx
  exact PpSet.codeAny_compStart_set loop (T.self X.A 0 _ _ _ st4 loop)
end
end Px

namespace Px
open PySem PySem.Spec PyProof.Rows L2
/-! ## a set comprehension's turns, in plain values -/
def scD (t : Tg) (own : List Nat) (dt : DT) (de : DE) (ρ : En) (q : List Str → Mu → Prop) : List PV → List Str → Mu → Prop
  | [], acc, μ => q acc μ
  | y :: ys, acc, μ => setT t y (wipeE ρ own) fun ρ' => dt ρ' μ (fun b μ1 => br b (de ρ' μ1 (fun p μ2 => match p with
    | .str k => Lk (scD t own dt de ρ q ys (acc ++ [k]) μ2)
    | _ => False) noX) (Lk (scD t own dt de ρ q ys acc μ1))) noX
/-- sorted({e for t in i if ..}), e a text -/
def dSortC (t : Tg) (own : List Nat) (di : DI) (dt : DT) (de : DE) : DE := fun ρ μ q x => di ρ μ (fun xs μ1 => xs.length < 4000 ∧ Lk (scD t own dt de ρ (fun ss μ2 => q (.lst ((sortU ss).map .str)) μ2) xs [] μ1)) x
theorem room_of {n : Nat} (h : n < 4000) : n + 1 < scanBound := Nat.lt_of_lt_of_le (Nat.succ_lt_succ h) (by decide)
theorem tsc_of {X : Cx} {W : WX} {t : Tg} {own : List Nat} {di : DI} {dt : DT} {de : DE} (hw : ∀ i ∈ t.idx, i ∈ own) {σ : L2.St} {H : Hp} {Q : VK} (h : tE X.K W (dSortC t own di dt de) σ H Q) :
    tScT X.prog X.w (tI X.K W di) (tgOf X.K t) (tT X.K Wno dt) (tE X.K Wno de) own σ H fun x H' => rSortT X.prog X.w [x] H' Q := by
  obtain ⟨B, ρ, μ, G, q, x, R, h, gl, gx⟩ := h
  refine ⟨B, ρ, μ, G, _, x, R, h, fun xs J μ1 G1 H1 ⟨hz, hf⟩ g1 io => ?_, gx⟩
  intro D hD
  have o1 := g1.ok
  have g1' := o1.new2 (u := SetT X.prog X.w D []) hD
  have hD0 : H D = none := g1.st.dom D hD
  have nbD : ¬ isB B D := o1.notB hD
  have gD : G1 D = none := o1.sub.free hD
  have mD : μ1 D = none := o1.freeM hD
  have Rw : Rel X.K B (wipeE ρ own) μ1 (L2.wipe σ own) G1 (upd H1 D (SetT X.prog X.w D [])) := (R.go (g1.trans g1')).wipe own
  have stays : ∀ {μa μb : Mu} {Ga Ha Gb Hb : Hp} {u : HO}, Go X.K B μa Ga Ha μb Gb Hb → Ga D = none → μa D = none → Ha D = some u → Gb D = none ∧ μb D = none ∧ Hb D = some u := fun {μa μb Ga Ha Gb Hb u} g n m e => by
    refine ⟨?_, ?_, g.st.keep D _ e nbD m⟩
    · cases qq : Gb D with
      | none => rfl
      | some u =>
        rcases g.st.new D u qq with z | z | z
        · rw [n] at z; cases z
        · rw [e] at z; cases z
        · exact absurd m z
    · cases qq : μb D with
      | none => rfl
      | some u =>
        rcases g.st.cel D (by rw [qq]; intro z; cases z) with z | z
        · exact absurd m z
        · rw [e] at z; cases z
  let fin : List Str → Mu → Prop := fun ss μ2 => q (.lst ((sortU ss).map .str)) μ2
  let Inn : Nat → Hp → Prop := fun i H' => ∃ μ' G' acc L, Rel X.K B (wipeE ρ own) μ' (L2.wipe σ own) G' H' ∧ Go X.K B μ G H μ' G' H' ∧ Sub G1 G' ∧ G' D = none ∧ μ' D = none ∧ H' D = some (SetT X.prog X.w D L) ∧ (∀ z, z ∈ L ↔ z ∈ acc) ∧ L.length ≤ i ∧ scD t own dt de ρ fin (xs.drop i) acc μ'
  refine ⟨fun i m H' => m = xs.length - i ∧ i ≤ xs.length ∧ Inn i H', ⟨xs.length, by omega, Nat.zero_le _, μ1, G1, [], [], Rw, g1.trans g1', .refl _, gD, mD, upd_same, fun _ => Iff.rfl, Nat.le_refl _, hf.un⟩, ?_⟩
  rintro i m H' ⟨rfl, hle, μ', G', acc, L, R', g', sb, gD', mD', hD', hmem, hal, hf'⟩
  by_cases hlt : i < xs.length
  · rw [drop_get hlt] at hf'
    refine .inr ⟨io.go i μ' G' H' sb R'.ok hlt, Inn (i + 1), fun H2 z => ⟨xs.length - (i + 1), by omega, rfl, hlt, z⟩, fun v H2 y => ?_⟩
    obtain ⟨G2, g2, r2⟩ := io.yld i μ' G' H' v H2 xs[i] sb R'.ok (List.getElem?_eq_getElem hlt) y
    refine tg_ok hw (R'.go g2) r2 hf' fun ρ3 σ3 h3 R3 hws => ⟨hws.trans (wipe_ext (wipe_length _ _) fun j hj => wipe_get2 hj), ?_⟩
    obtain ⟨gD2, mD2, hD2⟩ := stays g2 gD' mD' hD'
    refine ⟨B, ρ3, μ', G2, _, noX, R3, h3, fun b μ3 G3 H3 h4 g3 => ?_, fun _ _ _ _ _ z => z.elim⟩
    have g23 := g2.trans g3
    obtain ⟨gD3, mD3, hD3⟩ := stays g3 gD2 mD2 hD2
    cases b with
    | false => exact ⟨μ3, G3, acc, L, R'.go g23, g'.trans g23, sb.trans g23.gx, gD3, mD3, hD3, hmem, by omega, (h4.f rfl).un⟩
    | true =>
      refine ⟨B, ρ3, μ3, G3, _, noX, R3.go g3, h4.t rfl, fun p u μ4 G4 H4 h5 g4 r4 => ?_, fun _ _ _ _ _ z => z.elim⟩
      obtain ⟨gD4, mD4, hD4⟩ := stays g4 gD3 mD3 hD3
      cases p with
      | str k =>
        have g24 := g23.trans g4
        have g := g'.trans g24
        have ok5 : Ok X.K B μ4 G4 (upd H4 D (SetT X.prog X.w D (ins1 L k))) := g4.ok.mut hD4 gD4 mD4 nbD
        refine ⟨k, L, r4.str_inv, hD4, room_of (by omega), μ4, G4, acc ++ [k], ins1 L k, ⟨ok5, (R'.go g24).len, (R'.go g24).at_⟩, ⟨ok5, ⟨g.st.gx, fun a e => ?_, fun a o e nb mm => ?_, g.st.new, g.st.cel⟩⟩, sb.trans g24.gx, gD4, mD4, upd_same, fun z => ?_, Nat.le_trans (ins1_len L k) (by omega), h5.un⟩
        · by_cases z : a = D
          · subst z; exact hD0
          · rw [upd_ne z] at e; exact g.st.dom a e
        · rw [upd_ne (ne_of_none e hD0)]
          exact g.st.keep a o e nb mm
        · rw [mem_ins1, hmem, List.mem_append, List.mem_singleton]
          exact Or.comm
      | _ => exact h5.elim
  · have e : i = xs.length := by omega
    subst e
    rw [List.drop_length] at hf'
    have hf' : q (.lst ((sortU acc).map .str)) μ' := hf'
    refine .inl ⟨io.stop _ μ' G' H' sb R'.ok (Nat.le_refl _), D, L, rfl, hD', fun p hp => ?_⟩
    have es : sortU L = sortU acc := sortU_of (sortU_up L) fun z => (mem_sortU z L).trans (hmem z)
    have gn := g'.ok.new1 (u := .lst ((sortU L).map V.str)) hp
    refine gl _ _ μ' _ _ hf' (g'.trans gn) ?_
    rw [← es]
    exact rep_lst upd_same (Reps.ofStrs _)
theorem e_sortC {X : Cx} {W : WX} {elt tg iter : Expr} {ifs : List Expr} {scope : Scope} {own : List (Str × Nat)} {p0 pos pos2 : Pos} {di : DI} {dt : DT} {de : DE} {t : Tg} (hc : X.calm = true) (nd : X.N.Nodup) (hm : X.mg "sorted" = none) (hgl : Gl X "sorted") (hi : IJ X W tg iter di) (ok : BlkOk X.N X.env.scope scope own)
    (hg : ∀ (s : Shared) (H : Hp) (C : Addr) (cl : List (Str × Addr)) (fp : List Addr), PG (X.blk s H scope (compEnvC scope cl C X.env) fp) tg (tgOf X.K t)) (ht : ∀ (s : Shared) (H : Hp) (C : Addr) (cl : List (Str × Addr)) (fp : List Addr), TsJ (X.blk s H scope (compEnvC scope cl C X.env) fp) Wno ifs dt)
    (he : ∀ (s : Shared) (H : Hp) (C : Addr) (cl : List (Str × Addr)) (fp : List Addr), EJ (X.blk s H scope (compEnvC scope cl C X.env) fp) Wno elt de) (hw : ∀ i ∈ t.idx, i ∈ own.map (·.2)) (hs : ∀ x, foldedSetIterable iter X.env x = pure x) :
    EJ X W (.Call (.Name "sorted" p0) [.SetComp elt [⟨tg, iter, ifs, 0⟩] scope pos2] [] pos) (dSortC t (own.map (·.2)) di dt de) := by
  have ha : PA X [.SetComp elt [⟨tg, iter, ifs, 0⟩] scope pos2] (tCons (tScT X.prog X.w (tI X.K W di) (tgOf X.K t) (tT X.K Wno dt) (tE X.K Wno de) (own.map (·.2))) tNil) := pa_cons (pe_scT hc nd hi ok hg ht he hs) pa_nil
  refine ⟨fun pins s σ H Q J h => ?_⟩
  refine wpAny_Call_Name_kw (ld_blt J hgl hm (show bootBuiltins "sorted" = some (.builtin "sorted") by decide +kernel) ?_ (by decide) (by decide))
  exact PyProof.Rows.callWith_builtin1 (thn (ha.run pos pins s σ H (fun vs H1 => rSortT X.prog X.w vs H1 Q) J (tsc_of hw h)) fun us s1 ⟨vs, H1, J1, r1, q1⟩ => cr_sortT hc pins s1 σ H1 vs us Q J1 r1 q1) rfl rfl
end Px

/-! # sorted(a list of texts) -/
namespace Px
open PySem PySem.Spec PyProof.Rows L2
/-- never falling -/
def riT (l : List Str) : Prop := l.Pairwise fun x y => ltT y x = false
theorem leT_trans {x y z : Str} (h : ltT y x = false) (h' : ltT z y = false) : ltT z x = false := by
  cases e : ltT z x with
  | false => rfl
  | true =>
    cases e2 : ltT x y with
    | true => rw [ltT_trans e e2] at h'; cases h'
    | false => rw [ltT_tri e2 h] at e; rw [e] at h'; cases h'
theorem rise_ri : ∀ (p : Str) (l : List Str), risingS p l = true → riT (p :: l)
  | p, [], _ => List.pairwise_singleton _ _
  | p, x :: r, h => by
    have h : (!ltT x p && risingS x r) = true := h
    obtain ⟨h1, h2⟩ := He.ba h
    have h1 : ltT x p = false := by simpa using h1
    have ri := rise_ri x r h2
    refine List.pairwise_cons.mpr ⟨fun y hy => ?_, ri⟩
    rcases List.mem_cons.mp hy with rfl | hy
    · exact h1
    · exact leT_trans h1 ((List.pairwise_cons.mp ri).1 y hy)
theorem sorted_ri {l : List Str} (h : sortedS l = true) : riT l := by
  cases l with
  | nil => exact List.Pairwise.nil
  | cons p r => exact rise_ri p r h
theorem ri_eq : ∀ {l m : List Str}, riT l → riT m → l.Perm m → l = m
  | [], m, _, _, h => (List.nil_perm.mp h).symm
  | x :: l, [], _, _, h => absurd (List.perm_nil.mp h) (by simp)
  | x :: l, y :: m, hl, hm, h => by
    obtain ⟨l1, l2⟩ := List.pairwise_cons.mp hl
    obtain ⟨m1, m2⟩ := List.pairwise_cons.mp hm
    have e : x = y := by
      rcases List.mem_cons.mp (h.mem_iff.mp List.mem_cons_self) with e | e
      · exact e
      · rcases List.mem_cons.mp (h.mem_iff.mpr List.mem_cons_self) with e2 | e2
        · exact e2.symm
        · exact ltT_tri (m1 x e) (l1 y e2)
    subst e
    rw [ri_eq l2 m2 h.cons_inv]
def insL (x : Str) : List Str → List Str
  | [] => [x]
  | y :: r => if ltT x y = true then x :: y :: r else y :: insL x r
theorem insL_perm (x : Str) : ∀ l, (insL x l).Perm (x :: l)
  | [] => .refl _
  | y :: r => by
    unfold insL
    split
    · exact .refl _
    · exact (List.Perm.cons y (insL_perm x r)).trans (List.Perm.swap x y r)
theorem ri_insL (x : Str) : ∀ {l : List Str}, riT l → riT (insL x l)
  | [], _ => List.pairwise_singleton _ _
  | y :: r, h => by
    obtain ⟨h1, h2⟩ := List.pairwise_cons.mp h
    unfold insL
    split
    · rename_i e
      have yx : ltT y x = false := by
        cases e2 : ltT y x with
        | false => rfl
        | true => have := ltT_trans e e2; rw [ltT_irr] at this; cases this
      refine List.pairwise_cons.mpr ⟨fun z hz => ?_, h⟩
      rcases List.mem_cons.mp hz with rfl | hz
      · exact yx
      · exact leT_trans yx (h1 z hz)
    · rename_i e
      refine List.pairwise_cons.mpr ⟨fun z hz => ?_, ri_insL x h2⟩
      rcases List.mem_cons.mp ((insL_perm x r).mem_iff.mp hz) with rfl | hz
      · simpa using e
      · exact h1 z hz
def sortL : List Str → List Str
  | [] => []
  | x :: l => insL x (sortL l)
theorem sortL_ri : ∀ l, riT (sortL l)
  | [] => List.Pairwise.nil
  | x :: l => ri_insL x (sortL_ri l)
theorem sortL_perm : ∀ l, (sortL l).Perm l
  | [] => .refl _
  | x :: l => (insL_perm x _).trans (List.Perm.cons x (sortL_perm l))
theorem sortL_of {l m : List Str} (h : sortedS m = true) (p : m.Perm l) : m = sortL l := ri_eq (sorted_ri h) (sortL_ri l) (p.trans (sortL_perm l).symm)
/-- the members of a sorted list, each once -/
theorem sortU_perm {l m : List Str} (p : l.Perm m) : sortU l = sortU m := sortU_of (sortU_up l) fun z => (mem_sortU z l).trans p.mem_iff
def rSortL (K : Frg) : List V → Hp → VK → Prop := fun vs H Q => ∃ (a : Addr) (xs : List Str), vs = [V.ref a] ∧ SqL K H a (xs.map V.str) ∧ ∀ p : Addr, H p = none → Q (.ref p) (upd H p (.lst ((sortL xs).map V.str)))
theorem cr_sortL {X : Cx} : CallR X (.builtin "sorted") (rSortL X.K) := by
  intro pins s σ H vs us Q J r h
  obtain ⟨a, xs, rfl, hs, q⟩ := h
  obtain ⟨its, rv, hl, hz⟩ := J.list hs
  rw [Vals.ref1 r]
  have hn := rv.length
  rw [List.length_map] at hn hz
  refine sorted_strsAny hl.isList rv.strs (by rw [← hn]; exact hz) fun out ys h1 h2 h3 => ?_
  obtain ⟨ep, he⟩ := sortedAll_at s.heap its out
  have hy := sortL_of h3 h2
  subst hy
  exact ⟨.ref _, upd H (s.heap.objs.size + 1) (.lst ((sortL xs).map V.str)), J.laid (t' := s.toks) (fun _ _ => sortedAll_old) (Nat.le_succ _) ⟨by rw [List.length_map, (sortL_perm xs).length_eq]; exact hz, out.toList, ep, vals_of_strs h1, he⟩, rfl, q _ (J.hok.fresh (Nat.le_succ _))⟩
def fSortL : Mu → List PV → (PV → Prop) → Prop := fun μ ps q => match ps with
  | [p] => (match seqOf μ p with
    | some (false, xs) => ∃ ss : List Str, xs = ss.map .str ∧ q (.lst ((sortL ss).map .str))
    | _ => False)
  | _ => False
theorem pcl_sortL {K : Frg} : PCl K (rSortL K) fSortL := fun B μ G H ps vs q Q o rs h gv => by
  unfold fSortL at h
  split at h
  · rename_i p
    split at h
    · rename_i xs e
      obtain ⟨ss, rfl, h⟩ := h
      obtain ⟨v, ws, rfl, r, rn⟩ := rs.cons_inv
      rw [rn.nil_inv]
      obtain ⟨a, us, rfl, r2, hh⟩ := seq_ok o r e
      rw [r2.strs] at hh
      rcases hh with ⟨_, hh⟩ | ⟨hh, _⟩
      · refine ⟨a, ss, rfl, .inl (.inl hh), fun p hp => ?_⟩
        exact gv _ _ _ _ h (o.new1 (u := .lst ((sortL ss).map V.str)) hp) (rep_lst upd_same (Reps.ofStrs _))
      · cases hh
    · exact h.elim
  · exact h.elim
theorem cj_sortL {X : Cx} {W : WX} : CaJ X W (.builtin "sorted") (fc fSortL) := .of cr_sortL pcl_sortL
end Px

/-! # o[i]: o an own object with __getitem__ -/
namespace Px
open PySem PySem.Spec PyProof.Rows L2
section
variable {X : Cx} {W : WX} {k : Nat} {pos : Pos} {a b : Expr} {da db : DE} {tab : Cl → Option Ct}
/-- a def called from within a builtin: it may raise -/
theorem run_inX {A' : Around} {pins : List (Addr × Obj)} {σ : L2.St} {H : Hp} {s : Shared} {Q : VK} {f : Addr} {sp : Sp} {us : List Value} {vs : List V} (Fn : FnS false X.prog X.w X.K X.mg X.base k f [] sp) (hc : X.calm = true) (hf : A'.frames = X.A.frames) (hh : A'.handled = X.A.handled) (hr : L2H.RoomH k A') (tk : L2N.Takes X W) (J : Inv X pins σ H s)
    (r : Vals vs us) (h : sp vs H Q (fun cls d H' => W cls d σ H')) : wpAny (model X.prog X.w) A' (call (.ref f) us) (EP X pins σ Q) X.xe s := by
  have e := J.env0
  have e0 : Env0 X.prog X.w X.K X.mg X.base A' X.stack s H := ⟨by rw [hf]; exact e.frames, e.mod, e.bs, e.bsz, e.funs, e.frf, e.hok, e.bare⟩
  refine wpAny_call (codeAny_mono (Fn A' X.stack s H us [] vs Q _ (.inl (by rw [hh]; exact J.ok.hd hc)) hr e0 rfl (by rw [List.append_nil]; exact r) h) fun rr s' hq => ?_)
  cases rr with
  | error er => exact tk er s' (L2N.XE.of_call J (fun _ _ _ z => z) hq)
  | ok fl =>
    cases fl with
    | ret u => exact J.after hq
    | next => exact False.elim hq
    | brk => exact False.elim hq
    | cont => exact False.elim hq
def ixO (tab : Cl → Option Ct) : FO := fun a b μ q x => match a with
  | .obj c xs => (match tab c with
    | some ct => ct [.obj c xs, b] μ q x
    | none => False)
  | _ => False
theorem e_ixO (T : MTab false X k "__getitem__" [] tab) (hfn : ∀ c ct f, tab c = some ct → Meth X.K (ca X.K c) "__getitem__" f → PySem.W.fnIn X.K f = true) (hc : X.calm = true) (hr : L2H.RoomH (k + 1) X.A) (tk : L2N.Takes X W) (ha : EJ X W a da) (hb : EJ X W b db)
    (hp : ∀ u w, subscripted b true u w = runValue (.builtin "lifetime.subscript" ⟨[u, w], []⟩)) : EJ X W (.Subscript a b pos) (dBin (ixO tab) da db) := by
  refine ⟨fun pins s σ H Q J h => ?_⟩
  refine Subscript_ (thn (ha.run pins s σ H _ J (rB_of h)) fun u s1 ⟨va, H1, J1, ru, h1⟩ => thn (hb.run pins s1 σ H1 _ J1 (rAB_of h1)) fun w s2 ⟨vb, H2, J2, rw', ⟨B, ρ, μ, G, p, p2, q, x, R, ra, rb, h2, gv, gx⟩⟩ => ?_)
  cases p with
  | obj c fs =>
    unfold ixO at h2
    cases et : tab c with
    | none => simp only [et] at h2
    | some ct =>
      simp only [et] at h2
      obtain ⟨y, dx, vs, rfl, _, ex, _⟩ := ra.obj_inv
      obtain rfl : u = Value.ref y := ru
      obtain ⟨_, f, _, me, Fn⟩ := T c ct et
      obtain ⟨od, I1⟩ := inst_at J2 (R.ok.sub _ _ ex)
      obtain ⟨mm, fr⟩ := J2.fr
      exact PySem.W.sub_K fr J2.ok.mod.kin I1 me.at_ (hfn c ct f et me) me.fn (run_inX (A' := X.A.in1) (vs := [.ref y, vb]) Fn hc rfl rfl (room_in hr (n := 1) (by decide)) tk J2 (.cons rfl (.cons rw' .nil)) (spP_of R (.cons ra (.cons rb .nil)) h2 gv gx)) (hp _ _)
  | _ => exact h2.elim
end
end Px

namespace Px
open PySem PySem.Spec PyProof.Rows L2
/-! ## a text, walked sign by sign -/
def sgnsP (z : Str) : List PV := z.cps.toList.map fun c => .str ⟨#[c]⟩
theorem itok_str {K : Frg} {B : BX} {G : Hp} (z : Str) : ItOk K B G (Its z) (sgnsP z) := by
  have hl : (sgnsP z).length = z.cps.size := by unfold sgnsP; rw [List.length_map, Array.length_toList]
  refine ⟨fun i μ G' H s o hi => by rw [hl] at hi; exact hi, fun i μ G' H v H' x s o e y => ?_, fun i μ G' H s o hi => by rw [hl] at hi; exact hi⟩
  obtain ⟨rfl, c, hc, rfl⟩ := y
  unfold sgnsP at e
  rw [List.getElem?_map, Array.getElem?_toList, hc] at e
  cases e
  exact ⟨G', .refl o, rep_str _⟩
def iStP (d : DE) : DI := fun ρ μ q x => d ρ μ (fun p μ1 => match p with
  | .str z => q (sgnsP z) μ1
  | _ => False) x
theorem i_str {X : Cx} {W : WX} {tg e : Expr} {d : DE} (h : EJ X W e d) : IJ X W tg e (iStP d) := pi_imp (pi_str h) fun σ H R ⟨B, ρ, μ, G, q, x, Rl, h, gv, gx⟩ =>
  ⟨B, ρ, μ, G, _, x, Rl, h, fun p v μ1 G1 H1 h1 g1 r1 => by
    cases p with
    | str z => exact ⟨z, r1.str_inv, gv _ _ μ1 G1 H1 h1 g1 (itok_str z)⟩
    | _ => exact h1.elim, gx⟩
def iSt (a : ZE) : ZI where
  d := fun R => iStP (a.d R)
  ck := fun c _ e => a.ck c e
  ok := fun h G => i_str (a.ok h G)
/-! ## sorted({text for ..}) -/
def zSortC (t : Tg) (own : List Nat) (i : ZI) (ts : ZTs) (a : ZE) : ZE where
  d := fun R => dSortC t own (i.d R) (ts.d R) (a.d R)
  ck := fun c e => match e with
    | .Call (.Name y _) [.SetComp elt [⟨tg, iter, ifs, as⟩] scope _] [] _ => decide (y = "sorted") && (glB c.sc "sorted" && (decide (("sorted" : Str) ∈ c.S.fre) && (decide (as = 0) && (c.cm && (blkC c.N c.sc scope (ownN c.N own) && (decide (∀ j ∈ t.idx, j ∈ own) && (noSet iter && (i.ck c tg iter && (tgCk (c.blk scope) t tg && (ts.ck (c.blk scope) ifs && a.ck (c.blk scope) elt))))))))))
    | _ => false
  ok := fun {k R X W c e} h G => by
    split at h
    · rename_i y p0 elt tg iter ifs as scope pos2 pos
      obtain ⟨g1, h⟩ := He.ba h
      obtain ⟨g2, h⟩ := He.ba h
      obtain ⟨g3, h⟩ := He.ba h
      obtain ⟨h0, h⟩ := He.ba h
      obtain ⟨h1, h⟩ := He.ba h
      obtain ⟨h2, h⟩ := He.ba h
      obtain ⟨h3, h⟩ := He.ba h
      obtain ⟨h4, h⟩ := He.ba h
      obtain ⟨h5, h⟩ := He.ba h
      obtain ⟨h6, h⟩ := He.ba h
      obtain ⟨h7, h8⟩ := He.ba h
      obtain rfl := of_decide_eq_true h0
      obtain rfl := of_decide_eq_true g1
      have bo : BlkOk X.N X.env.scope scope (ownN c.N own) := by rw [G.N, G.sc]; exact blkOk_by h2
      have r := e_sortC (t := t) (own := ownN c.N own) (p0 := p0) (pos := pos) (pos2 := pos2) (G.calm h1) G.nd (G.free g3) (G.gl g2).1 (i.ok (tg := tg) h5 G) bo (fun s H C cl fp => (G.blk h1 s H scope C cl fp).tg h6) (fun s H C cl fp => ts.ok h7 (G.blk h1 s H scope C cl fp)) (fun s H C cl fp => a.ok h8 (G.blk h1 s H scope C cl fp))
        (by rw [ownN_ix]; exact of_decide_eq_true h3) (fold_of h4)
      rw [ownN_ix] at r
      exact r
    · cases h
theorem scD_c {t : Tg} {own : List Nat} {dt : DT} {de : DE} {ρ : En} {q : List Str → Mu → Prop} {y : PV} {ys zs : List PV} {acc : List Str} {μ : Mu} (e : zs = y :: ys) (h : setT t y (wipeE ρ own) fun ρ' => dt ρ' μ (fun b μ1 => br b (de ρ' μ1 (fun p μ2 => match p with
    | .str k => Lk (scD t own dt de ρ q ys (acc ++ [k]) μ2)
    | _ => False) noX) (Lk (scD t own dt de ρ q ys acc μ1))) noX) : Lk (scD t own dt de ρ q zs acc μ) := by
  subst e
  exact ⟨h⟩
theorem scD_n {t : Tg} {own : List Nat} {dt : DT} {de : DE} {ρ : En} {q : List Str → Mu → Prop} {zs : List PV} {acc : List Str} {μ : Mu} (e : zs = []) (h : q acc μ) : Lk (scD t own dt de ρ q zs acc μ) := by
  subst e
  exact ⟨h⟩
/-- sorted(a list of texts) -/
def zSortL (a : ZE) : ZE where
  d := fun R => dBlt (fc fSortL) (dCons (a.d R) dNil)
  ck := fun c e => match e with
    | .Call (.Name y _) [e1] [] _ => decide (y = "sorted") && (glB c.sc y && (decide (y ∈ c.S.fre) && (nstar e1 && a.ck c e1)))
    | _ => false
  ok := fun {k R X W c e} h G => by
    split at h
    · rename_i y p0 e1 pos
      obtain ⟨h1, h⟩ := He.ba h
      obtain ⟨h2, h⟩ := He.ba h
      obtain ⟨h3, h⟩ := He.ba h
      obtain ⟨h4, h5⟩ := He.ba h
      obtain rfl := of_decide_eq_true h1
      obtain ⟨g1, g2, g3⟩ := G.gl h2
      exact e_blt cj_sortL (G.free h3) (by decide +kernel) (a_cons (a.ok h5 G) a_nil (star_cons h4)) g1 g3 g2 (star_cons h4) rfl
    · cases h
/-! ## o[i], o an own object -/
theorem plainIxO_of {b : Expr} (h : noSlice b = true) : ∀ u w, subscripted b true u w = runValue (.builtin "lifetime.subscript" ⟨[u, w], []⟩) := by
  intro o i
  cases b <;> first | rfl | exact absurd h Bool.false_ne_true
def zIdxO (a b : ZE) : ZE where
  d := fun R => dBin (ixO (mT R 14)) (a.d R) (b.d R)
  ck := fun c e => match e with
    | .Subscript x y _ => noSlice y && (c.cm && (a.ck c x && b.ck c y))
    | _ => false
  ok := fun {k R X W c e} h G => by
    cases e with
    | Subscript x y p =>
      obtain ⟨h1, h⟩ := He.ba h
      obtain ⟨h4, h⟩ := He.ba h
      obtain ⟨h2, h3⟩ := He.ba h
      refine e_ixO (G.mtabF 14 h4) (fun cl ct f hl hm => ?_) (G.calm h4) G.rm1 G.tk (a.ok h2 G) (b.ok h3 G) (plainIxO_of h1)
      obtain ⟨_, _, h3, h4, _, _⟩ := G.pr _ _ (look_mem hl)
      have e := hm.at_.symm.trans h3.at_
      cases e
      exact h4
    | _ => exact ff h rfl
end Px

/-! # for i, x in enumerate(a list or a tuple); for x in reversed(..) -/
namespace Px
open PySem PySem.Spec PyProof.Rows L2
theorem meets_enum1 {v : Value} {o : Obj} {H : Heap → Prop} (B : Begins v o H) :
    Meets (Builtin.«enumerate.__new__» ⟨[.type "enumerate", v], []⟩) (fun _ R s => H s.heap ∧
      R (.ok (.ret (.ref (s.heap.push o).objs.size))) { s with heap := (s.heap.push o).push { cls := .type "enumerate", data := .fields #[.none, .bool false, .ref s.heap.objs.size, rawInt 0, .none, .none] } }) :=
  .of_wp fun prog w A R s h => by
    obtain ⟨hp, g, d, tk, os⟩ := s; obtain ⟨h1, h⟩ := h
    have hsub := sub_enumerate
    have q1 : ∀ {A' : Around} {E : Value → Shared → Prop} {Q : Value → Shared → Prop}, Q (.ref hp.objs.size) ⟨hp.push o, g, d, tk, os⟩ → wpAny (model prog w) A' (pyIter v) Q E ⟨hp, g, d, tk, os⟩ :=
      fun q => B.iter prog w _ _ ⟨hp, g, d, tk, os⟩ _ h1 q
    wp_walk using q1
    refine wpAny_stack_any fun st => wpAny_pure ?_
    split
    · rename_i c _ _ _ _ _
      cases (c == Value.type "enumerate")
      · wp_walk using q1
        exact ⟨_, rfl, h⟩
      · wp_walk using q1
        exact ⟨_, rfl, h⟩
    · wp_walk using q1
      exact ⟨_, rfl, h⟩
section
variable {prog : Program} {w : World} {A : Around} {E : Value → Shared → Prop} {s : Shared}
theorem enum_begins1 {v : Value} {o : Obj} {H : Heap → Prop} {Q : Value → Shared → Prop} (B : Begins v o H) (h1 : H s.heap)
    (h : ∀ h', IsEnum h' (s.heap.objs.size + 1) s.heap.objs.size 0 .none → h'.get? s.heap.objs.size = some o → h'.objs.size = s.heap.objs.size + 2 →
      (∀ b o, s.heap.get? b = some o → h'.get? b = some o) → Q (.ref (s.heap.objs.size + 1)) { s with heap := h' }) :
    wpAny (model prog w) A (call (.type "enumerate") [v]) Q E s := by
  refine callType_new F.called_enumerate (by decide) (F.typeCall_enumerate_1 _) (F.newCall_enumerate_1 _) (fun obj => F.args_object_init_2 obj _) F.entry_enumerate_new
    (meets_enum1 B) ⟨h1, ?_⟩
  have hz : (s.heap.push o).objs.size = s.heap.objs.size + 1 := Heap.size_push ..
  show _ ∧ _
  rw [hz]
  have he : IsEnum ((s.heap.push o).push { cls := .type "enumerate", data := .fields #[.none, .bool false, .ref s.heap.objs.size, rawInt 0, .none, .none] }) (s.heap.objs.size + 1) s.heap.objs.size 0 .none := by
    have := Heap.get?_push_size (s.heap.push o) (o := { cls := .type "enumerate", data := .fields #[.none, .bool false, .ref s.heap.objs.size, rawInt 0, .none, .none] }) rfl
    rw [hz] at this; exact this
  refine ⟨⟨_, he, rfl⟩, h _ he (Heap.get?_push_of_some _ (Heap.get?_push_size _ B.free)) (by rw [Heap.size_push, hz]) fun b o x => Heap.get?_push_of_some _ (Heap.get?_push_of_some _ x)⟩
end
/-- the tuple at a, each item in a new pair -/
def IteT (K : PySem.W.Frag) (a : Addr) : It :=
  ⟨fun i H => ∃ (xs : List V) (x : V), SqT K H a xs ∧ xs[i]? = some x, fun i H v H' => ∃ T x, v = .ref T ∧ H T = none ∧ H' = upd H T (.tup [.int (i : Nat), x]) ∧ ∀ xs, SqT K H a xs → xs[i]? = some x, fun i H => ∃ xs : List V, SqT K H a xs ∧ xs.length ≤ i⟩
theorem turn_enumT {P : Program} {w : World} {K : PySem.W.Frag} {elts : List Expr} {kk : Nat} {tpos : Pos} (a e it : Addr) :
    Turn P w K (.Tuple elts kk tpos) (IteT K a) [e, it] e (fun i h => (∃ old, IsEnum h e it ((i : Nat) : Int) old) ∧ h.IsTupleIter it a i ∧ e ≠ it ∧ e ≠ a ∧ a ≠ it) where
  mem := by simp
  obj := fun i h st b hb => by
    obtain ⟨⟨old, he⟩, ⟨o, ho, hc, hd⟩, _⟩ := st
    have e' : b = e ∨ b = it := by simpa using hb
    rcases e' with z | z
    · rw [z]; exact ⟨_, he, fun v q => nomatch q⟩
    · rw [z]; exact ⟨o, ho, fun v q => by rw [hd] at q; cases q⟩
  keep := fun i h h' st k => let ⟨⟨old, he⟩, hi, hne⟩ := st; ⟨⟨old, k e (by simp) _ he⟩, hi.at fun o q => k it (by simp) o q, hne⟩
  item := by
    intro X hP hw hK hc i pins s σ H E I hf st hg
    subst hP hw hK
    obtain ⟨⟨old, he⟩, hit, hne, hea, hai⟩ := st
    obtain ⟨xs, x, hq, hx⟩ := hg
    obtain ⟨its, rv, p, hz⟩ := I.tuple hq
    obtain ⟨u, hu, ru⟩ := rv.get hx
    have hel : e < s.heap.objs.size := Heap.lt_size he
    have hil : it < s.heap.objs.size := by obtain ⟨_, q, _⟩ := hit; exact Heap.lt_size q
    have hlt : i < its.toArray.size := by
      rw [List.size_toArray]
      exact (List.getElem?_eq_some_iff.mp hu).1
    have hp : s.heap.IsTuple a its.toArray := p
    refine wpAny_pyNext_enum_itemD (Draws.tuple (show X.A.in1.handled = none from I.ok.hd hc) it a hai its.toArray) he ⟨hit, hp⟩ hlt hne (by simp only [List.mem_cons, List.not_mem_nil, or_false, not_or]; exact ⟨hne, hea⟩) fun y h' tk hy ho hst hT hsz hk => ?_
    have ey : y = u := by
      have h1 : its.toArray[i]? = some y := hy
      have h2 : its.toArray[i]? = some u := by simpa using hu
      rw [h1] at h2
      cases h2; rfl
    subst ey
    refine ⟨_, rfl, wpAny_letOwnedTupleGo_enum (s := { s with heap := h', toks := tk + 1 }) ho fun h'' he' sb => ?_⟩
    have hT2 : h''.get? s.heap.objs.size = some { cls := .type "tuple", data := .seq #[.int i tk, y] } := (sb.2 _ (Nat.ne_of_gt hel)).trans hT
    have new : ObjOk X.prog X.w (upd H s.heap.objs.size (.tup [.int (i : Nat), x])) h'' s.heap.objs.size (.tup [.int (i : Nat), x]) :=
      ⟨by show 2 ≤ sizeLine; decide, [.int i tk, y], .cons ⟨_, rfl⟩ (.cons ru .nil), ⟨_, hT2, rfl, _, rfl⟩⟩
    have I1 : Inv X pins σ (upd H s.heap.objs.size (.tup [.int (i : Nat), x])) { s with heap := h'', toks := tk + 1 } :=
      I.turnedNew (ch := [e, it]) (fun b ob hb q => (sb.2 b (fun z => hb (by simp [z]))).trans (hk b ob (fun z => hb (by simp [z])) (fun z => hb (by simp [z])) q)) hf (Nat.le_refl _) new
    refine ⟨.ref s.heap.objs.size, _, I1, rfl, ⟨_, x, rfl, I.hok.fresh (Nat.le_refl _), rfl, fun ys hy => by rw [I.tuple_inj hy hq]; exact hx⟩, ⟨⟨y, ?_⟩, hst.1.at fun o q => (sb.2 it (Ne.symm hne)).trans q, hne, hea, hai⟩, fun b hb => ?_⟩
    · have e1 : ((i + 1 : Nat) : Int) = (i : Int) + 1 := by omega
      rw [e1]; exact he'
    · have hb' : b < s.heap.objs.size := by
        have e' : b = e ∨ b = it := by simpa using hb
        rcases e' with z | z
        · rw [z]; exact hel
        · rw [z]; exact hil
      rw [upd_ne (Nat.ne_of_lt hb')]
      exact (hf b hb).1
  done := by
    intro X hP hw hK hc i pins s σ H E I hf st hg
    subst hP hw hK
    obtain ⟨⟨old, he⟩, hit, hne, hea, hai⟩ := st
    obtain ⟨xs, hq, hx⟩ := hg
    obtain ⟨its, rv, p, hz⟩ := I.tuple hq
    obtain ⟨f0, f1, f2, f3, f4, f5⟩ := hf it (by simp)
    have hl := rv.length
    have hp : s.heap.IsTuple a its.toArray := p
    have hT : s.TypeIs (.ref e) "enumerate" := ⟨_, he, rfl⟩
    unfold pyNext
    refine wpAny_bind (wpAny_attempt (wpAny_callSpecial?_slot (name := Str.ofString "__next__") hT F.slot_enumerate_next
      (wpAny_call_entry F.slot_enumerate_next hT F.entry_enumerate_next ?_ (F.args_enumerate_next_1 _))))
    show wpAny _ _ (field (.ref e) 2 >>= _) _ _ _
    refine wpAny_bind (wpAny_field he rfl (x := .ref it) rfl ?_)
    refine wpAny_bind (wpAny_nextOf_tuple_end (show X.A.in1.handled = none from I.ok.hd hc) hit hp (by simp; omega) fun h' x he' hx' => ?_)
    obtain ⟨o, ho, hc2⟩ := hx'
    refine wpAny_bind (wpAny_isInstance (T := "StopIteration") (b := true) ⟨o, ho, hc2⟩ isSubtype_stop ?_)
    exact wpAny_pure ⟨rfl, I.turned (t' := s.toks) (fun b o hb e => he' b o hb e) f0 f1 f3 f4 f5⟩
  self := fun A i s Q E st h => let ⟨⟨_, he⟩, _⟩ := st; wpAny_pyIter_enum he h
def iEnumA (K : PySem.W.Frag) (ta : TA) : TI := fun σ H R => ta σ H fun vs H1 => ∃ a xs, vs = [.ref a] ∧ ((SqL K H1 a xs ∧ R (Ite K a) H1) ∨ (SqT K H1 a xs ∧ R (IteT K a) H1))
theorem pi_enumA {X : Cx} {e : Expr} {ta : TA} {p pos tpos : Pos} {elts : List Expr} {kk : Nat} (hg : Gl X "enumerate") (hm : X.mg "enumerate" = none) (ha : PA X [e] ta) (hs : starEach [e] X.env = [(false, eval e X.env)] := by rfl) :
    PI X (.Tuple elts kk tpos) (.Call (.Name "enumerate" p) [e] [] pos) (iEnumA X.K ta) := by
  refine ⟨fun pins s σ H R I h => ?_⟩
  refine Call_ (ld_blt I hg hm boot_enumerate (PyProof.Rows.callWith_type1 (thn (ha.run pos pins s σ H _ I h) fun us s1 ⟨vs, H1, I1, r1, q1⟩ => ?_) hs rfl))
  obtain ⟨a, xs, ex, q1⟩ := q1
  subst ex
  cases r1 with
  | cons r rr =>
    cases rr
    cases r
    have fresh2 : ∀ b, b ∈ [s1.heap.objs.size + 1, s1.heap.objs.size] → FpOk X pins H1 b := fun b hb => by
      have e' : b = s1.heap.objs.size + 1 ∨ b = s1.heap.objs.size := by simpa using hb
      have hle : s1.heap.objs.size ≤ b := by
        rcases e' with z | z
        · rw [z]; exact Nat.le_add_right _ _
        · rw [z]; exact Nat.le_refl _
      exact I1.fpOk hle (I1.hok.fresh hle)
    rcases q1 with ⟨hq, q⟩ | ⟨hq, q⟩
    · obtain ⟨its, rv, p', hz⟩ := I1.list hq
      refine call_enumerate_list p'.isList fun h' he hit hsz hk => wpAny_pyIter_enum he ?_
      have I2 : Inv X pins σ H1 { s1 with heap := h' } := I1.kept (t' := s1.toks) hk
      exact ⟨s1.heap.objs.size + 1, [s1.heap.objs.size + 1, s1.heap.objs.size], _, _, H1, rfl, I2, turn_enum a (s1.heap.objs.size + 1) s1.heap.objs.size, ⟨⟨.none, he⟩, hit, Nat.succ_ne_self _⟩, fresh2, q⟩
    · obtain ⟨its, rv, p', hz⟩ := I1.tuple hq
      have hp : s1.heap.IsTuple a its.toArray := p'
      have hal : a < s1.heap.objs.size := by obtain ⟨o, ho, _⟩ := id hp; exact Heap.lt_size ho
      refine enum_begins1 (begins_tuple a its.toArray) hp fun h' he hit hsz hk => wpAny_pyIter_enum he ?_
      have I2 : Inv X pins σ H1 { s1 with heap := h' } := I1.kept (t' := s1.toks) hk
      exact ⟨s1.heap.objs.size + 1, [s1.heap.objs.size + 1, s1.heap.objs.size], _, _, H1, rfl, I2, turn_enumT a (s1.heap.objs.size + 1) s1.heap.objs.size, ⟨⟨.none, he⟩, ⟨_, hit, rfl, rfl⟩, Nat.succ_ne_self _, Nat.ne_of_gt (Nat.lt_succ_of_lt hal), Nat.ne_of_lt hal⟩, fresh2, q⟩
/-! ## the plain reading -/
def enumP : Nat → List PV → List PV
  | _, [] => []
  | i, x :: xs => .tup [.int (i : Nat), x] :: enumP (i + 1) xs
theorem enumP_len : ∀ (i : Nat) (xs : List PV), (enumP i xs).length = xs.length
  | _, [] => rfl
  | i, x :: xs => by
    show (enumP (i + 1) xs).length + 1 = xs.length + 1
    rw [enumP_len (i + 1) xs]
theorem enumP_get : ∀ {j i : Nat} {xs : List PV} {y : PV}, (enumP j xs)[i]? = some y → ∃ x, xs[i]? = some x ∧ y = .tup [.int ((j + i : Nat) : Int), x]
  | j, i, [], y, h => by cases i <;> cases h
  | j, 0, x :: xs, y, h => by
    have h : some (PV.tup [.int (j : Nat), x]) = some y := h
    cases h
    exact ⟨x, rfl, rfl⟩
  | j, i + 1, x :: xs, y, h => by
    have h : (enumP (j + 1) xs)[i]? = some y := h
    obtain ⟨z, e, rfl⟩ := enumP_get h
    refine ⟨z, e, ?_⟩
    have : j + 1 + i = j + (i + 1) := by omega
    rw [this]
theorem itok_enum {K : Frg} {B : BX} {G : Hp} {a : Addr} {xs : List PV} {vs : List V} (sq : SqL K G a vs) (rs : Reps K B G xs vs) : ItOk K B G (Ite K a) (enumP 0 xs) := by
  have hl := rs.length
  refine ⟨fun i μ G' H s o hi => ?_, fun i μ G' H v H' x s o e y => ?_, fun i μ G' H s o hi => ⟨vs, o.sub.l (s.l sq), by rw [enumP_len] at hi; omega⟩⟩
  · rw [enumP_len] at hi
    have hi' : i < vs.length := by omega
    exact ⟨vs, vs[i], o.sub.l (s.l sq), by simp [hi']⟩
  · obtain ⟨T, u, rfl, hT, rfl, hy⟩ := y
    obtain ⟨z, ez, rfl⟩ := enumP_get e
    have e1 := hy vs (o.sub.l (s.l sq))
    obtain ⟨u2, e2, r⟩ := rs.get ez
    rw [e1] at e2
    cases e2
    have g := o.new1 (u := .tup [.int (i : Nat), u]) hT
    refine ⟨_, g, ?_⟩
    rw [Nat.zero_add]
    exact rep_tup (.inl (.inl upd_same)) (.cons (by simp only [Rep]) (.cons ((r.mono s).mono g.gx) .nil))
theorem itok_enumT {K : Frg} {B : BX} {G : Hp} {a : Addr} {xs : List PV} {vs : List V} (sq : SqT K G a vs) (rs : Reps K B G xs vs) : ItOk K B G (IteT K a) (enumP 0 xs) := by
  have hl := rs.length
  refine ⟨fun i μ G' H s o hi => ?_, fun i μ G' H v H' x s o e y => ?_, fun i μ G' H s o hi => ⟨vs, o.sub.t (s.t sq), by rw [enumP_len] at hi; omega⟩⟩
  · rw [enumP_len] at hi
    have hi' : i < vs.length := by omega
    exact ⟨vs, vs[i], o.sub.t (s.t sq), by simp [hi']⟩
  · obtain ⟨T, u, rfl, hT, rfl, hy⟩ := y
    obtain ⟨z, ez, rfl⟩ := enumP_get e
    have e1 := hy vs (o.sub.t (s.t sq))
    obtain ⟨u2, e2, r⟩ := rs.get ez
    rw [e1] at e2
    cases e2
    have g := o.new1 (u := .tup [.int (i : Nat), u]) hT
    refine ⟨_, g, ?_⟩
    rw [Nat.zero_add]
    exact rep_tup (.inl (.inl upd_same)) (.cons (by simp only [Rep]) (.cons ((r.mono s).mono g.gx) .nil))
def enP (ps : List PV) (q : List PV → Prop) : Prop := match ps with
  | [.lst xs] => q (enumP 0 xs)
  | [.tup xs] => q (enumP 0 xs)
  | _ => False
theorem enP_inv {ps : List PV} {q : List PV → Prop} (h : enP ps q) : ∃ xs, (ps = [.lst xs] ∨ ps = [.tup xs]) ∧ q (enumP 0 xs) := by
  unfold enP at h
  split at h
  · exact ⟨_, .inl rfl, h⟩
  · exact ⟨_, .inr rfl, h⟩
  · exact h.elim
def iEn (d : DA) : DI := fun ρ μ q x => d ρ μ (fun ps μ1 => enP ps fun xs => q xs μ1) x
theorem i_enum {X : Cx} {W : WX} {e : Expr} {ds : DA} {p pos tpos : Pos} {elts : List Expr} {kk : Nat} (hm : X.mg "enumerate" = none) (ha : AJ X W [e] ds) (hg : Gl X "enumerate" := by rfl) (hs : starEach [e] X.env = [(false, eval e X.env)] := by rfl) :
    IJ X W (.Tuple elts kk tpos) (.Call (.Name "enumerate" p) [e] [] pos) (iEn ds) := pi_imp (pi_enumA hg hm ha hs) fun σ H R ⟨B, ρ, μ, G, q, x, Rl, h, gv, gx⟩ =>
  ⟨B, ρ, μ, G, _, x, Rl, h, fun ps vs μ1 G1 H1 h0 g1 r1 => by
    obtain ⟨xs, rfl | rfl, h1⟩ := enP_inv h0
    · obtain ⟨v, ws, rfl, r, rs⟩ := r1.cons_inv
      obtain rfl := rs.nil_inv
      obtain ⟨a, vs, rfl, sq, rs⟩ := r.lst_inv
      exact ⟨a, vs, rfl, .inl ⟨.inl (.inl (g1.ok.sub _ _ sq)), gv _ _ μ1 G1 H1 h1 g1 (itok_enum (.inl (.inl sq)) rs)⟩⟩
    · obtain ⟨v, ws, rfl, r, rs⟩ := r1.cons_inv
      obtain rfl := rs.nil_inv
      obtain ⟨a, vs, rfl, sq, rs⟩ := r.tup_inv
      exact ⟨a, vs, rfl, .inr ⟨g1.ok.sub.t sq, gv _ _ μ1 G1 H1 h1 g1 (itok_enumT sq rs)⟩⟩, gx⟩
/-! ## reversed -/
theorem itok_rev {K : Frg} {B : BX} {G : Hp} {a : Addr} {xs : List PV} {vs : List V} (sq : SqL K G a vs) (rs : Reps K B G xs vs) : ItOk K B G (Itv K a vs.length) xs.reverse := by
  have hl := rs.length
  refine ⟨fun i μ G' H s o hi => ?_, fun i μ G' H v H' x s o e y => ?_, fun i μ G' H s o hi => by rw [List.length_reverse] at hi; show vs.length ≤ i; omega⟩
  · rw [List.length_reverse] at hi
    exact ⟨by omega, vs, vs[vs.length - 1 - i]'(by omega), o.sub.l (s.l sq), List.getElem?_eq_getElem _⟩
  · obtain ⟨rfl, hy⟩ := y
    have hi : i < xs.length := by have := lt_of_some e; rwa [List.length_reverse] at this
    rw [List.getElem?_reverse hi] at e
    have e1 := hy vs (o.sub.l (s.l sq))
    obtain ⟨u, e2, r⟩ := rs.get e
    rw [hl] at e1
    rw [e1] at e2
    cases e2
    exact ⟨G', .refl o, r.mono s⟩
theorem itok_revT {K : Frg} {B : BX} {G : Hp} {a : Addr} {xs : List PV} {vs : List V} (sq : SqT K G a vs) (rs : Reps K B G xs vs) : ItOk K B G (RT.ItvT K a vs.length) xs.reverse := by
  have hl := rs.length
  refine ⟨fun i μ G' H s o hi => ?_, fun i μ G' H v H' x s o e y => ?_, fun i μ G' H s o hi => by rw [List.length_reverse] at hi; show vs.length ≤ i; omega⟩
  · rw [List.length_reverse] at hi
    exact ⟨by omega, vs, vs[vs.length - 1 - i]'(by omega), o.sub.t (s.t sq), List.getElem?_eq_getElem _⟩
  · obtain ⟨rfl, hy⟩ := y
    have hi : i < xs.length := by have := lt_of_some e; rwa [List.length_reverse] at this
    rw [List.getElem?_reverse hi] at e
    have e1 := hy vs (o.sub.t (s.t sq))
    obtain ⟨u, e2, r⟩ := rs.get e
    rw [hl] at e1
    rw [e1] at e2
    cases e2
    exact ⟨G', .refl o, r.mono s⟩
def iRv (d : DE) : DI := fun ρ μ q x => d ρ μ (fun p μ1 => itP p fun xs => q xs.reverse μ1) x
theorem i_rev {X : Cx} {W : WX} {tg e : Expr} {d : DE} {p pos : Pos} (hm : X.mg "reversed" = none) (he : EJ X W e d) (hg : Gl X "reversed" := by rfl) (hs : starEach [e] X.env = (false, eval e X.env) :: starEach [] X.env := by rfl) :
    IJ X W tg (.Call (.Name "reversed" p) [e] [] pos) (iRv d) := pi_imp (RT.pi_revA hg hm he hs) fun σ H R ⟨B, ρ, μ, G, q, x, Rl, h, gv, gx⟩ =>
  ⟨B, ρ, μ, G, _, x, Rl, h, fun p v μ1 G1 H1 h1 g1 r1 => by
    cases p with
    | lst xs =>
      obtain ⟨a, vs, rfl, sq, rs⟩ := r1.lst_inv
      exact ⟨a, vs, rfl, .inl ⟨.inl (.inl (g1.ok.sub _ _ sq)), gv _ _ μ1 G1 H1 h1 g1 (itok_rev (.inl (.inl sq)) rs)⟩⟩
    | tup xs =>
      obtain ⟨a, vs, rfl, sq, rs⟩ := r1.tup_inv
      exact ⟨a, vs, rfl, .inr ⟨g1.ok.sub.t sq, gv _ _ μ1 G1 H1 h1 g1 (itok_revT sq rs)⟩⟩
    | _ => exact h1.elim, gx⟩
end Px

/-! # sorted(a list or a tuple of ints), list(range(..)) -/
namespace Px
open PySem PySem.Spec PyProof.Rows L2
section
variable {prog : Program} {w : World} {A : Around} {E : Value → Shared → Prop} {s : Shared}
theorem collect_tup {l : Addr} {vs : List Value} {Q : List Value → Shared → Prop} (hl : s.heap.IsTuple l vs.toArray)
    (h : Q vs { s with heap := (s.heap.push (seqObj "list" #[] 0)).update s.heap.objs.size (Obj.mapSeq (· ++ vs.toArray)) }) (hsz : vs.length ≤ sizeLine) :
    wpAny (model prog w) A (collect (.ref l)) Q E s := by
  obtain ⟨o, ho, hc, n, hd⟩ := id hl
  unfold collect
  refine wpAny_bind (wpAny_runValue (codeAny_builtin entry_proto_collect' ?_))
  show wpAny _ _ (do again (.builtin "list.__iadd__" ⟨[← newList [], .ref l], []⟩)) _ _ s
  refine wpAny_bind (wpAny_newList (wpAny_pure ⟨Code.quiet_builtin _ (by decide +kernel), codeAny_builtin entry_list_iadd' ?_⟩))
  show wpAny _ _ (Builtin.List.listExtendWith (.ref s.heap.objs.size) (.ref l) (.ref s.heap.objs.size)) _ _ { s with heap := s.heap.push (seqObj "list" #[] 0) }
  unfold Builtin.List.listExtendWith
  have ho' : (s.heap.push (seqObj "list" #[] 0)).get? l = some o := Heap.get?_push_of_some _ ho
  refine wpAny_bind (wpAny_typeOf (T := "tuple") ⟨o, ho', hc⟩ ?_)
  have ht : (Value.type "tuple" == Value.type "tuple") = true := by rfl
  rw [if_pos (by rw [ht]; simp)]
  refine wpAny_bind (listItems_at ho' hd ?_)
  refine wpAny_bind (listItems_at (xs := #[]) (n := 0) (Heap.get?_push_size _ rfl) rfl ?_)
  rw [if_neg (by simp)]
  refine wpAny_bind (listUpdate_at (xs := #[]) (n := 0) (Heap.get?_push_size _ rfl) rfl ?_ (Nat.zero_le _) (by show (#[] ++ vs.toArray).size ≤ sizeLine + 1; simp only [Array.size_append, List.size_toArray, List.length_nil]; omega))
  refine wpAny_pure ?_
  show wpAny (model prog w) A (do
      let o ← load s.heap.objs.size
      match o.data with
      | .seq xs _ => pure xs.toList
      | _ => unsupported "internal:collect") Q E { s with heap := (s.heap.push (seqObj "list" #[] 0)).update s.heap.objs.size (Obj.mapSeq (· ++ vs.toArray)) }
  refine wpAny_bind (wpAny_load (get?_update_seq (Heap.get?_push_size _ rfl) _) ?_)
  show wpAny _ _ (pure ((#[] : Array Value) ++ vs.toArray).toList) Q E _
  rw [show ((#[] : Array Value) ++ vs.toArray).toList = vs by simp]
  exact wpAny_pure h
/-- sorted(a tuple) -/
theorem sorted_ordT {l : Addr} {vs : List Value} {ltv : Value → Value → Bool} {Q : Value → Shared → Prop} (O : SrtO.Swo ltv) (hl : s.heap.IsTuple l vs.toArray) (hz : vs.length ≤ sizeLine)
    (hS : 2 ≤ vs.length → ∀ (h₁ : Heap) (a : Addr), h₁.get? a = some (seqObj "list" vs.toArray 0) → (∀ b o, s.heap.get? b = some o → b ≠ a ∧ h₁.get? b = some o) → SrtO.SortableO prog w A.in1.in1 { s with heap := h₁ } a vs ltv)
    (h : ∀ out : List Value, SrtO.Srtd ltv out → SrtO.Stb ltv out vs → Q (.ref (s.heap.objs.size + 1)) { s with heap := sortedAll s.heap vs out.toArray }) :
    wpAny (model prog w) A (call (.builtin "sorted") [.ref l]) Q E s := by
  refine Calls.call_function_entry kind_sorted plain_sorted entry_sorted (args_sorted1 _) ?_
  unfold Builtin.«sorted»
  refine wpAny_bind (m := checkCount "sorted" 1 1 _) (wpAny_pure ?_)
  refine wpAny_bind (collect_tup hl ?_ hz)
  refine wpAny_bind (wpAny_newList ?_ hz)
  have hsz : ((s.heap.push (seqObj "list" #[] 0)).update s.heap.objs.size (Obj.mapSeq (· ++ vs.toArray))).objs.size = s.heap.objs.size + 1 := by
    rw [Heap.size_update, size_push']
  have hoL : (((s.heap.push (seqObj "list" #[] 0)).update s.heap.objs.size (Obj.mapSeq (· ++ vs.toArray))).push (seqObj "list" vs.toArray 0)).get? (s.heap.objs.size + 1) = some (seqObj "list" vs.toArray 0) := by
    rw [← hsz]; exact Heap.get?_push_size _ rfl
  have keep : ∀ b o, s.heap.get? b = some o → b ≠ s.heap.objs.size + 1 ∧ (((s.heap.push (seqObj "list" #[] 0)).update s.heap.objs.size (Obj.mapSeq (· ++ vs.toArray))).push (seqObj "list" vs.toArray 0)).get? b = some o := fun b o q => by
    have hlt : b < s.heap.objs.size := Heap.lt_size q
    refine ⟨Nat.ne_of_lt (Nat.lt_succ_of_lt hlt), Heap.get?_push_of_some _ ?_⟩
    rw [Heap.get?_update_ne _ _ _ _ (Nat.ne_of_lt hlt)]
    exact Heap.get?_push_of_some _ q
  show wpAny _ _ _ _ _ { s with heap := ((s.heap.push (seqObj "list" #[] 0)).update s.heap.objs.size (Obj.mapSeq (· ++ vs.toArray))).push (seqObj "list" vs.toArray 0) }
  rw [hsz]
  refine wpAny_bind (wpAny_holding (wpAny_call_entry slot_list_sort ⟨_, hoL, rfl⟩ entry_list_sort (SrtO.list_sort_ord O hoL hz (fun h2 => hS h2 _ _ hoL keep) fun out hs hb => ⟨_, rfl, ?_⟩) (args_list_sort _)))
  exact wpAny_pure ⟨_, rfl, h out hs hb⟩
end
/-! ## a sorted list of ints -/
def riI (l : List Int) : Prop := l.Pairwise (· ≤ ·)
def insI (x : Int) : List Int → List Int
  | [] => [x]
  | y :: r => if x ≤ y then x :: y :: r else y :: insI x r
theorem insI_perm (x : Int) : ∀ l, (insI x l).Perm (x :: l)
  | [] => .refl _
  | y :: r => by
    unfold insI
    split
    · exact .refl _
    · exact (List.Perm.cons y (insI_perm x r)).trans (List.Perm.swap x y r)
theorem ri_insI (x : Int) : ∀ {l : List Int}, riI l → riI (insI x l)
  | [], _ => List.pairwise_singleton _ _
  | y :: r, h => by
    obtain ⟨h1, h2⟩ := List.pairwise_cons.mp h
    unfold insI
    split
    · rename_i e
      refine List.pairwise_cons.mpr ⟨fun z hz => ?_, h⟩
      rcases List.mem_cons.mp hz with rfl | hz
      · exact e
      · exact Int.le_trans e (h1 z hz)
    · rename_i e
      refine List.pairwise_cons.mpr ⟨fun z hz => ?_, ri_insI x h2⟩
      rcases List.mem_cons.mp ((insI_perm x r).mem_iff.mp hz) with rfl | hz
      · omega
      · exact h1 z hz
def sortI : List Int → List Int
  | [] => []
  | x :: l => insI x (sortI l)
theorem sortI_ri : ∀ l, riI (sortI l)
  | [] => List.Pairwise.nil
  | x :: l => ri_insI x (sortI_ri l)
theorem sortI_perm : ∀ l, (sortI l).Perm l
  | [] => .refl _
  | x :: l => (insI_perm x _).trans (List.Perm.cons x (sortI_perm l))
theorem riI_eq : ∀ {l m : List Int}, riI l → riI m → l.Perm m → l = m
  | [], m, _, _, h => (List.nil_perm.mp h).symm
  | x :: l, [], _, _, h => absurd (List.perm_nil.mp h) (by simp)
  | x :: l, y :: m, hl, hm, h => by
    obtain ⟨l1, l2⟩ := List.pairwise_cons.mp hl
    obtain ⟨m1, m2⟩ := List.pairwise_cons.mp hm
    have e : x = y := by
      rcases List.mem_cons.mp (h.mem_iff.mp List.mem_cons_self) with e | e
      · exact e
      · rcases List.mem_cons.mp (h.mem_iff.mpr List.mem_cons_self) with e2 | e2
        · exact e2.symm
        · have := m1 x e
          have := l1 y e2
          omega
    subst e
    rw [riI_eq l2 m2 h.cons_inv]
theorem sortI_of {l m : List Int} (h : riI m) (p : m.Perm l) : m = sortI l := riI_eq h (sortI_ri l) (p.trans (sortI_perm l).symm)
def rSortI (K : Frg) : List V → Hp → VK → Prop := fun vs H Q => ∃ (a : Addr) (xs : List Int), vs = [V.ref a] ∧ (SqL K H a (xs.map V.int) ∨ SqT K H a (xs.map V.int)) ∧ ∀ p : Addr, H p = none → Q (.ref p) (upd H p (.lst ((sortI xs).map V.int)))
theorem cr_sortI {X : Cx} : CallR X (.builtin "sorted") (rSortI X.K) := by
  intro pins s σ H vs us Q J r h
  obtain ⟨a, xs, rfl, hs, q⟩ := h
  rw [Vals.ref1 r]
  have fin : ∀ (its : List Value), Vals (xs.map V.int) its → (xs.map V.int).length ≤ sizeLine → ∀ out : List Value, SrtO.Srtd SrtO.ltIv out → SrtO.Stb SrtO.ltIv out its → EP X pins σ Q (.ref (s.heap.objs.size + 1)) { s with heap := sortedAll s.heap its out.toArray } := fun its rv hz out h1 h2 => by
    obtain ⟨k1, k2, k3⟩ := SrtO.ints_out rv.ints h1 h2
    obtain ⟨ep, he⟩ := sortedAll_at s.heap its out.toArray
    have hy := sortI_of k3 k2
    rw [hy] at k1
    have hl : (sortI xs).length = xs.length := (sortI_perm xs).length_eq
    rw [List.length_map] at hz
    exact ⟨.ref _, upd H (s.heap.objs.size + 1) (.lst ((sortI xs).map V.int)), J.laid (t' := s.toks) (fun _ _ => sortedAll_old) (Nat.le_succ _) ⟨by rw [List.length_map, hl]; exact hz, out, ep, vals_of_ints k1, he⟩, rfl, q _ (J.hok.fresh (Nat.le_succ _))⟩
  rcases hs with hs | hs
  · obtain ⟨its, rv, hl, hz⟩ := J.list hs
    exact SrtO.sorted_ord SrtO.swo_int hl.isList (by rw [← rv.length]; exact hz) (fun h2 h₁ a' _ _ => SrtO.ints_sortable rv.ints h2) fun out h1 h2 => fin its rv hz out h1 h2
  · obtain ⟨its, rv, hl, hz⟩ := J.tuple hs
    exact sorted_ordT SrtO.swo_int (show s.heap.IsTuple a its.toArray from hl) (by rw [← rv.length]; exact hz) (fun h2 h₁ a' _ _ => SrtO.ints_sortable rv.ints h2) fun out h1 h2 => fin its rv hz out h1 h2
def fSortI : Mu → List PV → (PV → Prop) → Prop := fun μ ps q => match ps with
  | [p] => (match seqOf μ p with
    | some (_, xs) => ∃ ss : List Int, xs = ss.map .int ∧ q (.lst ((sortI ss).map .int))
    | _ => False)
  | _ => False
theorem pcl_sortI {K : Frg} : PCl K (rSortI K) fSortI := fun B μ G H ps vs q Q o rs h gv => by
  unfold fSortI at h
  split at h
  · rename_i p
    split at h
    · rename_i b xs e
      obtain ⟨ss, rfl, h⟩ := h
      obtain ⟨v, ws, rfl, r, rn⟩ := rs.cons_inv
      rw [rn.nil_inv]
      obtain ⟨a, us, rfl, r2, hh⟩ := seq_ok o r e
      rw [r2.ints] at hh
      refine ⟨a, ss, rfl, ?_, fun p hp => gv _ _ _ _ h (o.new1 (u := .lst ((sortI ss).map V.int)) hp) (rep_lst upd_same (Reps.ofInts _))⟩
      rcases hh with ⟨_, hh⟩ | ⟨_, hh⟩
      · exact .inl (.inl (.inl hh))
      · exact .inr hh
    · exact h.elim
  · exact h.elim
theorem cj_sortI {X : Cx} {W : WX} : CaJ X W (.builtin "sorted") (fc fSortI) := .of cr_sortI pcl_sortI
/-! ## list(range(n)) -/
def lRg1 (d : DE) : DL := fun ρ μ q x => d ρ μ (fun p μ1 => match p with
  | .int n => n ≤ 16777216 ∧ -16777216 ≤ n ∧ q (rangeP 0 n.toNat) μ1
  | _ => False) x
theorem l_listRg {X : Cx} {W : WX} {e : Expr} {d : DE} {p p2 pos pos2 : Pos} (hc : X.calm = true) (hm : X.mg "list" = none) (hm2 : X.mg "range" = none) (he : EJ X W e d) (hg : Gl X "list" := by rfl) (hg2 : Gl X "range" := by rfl) (na : starEach [e] X.env = (false, eval e X.env) :: starEach [] X.env := by rfl)
    (na2 : starEach [.Call (.Name "range" p2) [e] [] pos2] X.env = (false, eval (.Call (.Name "range" p2) [e] [] pos2) X.env) :: starEach [] X.env := by rfl) :
    LJ X W (.Call (.Name "list" p) [.Call (.Name "range" p2) [e] [] pos2] [] pos) (lRg1 d) := pe_imp (pe_listRg hc hg hm (prg_1 hg2 hm2 he na) na2) fun σ H Q ⟨B, ρ, μ, G, q, x, R, h, gv, gx⟩ =>
  ⟨B, ρ, μ, G, _, x, R, h, fun p v μ1 G1 H1 h1 g1 r1 => by
    cases p with
    | int n =>
      obtain ⟨h1, h2, h3⟩ := h1
      refine ⟨n, r1.int_inv, ⟨by omega, by omega, by omega, by omega, by omega⟩, fun l hl => ?_⟩
      have gn := g1.ok.new2 (u := .lst (rgV 0 n)) hl
      refine gv _ l _ μ1 G1 _ h3 (g1.trans gn) (g1.st.dom l hl) (g1.ok.sub.free hl) (g1.ok.freeM hl) upd_same ?_
      unfold rgV rangeP
      rw [Int.sub_zero]
      have e : ∀ l : List Nat, Reps X.K B G1 (l.map fun i => PV.int (0 + (i : Nat))) (l.map fun i => V.int (0 + (i : Nat))) := fun l => by
        induction l with
        | nil => exact .nil
        | cons i l ih => exact .cons (rep_int _) ih
      exact e _
    | _ => exact h1.elim, gx⟩
end Px

namespace Px
open PySem PySem.Spec PyProof.Rows L2
/-! ## enumerate(e), reversed(e) -/
def tupE : Expr → Bool
  | .Tuple _ _ _ => true
  | _ => false
def iEnu (a : ZE) : ZI where
  d := fun R => iEn (dCons (a.d R) dNil)
  ck := fun c tg e => match e with
    | .Call (.Name y _) [x] [] _ => tupE tg && (decide (y = "enumerate") && (glB c.sc "enumerate" && (decide (("enumerate" : Str) ∈ c.S.fre) && (nstar x && a.ck c x))))
    | _ => false
  ok := fun {k R X W c tg e} h G => by
    split at h
    · obtain ⟨h0, h⟩ := He.ba h
      obtain ⟨h1, h⟩ := He.ba h
      obtain ⟨h2, h⟩ := He.ba h
      obtain ⟨h3, h⟩ := He.ba h
      obtain ⟨h4, h5⟩ := He.ba h
      obtain rfl := of_decide_eq_true h1
      cases tg with
      | Tuple es n p => exact i_enum (G.free h3) (a_cons (a.ok h5 G) a_nil (star_cons h4)) (G.gl h2).1 (star_cons h4)
      | _ => exact ff h0 rfl
    · cases h
def iRev (a : ZE) : ZI where
  d := fun R => iRv (a.d R)
  ck := fun c _ e => match e with
    | .Call (.Name y _) [x] [] _ => decide (y = "reversed") && (glB c.sc "reversed" && (decide (("reversed" : Str) ∈ c.S.fre) && (nstar x && a.ck c x)))
    | _ => false
  ok := fun {k R X W c tg e} h G => by
    split at h
    · obtain ⟨h1, h⟩ := He.ba h
      obtain ⟨h2, h⟩ := He.ba h
      obtain ⟨h3, h⟩ := He.ba h
      obtain ⟨h4, h5⟩ := He.ba h
      obtain rfl := of_decide_eq_true h1
      exact i_rev (G.free h3) (a.ok h5 G) (G.gl h2).1 (star_cons h4)
    · cases h
/-- sorted(a list or a tuple of ints) -/
def zSortI (a : ZE) : ZE where
  d := fun R => dBlt (fc fSortI) (dCons (a.d R) dNil)
  ck := fun c e => match e with
    | .Call (.Name y _) [e1] [] _ => decide (y = "sorted") && (glB c.sc y && (decide (y ∈ c.S.fre) && (nstar e1 && a.ck c e1)))
    | _ => false
  ok := fun {k R X W c e} h G => by
    split at h
    · rename_i y p0 e1 pos
      obtain ⟨h1, h⟩ := He.ba h
      obtain ⟨h2, h⟩ := He.ba h
      obtain ⟨h3, h⟩ := He.ba h
      obtain ⟨h4, h5⟩ := He.ba h
      obtain rfl := of_decide_eq_true h1
      obtain ⟨g1, g2, g3⟩ := G.gl h2
      exact e_blt cj_sortI (G.free h3) (by decide +kernel) (a_cons (a.ok h5 G) a_nil (star_cons h4)) g1 g3 g2 (star_cons h4) rfl
    · cases h
/-- list(range(n)) -/
def zRgL (a : ZE) : ZL where
  d := fun R => lRg1 (a.d R)
  ck := fun c e => match e with
    | .Call (.Name y _) [.Call (.Name z _) [x] [] _] [] _ => decide (y = "list") && (decide (z = "range") && (c.cm && (glB c.sc "list" && (glB c.sc "range" && (decide (("list" : Str) ∈ c.S.fre) && (decide (("range" : Str) ∈ c.S.fre) && (nstar x && a.ck c x)))))))
    | _ => false
  ok := fun {k R X W c e} h G => by
    split at h
    · obtain ⟨h1, h⟩ := He.ba h
      obtain ⟨h2, h⟩ := He.ba h
      obtain ⟨h3, h⟩ := He.ba h
      obtain ⟨h4, h⟩ := He.ba h
      obtain ⟨h5, h⟩ := He.ba h
      obtain ⟨h6, h⟩ := He.ba h
      obtain ⟨h7, h⟩ := He.ba h
      obtain ⟨h8, h9⟩ := He.ba h
      obtain rfl := of_decide_eq_true h1
      obtain rfl := of_decide_eq_true h2
      exact l_listRg (G.calm h3) (G.free h6) (G.free h7) (a.ok h9 G) (G.gl h4).1 (G.gl h5).1 (star_cons h8) rfl
    · cases h
/-! ## raise C("..") of an error without an __init__ of its own -/
def dRaise0 (c : Cl) : DS := fun P ρ μ => P.xc (c, []) ρ μ
theorem s_raise0 {X : Cx} {W : WX} {c : Cl} {m : Str} {j : Nat} {p p2 pos pos' : Pos} (hf : c.flds = []) (xc : xcB X.K c = true) (ow : owB X.K c = true) (hm : X.mg c.name = some (.ref (ca X.K c))) (hc : X.calm = true) (tk : L2N.Takes X W) (hg : Gl X c.name) (hd : (c.name == ("__debug__" : Str)) = false) :
    SJ X W (.Raise (some (.Call (.Name c.name p) [.Constant (.str m) j p2] [] pos)) none pos') (dRaise0 c) := by
  obtain ⟨o1, o⟩ := He.ba ow
  obtain ⟨o2, o⟩ := He.ba o
  obtain ⟨o3, o4⟩ := He.ba o
  exact ps_imp (L2N.ps_raise hc tk (L2N.pmk_own PySem.F.excBase_ValueError o1 hm o2 (raises_own (of_decide_eq_true o3) (of_decide_eq_true o4)) hg hd)) fun D σ H ⟨B, ρ, μ, G, P, R, h, eo⟩ =>
    eo.xc (c, []) none ρ σ μ G H h R (.refl R.ok) ⟨xc, .inl ⟨hf, rfl, rfl⟩⟩
def sRaise0 (cl : Cl) : ZS where
  d := fun _ => dRaise0 cl
  ck := fun c e => match e with
    | .Raise (some (.Call (.Name y _) [.Constant (.str _) _ _] [] _)) none _ => decide (y = cl.name) && (glB c.sc y && (decide (cl ∈ c.S.ow) && (decide (cl ∈ c.S.xs) && (decide (cl.flds = []) && c.cm))))
    | _ => false
  ok := fun {k R X W c e} h G => by
    split at h
    · obtain ⟨h1, h⟩ := He.ba h
      obtain ⟨h2, h⟩ := He.ba h
      obtain ⟨h3, h⟩ := He.ba h
      obtain ⟨h4, h⟩ := He.ba h
      obtain ⟨h5, h6⟩ := He.ba h
      obtain rfl := of_decide_eq_true h1
      have h4 := of_decide_eq_true h4
      obtain ⟨g1, g2, _⟩ := G.gl h2
      exact s_raise0 (of_decide_eq_true h5) (G.fa.xc cl h4) (G.fa.ow cl (of_decide_eq_true h3)) (G.fa.cn cl (List.mem_append_right _ h4)) (G.calm h6) G.tk g1 g2
    · cases h
end Px

/-! # for x, y in zip(a, b): over lists, tuples and texts -/
namespace Px
open PySem PySem.Spec PyProof.Rows L2
inductive Src where
  | l (a : Addr)
  | t (a : Addr)
  | s (x : Str)
namespace Src
def v : Src → V
  | .l a => .ref a
  | .t a => .ref a
  | .s x => .str x
/-- its item at i -/
def G (K : PySem.W.Frag) (S : Src) (H : Hp) (i : Nat) (x : V) : Prop := match S with
  | .l a => ∃ xs, SqL K H a xs ∧ xs[i]? = some x
  | .t a => ∃ xs, SqT K H a xs ∧ xs[i]? = some x
  | .s z => ∃ c, z.cps[i]? = some c ∧ x = .str ⟨#[c]⟩
/-- it has none at i -/
def N (K : PySem.W.Frag) (S : Src) (H : Hp) (i : Nat) : Prop := match S with
  | .l a => ∃ xs : List V, SqL K H a xs ∧ xs.length ≤ i
  | .t a => ∃ xs : List V, SqT K H a xs ∧ xs.length ≤ i
  | .s z => z.cps.size ≤ i
def Ok (K : PySem.W.Frag) (S : Src) (H : Hp) : Prop := match S with
  | .l a => ∃ xs : List V, SqL K H a xs
  | .t a => ∃ xs : List V, SqT K H a xs
  | .s _ => True
def tn (S : Src) (it : Addr) (i : Nat) (h : Heap) : Prop := match S with
  | .l a => h.IsListIter it a i ∧ a ≠ it
  | .t a => h.IsTupleIter it a i ∧ a ≠ it
  | .s x => ∃ t, h.IsStrIter it (strIterType x) x t i
def fp : Src → List Addr
  | .l a => [a]
  | .t a => [a]
  | .s _ => []
theorem G.inj {X : Cx} {pins : List (Addr × Obj)} {σ : L2.St} {H : Hp} {s : Shared} {S : Src} {i : Nat} {x y : V} (I : Inv X pins σ H s) (h : S.G X.K H i x) (h2 : S.G X.K H i y) : x = y := by
  cases S with
  | l a =>
    obtain ⟨xs, q, e⟩ := h
    obtain ⟨ys, q2, e2⟩ := h2
    rw [I.list_inj q q2, e2] at e
    cases e; rfl
  | t a =>
    obtain ⟨xs, q, e⟩ := h
    obtain ⟨ys, q2, e2⟩ := h2
    rw [I.tuple_inj q q2, e2] at e
    cases e; rfl
  | s z =>
    obtain ⟨c, e, rfl⟩ := h
    obtain ⟨d, e2, rfl⟩ := h2
    rw [e] at e2
    cases e2; rfl
/-- an iterator with one more item -/
theorem item {X : Cx} {pins : List (Addr × Obj)} {σ : L2.St} {H : Hp} {s : Shared} {S : Src} {it : Addr} {i : Nat} {x : V} {A : Around} (hh : A.handled = none) (I : Inv X pins σ H s) (g : S.G X.K H i x) (st : S.tn it i s.heap) :
    ∃ n P St, Draws X.prog X.w A it (it :: S.fp) n P St ∧ St i s.heap ∧ i < n ∧ (∀ u, P i u → RelV x u) ∧ ∀ h', St (i + 1) h' → S.tn it (i + 1) h' := by
  cases S with
  | l a =>
    obtain ⟨xs, q, e⟩ := g
    obtain ⟨its, rv, p, hz⟩ := I.list q
    obtain ⟨u, hu, ru⟩ := rv.get e
    have hlt := (List.getElem?_eq_some_iff.mp hu).1
    refine ⟨_, _, _, Draws.list hh it a st.2 its.toArray, ⟨st.1, p.isList⟩, by simpa using hlt, fun w hw => ?_, fun h' k => ⟨k.1, st.2⟩⟩
    have e1 : its.toArray[i]? = some u := by simpa using hu
    rw [e1] at hw
    cases hw
    exact ru
  | t a =>
    obtain ⟨xs, q, e⟩ := g
    obtain ⟨its, rv, p, hz⟩ := I.tuple q
    have hp : s.heap.IsTuple a its.toArray := p
    obtain ⟨u, hu, ru⟩ := rv.get e
    have hlt := (List.getElem?_eq_some_iff.mp hu).1
    refine ⟨_, _, _, Draws.tuple hh it a st.2 its.toArray, ⟨st.1, hp⟩, by simpa using hlt, fun w hw => ?_, fun h' k => ⟨k.1, st.2⟩⟩
    have e1 : its.toArray[i]? = some u := by simpa using hu
    rw [e1] at hw
    cases hw
    exact ru
  | s z =>
    obtain ⟨c, e, rfl⟩ := g
    obtain ⟨t, st⟩ := st
    have hlt : i < z.cps.size := (Array.getElem?_eq_some_iff.mp e).1
    refine ⟨_, _, _, Draws.text hh it z t, st, hlt, fun w hw => ?_, fun h' k => ⟨t, k⟩⟩
    obtain ⟨d, u, e2, rfl⟩ := hw
    rw [e] at e2
    cases e2
    exact ⟨u, rfl⟩
/-- an iterator that has none -/
theorem none {X : Cx} {pins : List (Addr × Obj)} {σ : L2.St} {H : Hp} {s : Shared} {S : Src} {it : Addr} {i : Nat} {A : Around} (hh : A.handled = Option.none) (I : Inv X pins σ H s) (g : S.N X.K H i) (st : S.tn it i s.heap) :
    ∃ P St, Draws X.prog X.w A it (it :: S.fp) i P St ∧ St i s.heap := by
  cases S with
  | l a =>
    obtain ⟨xs, q, e⟩ := g
    obtain ⟨its, rv, p, hz⟩ := I.list q
    have hl := rv.length
    have en : its.toArray[i]? = Option.none := by simp; omega
    refine ⟨fun _ _ => True, fun j h => j = i ∧ h.IsListIter it a i ∧ h.IsList a its.toArray, ?_, rfl, st.1, p.isList⟩
    exact {
      live := fun _ _ st => let ⟨o, ho, _⟩ := st.2.1; ⟨o, ho⟩
      frame := fun _ _ _ st hk => ⟨st.1, st.2.1.at fun o e => hk it (by simp) o e, st.2.2.at fun o e => hk a (by simp [fp]) o e⟩
      item := fun j s Q E hj st _ => absurd st.1 (Nat.ne_of_lt hj)
      done := fun s Q E st hE => wpAny_nextOf_list_end hh st.2.1 st.2.2 en hE }
  | t a =>
    obtain ⟨xs, q, e⟩ := g
    obtain ⟨its, rv, p, hz⟩ := I.tuple q
    have hp : s.heap.IsTuple a its.toArray := p
    have hl := rv.length
    have en : its.toArray[i]? = Option.none := by simp; omega
    refine ⟨fun _ _ => True, fun j h => j = i ∧ h.IsTupleIter it a i ∧ h.IsTuple a its.toArray, ?_, rfl, st.1, hp⟩
    exact {
      live := fun _ _ st => let ⟨o, ho, _⟩ := st.2.1; ⟨o, ho⟩
      frame := fun _ _ _ st hk => ⟨st.1, st.2.1.at fun o e => hk it (by simp) o e, st.2.2.at fun o e => hk a (by simp [fp]) o e⟩
      item := fun j s Q E hj st _ => absurd st.1 (Nat.ne_of_lt hj)
      done := fun s Q E st hE => wpAny_nextOf_tuple_end hh st.2.1 st.2.2 en hE }
  | s z =>
    obtain ⟨t, st⟩ := st
    have g : z.cps.size ≤ i := g
    have en : z.cps[i]? = Option.none := by simp; omega
    refine ⟨fun _ _ => True, fun j h => j = i ∧ h.IsStrIter it (strIterType z) z t i, ?_, rfl, st⟩
    exact {
      live := fun _ _ st => let ⟨o, ho, _⟩ := st.2; ⟨o, ho⟩
      frame := fun _ _ _ st hk => ⟨st.1, let ⟨o, ho, r⟩ := st.2; ⟨o, hk it (by simp) o ho, r⟩⟩
      item := fun j s Q E hj st _ => absurd st.1 (Nat.ne_of_lt hj)
      done := fun s Q E st hE => by
        obtain ⟨_, st⟩ := st
        cases ha : z.cps.all (· < 128)
        · simp only [strIterType, ha, Bool.false_eq_true, if_false] at st
          exact wpAny_nextOf_wide_end hh st en hE
        · simp only [strIterType, ha, if_true] at st
          exact wpAny_nextOf_ascii_end hh st en hE }
theorem frame {S : Src} {it : Addr} {i : Nat} {h h' : Heap} (st : S.tn it i h) (k : ∀ o, h.get? it = some o → h'.get? it = some o) : S.tn it i h' := by
  cases S with
  | l a => exact ⟨st.1.at k, st.2⟩
  | t a => exact ⟨st.1.at k, st.2⟩
  | s z => obtain ⟨t, o, ho, r⟩ := st; exact ⟨t, o, k o ho, r⟩
theorem obj {S : Src} {it : Addr} {i : Nat} {h : Heap} (st : S.tn it i h) : ∃ o, h.get? it = some o ∧ ∀ v, o.data ≠ .cell v := by
  cases S with
  | l a => obtain ⟨⟨o, e, _, d⟩, _⟩ := st; exact ⟨o, e, fun v q => by rw [d] at q; cases q⟩
  | t a => obtain ⟨⟨o, e, _, d⟩, _⟩ := st; exact ⟨o, e, fun v q => by rw [d] at q; cases q⟩
  | s z => obtain ⟨t, o, e, _, d⟩ := st; exact ⟨o, e, fun v q => by rw [d] at q; cases q⟩
/-- iter(..) of it -/
theorem begins {X : Cx} {pins : List (Addr × Obj)} {σ : L2.St} {H : Hp} {s : Shared} {S : Src} {u : Value} (I : Inv X pins σ H s) (g : S.Ok X.K H) (r : RelV S.v u) :
    ∃ o Hb, Begins u o Hb ∧ Hb s.heap ∧ (∀ b ∈ S.fp, b < s.heap.objs.size) ∧ ∀ h' it, s.heap.objs.size ≤ it → h'.get? it = some o → S.tn it 0 h' := by
  cases S with
  | l a =>
    obtain ⟨xs, q⟩ := g
    obtain ⟨its, rv, p, hz⟩ := I.list q
    cases r
    have hl := p.lt
    refine ⟨_, _, begins_list a its.toArray, p.isList, fun b hb => by rw [show b = a by simpa [fp] using hb]; exact hl, fun h' it hi e => ⟨⟨_, e, rfl, rfl⟩, fun z => by subst z; exact absurd hl (Nat.not_lt.mpr hi)⟩⟩
  | t a =>
    obtain ⟨xs, q⟩ := g
    obtain ⟨its, rv, p, hz⟩ := I.tuple q
    have hp : s.heap.IsTuple a its.toArray := p
    cases r
    have hl : a < s.heap.objs.size := by obtain ⟨o, ho, _⟩ := id hp; exact Heap.lt_size ho
    refine ⟨_, _, begins_tuple a its.toArray, hp, fun b hb => by rw [show b = a by simpa [fp] using hb]; exact hl, fun h' it hi e => ⟨⟨_, e, rfl, rfl⟩, fun z => by subst z; exact absurd hl (Nat.not_lt.mpr hi)⟩⟩
  | s z =>
    obtain ⟨t, rfl⟩ := r
    exact ⟨_, _, begins_text z t, trivial, (fun b hb => by cases hb), fun h' it hi e => ⟨t, _, e, rfl, rfl⟩⟩
end Src
/-- two sources, their items in new pairs -/
def Itz2 (K : PySem.W.Frag) (S1 S2 : Src) : It :=
  ⟨fun i H => ∃ x y, S1.G K H i x ∧ S2.G K H i y,
    fun i H v H' => ∃ T x y, v = .ref T ∧ H T = none ∧ H' = upd H T (.tup [x, y]) ∧ S1.G K H i x ∧ S2.G K H i y,
    fun i H => (S1.N K H i ∧ (S2.N K H i ∨ ∃ y, S2.G K H i y)) ∨ ((∃ x, S1.G K H i x) ∧ S2.N K H i)⟩
theorem turn_zip2 {P : Program} {w : World} {K : PySem.W.Frag} {elts : List Expr} {kk : Nat} {tpos : Pos} {S1 S2 : Src} {z TI TO i1 i2 : Addr} (D : ZipSep2 z TI TO i1 i2 (i1 :: S1.fp) (i2 :: S2.fp)) :
    Turn P w K (.Tuple elts kk tpos) (Itz2 K S1 S2) [z, TI, TO, i1, i2] z (fun i h => IsZip h z TI TO .none ∧ IsTupOf2 h TI (.ref i1) (.ref i2) ∧ (∃ x y, IsTupOf2 h TO x y) ∧ S1.tn i1 i h ∧ S2.tn i2 i h) where
  mem := by simp
  obj := fun i h st c hc => by
    obtain ⟨hz, hTI, ⟨x, y, hTO⟩, h1, h2⟩ := st
    have e' : c = z ∨ c = TI ∨ c = TO ∨ c = i1 ∨ c = i2 := by simpa using hc
    rcases e' with q | q | q | q | q
    · rw [q]; exact ⟨_, hz, fun v q => nomatch q⟩
    · rw [q]; exact ⟨_, hTI, fun v q => nomatch q⟩
    · rw [q]; exact ⟨_, hTO, fun v q => nomatch q⟩
    · rw [q]; exact Src.obj h1
    · rw [q]; exact Src.obj h2
  keep := fun i h h' st k => by
    obtain ⟨hz, hTI, ⟨x, y, hTO⟩, h1, h2⟩ := st
    exact ⟨k z (by simp) _ hz, k TI (by simp) _ hTI, ⟨x, y, k TO (by simp) _ hTO⟩, Src.frame h1 fun o q => k i1 (by simp) o q, Src.frame h2 fun o q => k i2 (by simp) o q⟩
  item := by
    intro X hP hw hK hc i pins s σ H E I hf st hg
    subst hP hw hK
    obtain ⟨hz, hTI, ⟨x0, y0, hTO⟩, h1, h2⟩ := st
    obtain ⟨x, y, g1, g2⟩ := hg
    have hh : X.A.in1.handled = none := I.ok.hd hc
    obtain ⟨n1, P1, St1, D1, st1, l1, r1, k1⟩ := Src.item hh I g1 h1
    obtain ⟨n2, P2, St2, D2, st2, l2, r2, k2⟩ := Src.item hh I g2 h2
    have hzl : z < s.heap.objs.size := Heap.lt_size hz
    refine wpAny_pyNext_zipD2_item D D1 D2 hz hTI hTO st1 st2 l1 l2 fun u u2 h' tk p1 p2 z' TO' h1' h2' hT hsz hk => ?_
    refine ⟨_, rfl, wpAny_letOwnedTupleGo_zip (s := { s with heap := h', toks := tk }) z' fun h'' z'' sb => ?_⟩
    have hT2 : h''.get? s.heap.objs.size = some { cls := .type "tuple", data := .seq #[u, u2] } := (sb.2 _ (Nat.ne_of_gt hzl)).trans hT
    have new : ObjOk X.prog X.w (upd H s.heap.objs.size (.tup [x, y])) h'' s.heap.objs.size (.tup [x, y]) :=
      ⟨by show 2 ≤ sizeLine; decide, [u, u2], .cons (r1 u p1) (.cons (r2 u2 p2) .nil), ⟨_, hT2, rfl, _, rfl⟩⟩
    have I1 : Inv X pins σ (upd H s.heap.objs.size (.tup [x, y])) { s with heap := h'', toks := tk } :=
      I.turnedNew (ch := [z, TI, TO, i1, i2]) (fun c o hb q => (sb.2 c (fun q' => hb (by simp [q']))).trans (hk c o (fun q' => hb (by simp [q'])) (fun q' => hb (by simp [q'])) (fun q' => hb (by simp [q'])) (fun q' => hb (by simp [q'])) q)) hf (Nat.le_refl _) new
    refine ⟨.ref s.heap.objs.size, _, I1, rfl, ⟨_, x, y, rfl, I.hok.fresh (Nat.le_refl _), rfl, g1, g2⟩, ⟨z'', ?_, ⟨u, u2, ?_⟩, ?_, ?_⟩, fun c hcm => ?_⟩
    · exact (sb.2 _ D.TIz).trans (hk _ _ D.TIz D.TITO D.TIi1 D.TIi2 hTI)
    · exact (sb.2 _ D.TOz).trans TO'
    · exact Src.frame (k1 _ h1') fun o q => (sb.2 _ D.zi1.symm).trans q
    · exact Src.frame (k2 _ h2') fun o q => (sb.2 _ D.zi2.symm).trans q
    · have hlt : c < s.heap.objs.size := by
        have e' : c = z ∨ c = TI ∨ c = TO ∨ c = i1 ∨ c = i2 := by simpa using hcm
        rcases e' with q | q | q | q | q
        · rw [q]; exact hzl
        · rw [q]; exact Heap.lt_size hTI
        · rw [q]; exact Heap.lt_size hTO
        · rw [q]; obtain ⟨_, e1, _⟩ := Src.obj h1; exact Heap.lt_size e1
        · rw [q]; obtain ⟨_, e2, _⟩ := Src.obj h2; exact Heap.lt_size e2
      rw [upd_ne (Nat.ne_of_lt hlt)]
      exact (hf c hcm).1
  done := by
    intro X hP hw hK hc i pins s σ H E I hf st hg
    subst hP hw hK
    obtain ⟨hz, hTI, ⟨x0, y0, hTO⟩, h1, h2⟩ := st
    have hh : X.A.in1.handled = none := I.ok.hd hc
    have fin : ∀ {n1 n2 P1 P2 St1 St2}, Draws X.prog X.w X.A.in1 i1 (i1 :: S1.fp) n1 P1 St1 → Draws X.prog X.w X.A.in1 i2 (i2 :: S2.fp) n2 P2 St2 → St1 i s.heap → St2 i s.heap → i ≤ n1 → i ≤ n2 → (i = n1 ∨ i = n2) → wpAny (model X.prog X.w) X.A (pyNext (.ref z)) (fun r s1 => r = none ∧ Inv X pins σ H s1) E s :=
      fun D1 D2 st1 st2 l1 l2 he => wpAny_pyNext_zipD2_end D D1 D2 hz hTI hTO st1 st2 l1 l2 he fun h' tk hk => ⟨rfl, I.turnedL (t' := tk) (ch := [z, TI, TO, i1, i2]) (fun c o hb q =>
        hk c o (fun q' => hb (by simp [q'])) (fun q' => hb (by simp [q'])) (fun q' => hb (by simp [q'])) (fun q' => hb (by simp [q'])) q) hf⟩
    rcases hg with ⟨g1, g2 | ⟨y, g2⟩⟩ | ⟨⟨x, g1⟩, g2⟩
    · obtain ⟨P1, St1, D1, st1⟩ := Src.none hh I g1 h1
      obtain ⟨P2, St2, D2, st2⟩ := Src.none hh I g2 h2
      exact fin D1 D2 st1 st2 (Nat.le_refl _) (Nat.le_refl _) (.inl rfl)
    · obtain ⟨P1, St1, D1, st1⟩ := Src.none hh I g1 h1
      obtain ⟨n2, P2, St2, D2, st2, l2, _⟩ := Src.item hh I g2 h2
      exact fin D1 D2 st1 st2 (Nat.le_refl _) (Nat.le_of_lt l2) (.inl rfl)
    · obtain ⟨n1, P1, St1, D1, st1, l1, _⟩ := Src.item hh I g1 h1
      obtain ⟨P2, St2, D2, st2⟩ := Src.none hh I g2 h2
      exact fin D1 D2 st1 st2 (Nat.le_of_lt l1) (Nat.le_refl _) (.inr rfl)
  self := fun A i s Q E st h => wpAny_pyIter_zip st.1 h
def iZip2 (K : PySem.W.Frag) (ta : TA) : TI := fun σ H R => ta σ H fun vs H1 => ∃ S1 S2 : Src, vs = [S1.v, S2.v] ∧ S1.Ok K H1 ∧ S2.Ok K H1 ∧ R (Itz2 K S1 S2) H1
theorem pi_zip2 {X : Cx} {e e2 : Expr} {ta : TA} {p pos tpos : Pos} {elts : List Expr} {kk : Nat} (hg : Gl X "zip") (hm : X.mg "zip" = none) (ha : PA X [e, e2] ta)
    (hs : starEach [e, e2] X.env = (false, eval e X.env) :: starEach [e2] X.env := by rfl) (hpl : (backTo pos (starEach [e2] X.env)).any (·.1) = false := by rfl) :
    PI X (.Tuple elts kk tpos) (.Call (.Name "zip" p) [e, e2] [] pos) (iZip2 X.K ta) := by
  refine ⟨fun pins s σ H R I h => ?_⟩
  refine Call_ (ld_blt I hg hm PyProof.Rows.boot_zip (PyProof.Rows.callWith_type1 (thn (ha.run pos pins s σ H _ I h) fun us s1 ⟨vs, H1, I1, r1, q1⟩ => ?_) hs hpl))
  obtain ⟨S1, S2, ex, o1, o2, q⟩ := q1
  subst ex
  cases r1 with
  | cons r rr =>
    cases rr with
    | cons r' rr =>
      cases rr
      obtain ⟨ob1, Hb1, B1, hb1, f1, t1⟩ := Src.begins I1 o1 r
      obtain ⟨ob2, Hb2, B2, hb2, f2, t2⟩ := Src.begins I1 o2 r'
      refine zip_begins2 B1 B2 hb1 hb2 fun h' hz hTI hTO g1 g2 hsz hk => wpAny_pyIter_zip hz ?_
      have I2 : Inv X pins σ H1 { s1 with heap := h' } := I1.kept (t' := s1.toks) hk
      refine ⟨s1.heap.objs.size + 4, [s1.heap.objs.size + 4, s1.heap.objs.size + 2, s1.heap.objs.size + 3, s1.heap.objs.size, s1.heap.objs.size + 1], _, _, H1, rfl, I2, turn_zip2 (zip_sep2 f1 f2), ⟨hz, hTI, ⟨_, _, hTO⟩, t1 _ _ (Nat.le_refl _) g1, t2 _ _ (Nat.le_succ _) g2⟩, fun c hcm => ?_, q⟩
      have e' : c = s1.heap.objs.size + 4 ∨ c = s1.heap.objs.size + 2 ∨ c = s1.heap.objs.size + 3 ∨ c = s1.heap.objs.size ∨ c = s1.heap.objs.size + 1 := by simpa using hcm
      have hle : s1.heap.objs.size ≤ c := by
        rcases e' with z | z | z | z | z
        · rw [z]; exact Nat.le_add_right _ _
        · rw [z]; exact Nat.le_add_right _ _
        · rw [z]; exact Nat.le_add_right _ _
        · rw [z]; exact Nat.le_refl _
        · rw [z]; exact Nat.le_add_right _ _
      exact I1.fpOk hle (I1.hok.fresh hle)
end Px

namespace Px
open PySem PySem.Spec PyProof.Rows L2
/-! ## C.m(e, .., k=e2): classmethods with keywords -/
section
variable {X : Cx} {W : WX} {hot : Bool} {k : Nat} {c : Cl} {mc : Value} {pm g : Addr} {ct : Ct} {o e : Expr} {es : List Expr} {m : Str} {apos pos : Pos} {d : DE} {ds dk : DA} {ks : List Str} {kws : List Keyword}
def dCmK (n : Nat) (c : Cl) (ct : Ct) (d : DE) (ds dk : DA) : DE := fun ρ μ q x => d ρ μ (fun p μ1 => br (isCls c p) (ds ρ μ1 (fun ps μ2 => dk ρ μ2 (fun zs μ3 => zs.length = n ∧ ct (.cls c :: (ps ++ zs)) μ3 q x) x) x) False) x
theorem run_cmsK2 {pins : List (Addr × Obj)} {σ : L2.St} {H : Hp} {s : Shared} {C u : Addr} {sp : Sp} {Q : VK} {us ws : List Value} {vs : List V} (Fn : FnS hot X.prog X.w X.K X.mg X.base k g ks sp) (md : Md X hot) (hr : L2H.RoomH k X.A) (tk : L2N.Takes X W) (J : Inv X ((u, PySem.W.methodObj (.ref g) (.ref C)) :: pins) σ H s)
    (hl : ws.length = ks.length) (r : Vals vs (us ++ ws)) (h : sp (.ref C :: vs) H Q (fun cls d H' => W cls d σ H')) : wpAny (model X.prog X.w) X.A (call (.ref u) us (ks.zip ws)) (EP X pins σ Q) X.xe s := by
  have hm : X.A.handled = none ∨ (hot = true ∧ ∃ p, L2H.Hot1 X.A p ∧ L2H.PinOk X.stack H s p) := by
    rcases md with z | ⟨z, p, hp, mem⟩
    · exact .inl (J.ok.hd z)
    · have P1 := J.pin p (List.mem_append_left _ mem)
      exact .inr ⟨z, p, hp, ⟨P1.1, P1.2.1, fun hq => (List.mem_cons.mp (J.stkSub p.1 hq)).elim P1.2.2.1 P1.2.2.2.1, P1.2.2.2.2⟩⟩
  refine wpAny_call (PySem.W.method_call (ClX.pin_at J) (codeAny_mono (Fn X.A X.stack s H (.ref C :: us) ws (.ref C :: vs) Q _ hm hr J.env0 hl (.cons rfl r) h) fun rr s' hq => ?_))
  cases rr with
  | error er => exact tk er s' (L2N.XE.of_call (ClX.unpin J) (fun _ _ _ z => z) hq)
  | ok fl =>
    cases fl with
    | ret u => exact ClX.unpinE (J.after hq)
    | next => exact False.elim hq
    | brk => exact False.elim hq
    | cont => exact False.elim hq
theorem e_cmethK (kn : knB X.K c = true) {pl : Sem Bool} (rd : ClX.CRead X.K (ca X.K c) mc) (cm : ClX.CMet X.K (ca X.K c) mc m pm g) (Fn : FnS hot X.prog X.w X.K X.mg X.base k g ks (spP X.K ct)) (md : Md X hot) (hr : L2H.RoomH k X.A) (tk : L2N.Takes X W) (ho : EJ X W o d) (ha : AJ X W (e :: es) ds) (hkw : KJ X W kws dk) {n : Nat} (hn : ks.length = n)
    (k1 : (backToKw pos (keywordEach kws X.env)).all (·.1.isSome) = true) (k2 : (backToKw pos (keywordEach kws X.env)).filterMap (·.1) = ks)
    (h2 : starEach (e :: es) X.env = (false, eval e X.env) :: starEach es X.env)
    (h3 : ((backTo pos (starEach (e :: es) X.env)).any (·.1) || (backToKw pos (keywordEach kws X.env)).any (·.1.isNone)) = false)
    (h4 : eval (.Call (.Attribute o m apos) (e :: es) kws pos) X.env = (do
      let ov ← eval o X.env
      standAt apos.atName
      let (g, first) ← holding [ov] (getMethod ov m pl)
      callWith pos g first (backTo pos (starEach (e :: es) X.env)) (backToKw pos (keywordEach kws X.env)))) : EJ X W (.Call (.Attribute o m apos) (e :: es) kws pos) (dCmK n c ct d ds dk) := by
  subst hn
  refine ⟨fun pins s σ H Q J ⟨B, ρ, μ, G, q, z, R, h, gv, gx⟩ => ?_⟩
  refine PySem.W.methodCall_KW (pl := pl) (thn (ho.run pins s σ H (fun v H1 => ∃ μ1 G1, Go X.K B μ G H μ1 G1 H1 ∧ v = .ref (ca X.K c) ∧ ds ρ μ1 (fun ps μ2 => dk ρ μ2 (fun zs μ3 => zs.length = ks.length ∧ ct (.cls c :: (ps ++ zs)) μ3 q z) z) z) J ⟨B, ρ, μ, G, _, z, R, h, fun p v μ1 G1 H1 h0 g1 r1 => by
      obtain ⟨e1, h1⟩ := br_and h0
      have e1 := isCls_ok e1
      subst e1
      exact ⟨μ1, G1, g1, r1.cls_inv, h1⟩, gx⟩) fun u s1 ⟨v, H1, J1, rv, μ1, G1, g1, ev, h1⟩ => ?_) h4
  subst ev
  obtain rfl : u = Value.ref (ca X.K c) := rv
  refine ClX.getmethcm_ok J1 rd cm fun s2 J2 => ?_
  refine PySem.W.callWith_of (P := PySem.W.MethP X.K s1.heap.objs.size g (.ref (ca X.K c))) h3 (PySem.W.keeps_M cm.fi) (evalArgs_kw2 k1 (thn (ha.run pos _ s2 σ H1 (fun vs H2 => tA X.K W dk σ H2 fun zs H3 => zs.length = ks.length ∧ spP X.K ct (.ref (ca X.K c) :: (vs ++ zs)) H3 Q fun cls d H' => W cls d σ H') J2
    ⟨B, ρ, μ1, G1, _, z, R.go g1, h1, fun ps vs μ2 G2 H2 h2 g2 r2 => ⟨B, ρ, μ2, G2, _, z, R.go (g1.trans g2), h2, fun zs ws μ3 G3 H3 ⟨hz, h3⟩ g3 r3 => ⟨by rw [r3.length]; exact hz, spP_of (R.go ((g1.trans g2).trans g3)) (.cons (rep_cls c kn) ((r2.mono g3.gx).append r3)) h3 (gv.go ((g1.trans g2).trans g3)) (gx.go ((g1.trans g2).trans g3))⟩, gx.go (g1.trans g2)⟩, gx.go g1⟩) fun us s3 ⟨vs, H2, J3, r, q1⟩ => ?_) h2)
  refine thn (hkw.run pos _ s3 σ H2 _ J3 q1) fun ws s4 ⟨zs, H3, J4, rz, hz, q2⟩ => ⟨⟨ClX.pin_at J4, J4.kIn⟩, ?_⟩
  rw [k2]
  exact run_cmsK2 Fn md hr tk J4 (by rw [← rz.length]; exact hz) (r.append rz) q2
end
def zCmK (cl : Cl) (m : Nat) (o : ZE) (as : ZA) (ks : List Nat) (kw : ZK) : ZE where
  d := fun R => dCmK ks.length cl (R.ct (.cm cl m ks)) (o.d R) (as.d R) (kw.d R)
  ck := fun c e => match e with
    | .Call (.Attribute x y apos) (a :: es) kws pos => decide (y = c.S.nm m) && (nsup x && (fewB (a :: es) kws apos pos && (o.ck c x && (decide ((cl, m) ∈ c.S.cms) && (nstar a && (nost es && (decide (kwN kws = (ks.map c.S.nm).map some) && (as.ck c (a :: es) && kw.ck c kws))))))))
    | _ => false
  ok := fun {k R X W c e} h G => by
    split at h
    · rename_i x y apos a es kws pos
      obtain ⟨h1, h⟩ := He.ba h
      obtain ⟨h2, h⟩ := He.ba h
      obtain ⟨h3, h⟩ := He.ba h
      obtain ⟨h4, h⟩ := He.ba h
      obtain ⟨h5, h⟩ := He.ba h
      obtain ⟨n1, h⟩ := He.ba h
      obtain ⟨n2, h⟩ := He.ba h
      obtain ⟨n3, h⟩ := He.ba h
      obtain ⟨h6, h7⟩ := He.ba h
      obtain rfl := of_decide_eq_true h1
      have n3 := of_decide_eq_true n3
      obtain ⟨w1, w2, w3⟩ := kw_all (pos := pos) (env := X.env) n3
      obtain ⟨p1, p2, p3⟩ := G.fa.cms _ (of_decide_eq_true h5)
      refine e_cmethK p1 p2 p3 (G.prcm cl m ks) G.md G.rm0 G.tk (o.ok h4 G) (as.ok h6 G) (kw.ok h7 G) (by rw [List.length_map]) w1 w2 (star_cons n1) ?_ (eval_meth (ks := ks.map c.S.nm) h2 h3 n3)
      rw [nost_any (es := a :: es) (by show (nstar a && nost es) = true; rw [n1, n2] <;> rfl), w3] <;> rfl
    · cases h
/-! ## a text, turned over: e[::-1] -/
def revS (z : Str) : Str := ⟨z.cps.toList.reverse.toArray⟩
theorem revS_len (z : Str) : (revS z).length = z.length := by
  show z.cps.toList.reverse.toArray.size = z.cps.size
  rw [List.size_toArray, List.length_reverse, Array.length_toList]
theorem rev_idx (n : Nat) : Builtin.Str.strSliceIndices none none (-1) n = (List.range n).reverse := by
  have h : Builtin.Str.strSliceIndices none none (-1) n = sliceRange ((n : Int) - 1) (-1) (-1) := rfl
  rw [h, PySem.W.krv_sliceRange, PySem.W.krv_range]
theorem rev_pick (z : Str) : ((Builtin.Str.strSliceIndices none none (-1) z.length).filterMap (z.cps[·]?)).toArray = z.cps.toList.reverse.toArray := by
  rw [rev_idx, List.filterMap_reverse]
  show ((List.range z.cps.size).filterMap (z.cps[·]?)).reverse.toArray = _
  rw [PySem.W.krv_all]
def tRevS (te : TE) : TE := fun σ H Q => te σ H fun x H1 => ∃ z, x = .str z ∧ z.length ≤ sizeLine ∧ Q (.str (revS z)) H1
theorem pe_revS {X : Cx} {e : Expr} {te : TE} {k : Nat} {p1 p2 p3 pos : Pos} (he : PE X e te) : PE X (.Subscript e (.Slice none none (some (.UnaryOp .USub (.Constant (.int 1) k p1) p2)) p3) pos) (tRevS te) := by
  refine ⟨fun pins s σ H Q I h => ?_⟩
  refine Subscript_ (thn (he.run pins s σ H _ I h) fun v s1 ⟨x, H1, I1, r1, q1⟩ => ?_)
  obtain ⟨a, ex, hx, q⟩ := q1
  subst ex
  obtain ⟨ta, rfl⟩ := r1
  have hst : PO X (some (.UnaryOp .USub (.Constant (.int 1) k p1) p2)) (tPart (tUn (rU fun i => .int (-i)) (tC (.int 1)))) := po_some (pe_un un_neg pe_int)
  refine wpAny_Slice (thn (po_none.run pins s1 σ H1 (fun o H2 => o = none ∧ H2 = H1) I1 ⟨rfl, rfl⟩) fun vl s2 ⟨l, H2, I2, pl, el, e2⟩ => ?_)
  subst el e2
  refine thn (po_none.run pins s2 σ H2 (fun o H3 => o = none ∧ H3 = H2) I2 ⟨rfl, rfl⟩) fun vu s3 ⟨u, H3, I3, pu, eu, e3⟩ => ?_
  subst eu e3
  refine thn (hst.run pins s3 σ H3 (fun o H4 => o = some (-1) ∧ H4 = H3) I3 ⟨1, rfl, -1, rfl, rfl, rfl⟩) fun vs s4 ⟨o, H4, I4, ps, eo, e4⟩ => ?_
  subst eo e4
  have I5 : Inv X pins σ H4 { s4 with heap := s4.heap.push { cls := .type "slice", data := .fields #[vl, vu, vs] } } := I4.kept (t' := s4.toks) fun b ob q => Heap.get?_push_of_some _ q
  obtain ⟨l, rfl, el⟩ := IsPart.raw pl
  obtain ⟨u, rfl, eu⟩ := IsPart.raw pu
  obtain ⟨w, rfl, ew⟩ := IsPart.raw ps
  show wpAny (model X.prog X.w) X.A (subscriptTail e (.Slice none none (some (.UnaryOp .USub (.Constant (.int 1) k p1) p2)) p3) (.str a ta) (.ref s4.heap.objs.size)) (EP X pins σ Q) X.xe { s4 with heap := s4.heap.push { cls := .type "slice", data := .fields #[partValue l, partValue u, partValue w] } }
  refine tail_any (ops := [.str a ta, .ref s4.heap.objs.size]) (typeIs_str _ _ _) F.slot_str_getitem.lookup ?_ (by with_unfolding_all rfl)
  refine wpAny_getItem_str_slice (l := l) (u := u) (st := w) ⟨_, Heap.get?_push_size _ rfl, rfl, rfl⟩ (by rw [ew]; rfl) ?_
  unfold sliceMade slicePicked
  rw [el, eu, ew]
  show Made.post (if ((-1 : Int) == 1 && _) = true then _ else Made.str ⟨((Builtin.Str.strSliceIndices none none (-1) a.length).filterMap (a.cps[·]?)).toArray⟩) _ _
  rw [rev_pick, show ((-1 : Int) == 1) = false from rfl, Bool.false_and, if_neg Bool.false_ne_true]
  exact ⟨by rw [show (⟨a.cps.toList.reverse.toArray⟩ : Str).length = a.length from revS_len a]; exact hx, .str _, H4, I5.tok _, ⟨_, rfl⟩, q⟩
def rvP : FU := fun p μ q _ => match p with
  | .str z => z.length ≤ sizeLine ∧ q (.str (revS z)) μ
  | _ => False
theorem e_revS {X : Cx} {W : WX} {e : Expr} {d : DE} {k : Nat} {p1 p2 p3 pos : Pos} (he : EJ X W e d) : EJ X W (.Subscript e (.Slice none none (some (.UnaryOp .USub (.Constant (.int 1) k p1) p2)) p3) pos) (dUn rvP d) :=
  pe_imp (pe_revS he) fun σ H Q ⟨B, ρ, μ, G, q, x, R, h, gv, gx⟩ => ⟨B, ρ, μ, G, _, x, R, h, fun p v μ1 G1 H1 h1 g1 r1 => by
    cases p with
    | str z =>
      obtain rfl := r1.str_inv
      exact ⟨z, rfl, h1.1, gv _ _ _ _ _ h1.2 g1 (rep_str _)⟩
    | _ => exact h1.elim, gx⟩
def zRevS (a : ZE) : ZE where
  d := fun R => dUn rvP (a.d R)
  ck := fun c e => match e with
    | .Subscript x (.Slice none none (some (.UnaryOp .USub (.Constant (.int i) _ _) _)) _) _ => decide (i = 1) && a.ck c x
    | _ => false
  ok := fun {k R X W c e} h G => by
    split at h
    · obtain ⟨h1, h2⟩ := He.ba h
      obtain rfl := of_decide_eq_true h1
      exact e_revS (a.ok h2 G)
    · cases h
/-! ## zip(a, b) -/
def seqZ : PV → Option (List PV)
  | .lst xs => some xs
  | .tup xs => some xs
  | .str z => some (sgnsP z)
  | _ => none
def zipP : List PV → List PV → List PV
  | x :: xs, y :: ys => .tup [x, y] :: zipP xs ys
  | _, _ => []
theorem zipP_get : ∀ {i : Nat} {xs ys : List PV} {p : PV}, (zipP xs ys)[i]? = some p → ∃ x y, xs[i]? = some x ∧ ys[i]? = some y ∧ p = .tup [x, y]
  | i, [], ys, p, h => by cases i <;> cases h
  | i, x :: xs, [], p, h => by cases i <;> cases h
  | 0, x :: xs, y :: ys, p, h => by
    have h : some (PV.tup [x, y]) = some p := h
    cases h
    exact ⟨x, y, rfl, rfl, rfl⟩
  | i + 1, x :: xs, y :: ys, p, h => zipP_get (i := i) (xs := xs) (ys := ys) h
theorem zipP_len : ∀ (xs ys : List PV), (zipP xs ys).length = min xs.length ys.length
  | [], ys => by show 0 = _; simp
  | x :: xs, [] => by show 0 = _; simp
  | x :: xs, y :: ys => by
    show (zipP xs ys).length + 1 = _
    rw [zipP_len xs ys, List.length_cons, List.length_cons]
    omega
/-- a source that holds xs -/
def SrcR (K : Frg) (B : BX) (G : Hp) (S : Src) (xs : List PV) : Prop := match S with
  | .l a => ∃ vs, SqL K G a vs ∧ Reps K B G xs vs
  | .t a => ∃ vs, SqT K G a vs ∧ Reps K B G xs vs
  | .s z => xs = sgnsP z
theorem SrcR.get {K : Frg} {B : BX} {G0 G H : Hp} {μ : Mu} {S : Src} {xs : List PV} (r : SrcR K B G0 S xs) (s : Sub G0 G) (o : Ok K B μ G H) {i : Nat} {x : PV} (e : xs[i]? = some x) : ∃ v, S.G K H i v ∧ Rep K B G x v := by
  cases S with
  | l a =>
    obtain ⟨vs, sq, rs⟩ := r
    obtain ⟨u, e2, ru⟩ := rs.get e
    exact ⟨u, ⟨vs, o.sub.l (s.l sq), e2⟩, ru.mono s⟩
  | t a =>
    obtain ⟨vs, sq, rs⟩ := r
    obtain ⟨u, e2, ru⟩ := rs.get e
    exact ⟨u, ⟨vs, o.sub.t (s.t sq), e2⟩, ru.mono s⟩
  | s z =>
    have r : xs = sgnsP z := r
    subst r
    unfold sgnsP at e
    rw [List.getElem?_map, Array.getElem?_toList] at e
    cases hc : z.cps[i]? with
    | none => rw [hc] at e; cases e
    | some c =>
      rw [hc] at e
      cases e
      exact ⟨_, ⟨c, hc, rfl⟩, rep_str _⟩
theorem SrcR.inj {K : Frg} {B : BX} {G0 G H : Hp} {μ : Mu} {S : Src} {xs : List PV} (r : SrcR K B G0 S xs) (s : Sub G0 G) (o : Ok K B μ G H) {i : Nat} {x : PV} {v : V} (e : xs[i]? = some x) (g : S.G K H i v) (hi : ∀ a vs ws, SqL K H a vs → SqL K H a ws → vs = ws) (hi2 : ∀ a vs ws, SqT K H a vs → SqT K H a ws → vs = ws) : Rep K B G x v := by
  cases S with
  | l a =>
    obtain ⟨vs, sq, rs⟩ := r
    obtain ⟨u, e2, ru⟩ := rs.get e
    obtain ⟨ws, q, e3⟩ := g
    rw [hi a _ _ q (o.sub.l (s.l sq)), e2] at e3
    cases e3
    exact ru.mono s
  | t a =>
    obtain ⟨vs, sq, rs⟩ := r
    obtain ⟨u, e2, ru⟩ := rs.get e
    obtain ⟨ws, q, e3⟩ := g
    rw [hi2 a _ _ q (o.sub.t (s.t sq)), e2] at e3
    cases e3
    exact ru.mono s
  | s z =>
    have r : xs = sgnsP z := r
    subst r
    obtain ⟨c, hc, rfl⟩ := g
    unfold sgnsP at e
    rw [List.getElem?_map, Array.getElem?_toList, hc] at e
    cases e
    exact rep_str _
end Px

namespace Px
open PySem PySem.Spec PyProof.Rows L2
/-! ## lights -/
def bandsI (n : Int) : List Int := ([0, 1, 2, 3, 4, 5] : List Int).filter fun k => decide ((n / 2 ^ k.toNat) % 2 = 1)
/-- the light of a number -/
def lt (n : Int) : PV := .obj .Light [.int n, .tup ((bandsI n).map .int)]
def badB (b : Int) : Bool := !(decide (0 ≤ b) && decide (b < 6))
def orB (a b : Int) : Int := Builtin.bitOr a (1 * 2 ^ b.toNat)
def numOf (ns : List Int) : Int := ns.foldl orB 0
def rng6 : List PV := [.int 0, .int 1, .int 2, .int 3, .int 4, .int 5]
theorem rng6_eq : rangeP 0 (6 : Int).toNat = rng6 := rfl
theorem rng6_map (f : Int → Bool) (g : PV → Bool) (h : ∀ i : Int, g (.int i) = f i) : (rng6.filter g).map id = (([0, 1, 2, 3, 4, 5] : List Int).filter f).map PV.int := by
  have e : rng6 = ([0, 1, 2, 3, 4, 5] : List Int).map PV.int := rfl
  rw [e, List.filter_map, List.map_id]
  have e2 : (g ∘ PV.int) = f := funext h
  rw [e2]
theorem all64 {p : Int → Bool} (h : ((List.range 64).all fun k => p (k : Int)) = true) {n : Int} (h0 : 0 ≤ n) (h1 : n < 64) : p n = true := by
  obtain ⟨k, rfl⟩ := Int.eq_ofNat_of_zero_le h0
  exact List.all_eq_true.mp h k (List.mem_range.mpr (by omega))
theorem all2 {p : Int → Int → Prop} [∀ m n, Decidable (p m n)] (h : ((List.range 64).all fun j => (List.range 64).all fun k => decide (p (j : Int) (k : Int))) = true) {m n : Int} (hm : 0 ≤ m ∧ m < 64) (hn : 0 ≤ n ∧ n < 64) : p m n := by
  obtain ⟨j, rfl⟩ := Int.eq_ofNat_of_zero_le hm.1
  obtain ⟨k, rfl⟩ := Int.eq_ofNat_of_zero_le hn.1
  exact of_decide_eq_true (List.all_eq_true.mp (List.all_eq_true.mp h j (List.mem_range.mpr (by omega))) k (List.mem_range.mpr (by omega)))
theorem numOf_bands {n : Int} (h0 : 0 ≤ n) (h1 : n < 64) : numOf (bandsI n) = n := of_decide_eq_true (all64 (p := fun n => decide (numOf (bandsI n) = n)) (by decide +kernel) h0 h1)
theorem bit_and {n k : Int} (h0 : 0 ≤ n) (h1 : n < 64) (hk : k ∈ ([0, 1, 2, 3, 4, 5] : List Int)) : decide (Builtin.bitAnd (n / 2 ^ k.toNat) 1 = 1) = decide ((n / 2 ^ k.toNat) % 2 = 1) := by
  have := all64 (p := fun n => ([0, 1, 2, 3, 4, 5] : List Int).all fun k => decide (Builtin.bitAnd (n / 2 ^ k.toNat) 1 = 1) == decide ((n / 2 ^ k.toNat) % 2 = 1)) (by decide +kernel) h0 h1
  exact beq_iff_eq.mp (List.all_eq_true.mp this k hk)
theorem bands_good (n : Int) : ∀ b ∈ bandsI n, badB b = false := fun b hb => by
  have hb := (List.mem_filter.mp hb).1
  have : ([0, 1, 2, 3, 4, 5] : List Int).all (fun b => !badB b) = true := by decide
  have := List.all_eq_true.mp this b hb
  simpa using this
theorem find_none {f : Int → Bool} {l : List Int} (h : ∀ b ∈ l, f b = false) : l.find? f = none := List.find?_eq_none.mpr fun b hb => by rw [h b hb]; simp
theorem orB_step : ((List.range 64).all fun n => (List.range 6).all fun b => decide (0 ≤ orB (n : Int) (b : Int)) && decide (orB (n : Int) (b : Int) < 64)) = true := by decide +kernel
theorem orB_lt {n b : Int} (h0 : 0 ≤ n) (h1 : n < 64) (hb : badB b = false) : 0 ≤ orB n b ∧ orB n b < 64 := by
  unfold badB at hb
  simp at hb
  obtain ⟨k, rfl⟩ := Int.eq_ofNat_of_zero_le h0
  obtain ⟨j, rfl⟩ := Int.eq_ofNat_of_zero_le hb.1
  have := List.all_eq_true.mp (List.all_eq_true.mp orB_step k (List.mem_range.mpr (by omega))) j (List.mem_range.mpr (by omega))
  simpa using this
theorem numOf_lt : ∀ (ns : List Int) (a : Int), 0 ≤ a → a < 64 → (∀ b ∈ ns, badB b = false) → 0 ≤ ns.foldl orB a ∧ ns.foldl orB a < 64
  | [], a, h0, h1, _ => ⟨h0, h1⟩
  | b :: ns, a, h0, h1, h => by
    have := orB_lt h0 h1 (h b List.mem_cons_self)
    exact numOf_lt ns (orB a b) this.1 this.2 fun x hx => h x (List.mem_cons_of_mem _ hx)
/-! ## texts of lights -/
def toS (i : Int) : Str := toString i
def okJ (sep : Str) (n : Int) : Bool := decide ((((bandsI n).map toS).map (·.length)).sum + ((bandsI n).map toS).length * sep.length ≤ 100)
theorem okJ_dot {n : Int} (h : 0 ≤ n ∧ n < 64) : okJ "." n = true := all64 (p := okJ ".") (by decide +kernel) h.1 h.2
theorem okJ_com {n : Int} (h : 0 ≤ n ∧ n < 64) : okJ ", " n = true := all64 (p := okJ ", ") (by decide +kernel) h.1 h.2
theorem okJ_le {sep : Str} {n : Int} (h : okJ sep n = true) : (((bandsI n).map toS).map (·.length)).sum + ((bandsI n).map toS).length * sep.length ≤ 16777216 := Nat.le_trans (of_decide_eq_true h) (by decide)
def joinB (sep : Str) (n : Int) : Str := Txt.join sep ((bandsI n).map toS)
def wordT (n : Int) : Str := if n = 0 then "-" else joinB "." n
def okR (n : Int) : Bool := decide ((joinB ", " n).length ≤ 100)
theorem okR_all {n : Int} (h : 0 ≤ n ∧ n < 64) : (joinB ", " n).length ≤ 100 := of_decide_eq_true (all64 (p := okR) (by decide +kernel) h.1 h.2)
def strG : PV → PV
  | .int i => .str (toS i)
  | p => p
theorem strG_map (ns : List Int) : (ns.map PV.int).map strG = (ns.map toS).map PV.str := by rw [List.map_map, List.map_map] <;> rfl
theorem bands_log {n : Int} {x : PV} (hx : x ∈ (bandsI n).map PV.int) : ∃ i : Int, x = .int i ∧ i.natAbs.log2 < 1920 := by
  obtain ⟨i, hi, rfl⟩ := List.mem_map.mp hx
  have hi := (List.mem_filter.mp hi).1
  have : ([0, 1, 2, 3, 4, 5] : List Int).all (fun b => decide (b.natAbs.log2 < 1920)) = true := by decide +kernel
  exact ⟨i, rfl, of_decide_eq_true (List.all_eq_true.mp this i hi)⟩
theorem bands_len (n : Int) : ((bandsI n).map PV.int).length ≤ 6 := by rw [List.length_map]; exact List.length_filter_le _ _
theorem bitAnd_comm {m n : Int} (hm : 0 ≤ m ∧ m < 64) (hn : 0 ≤ n ∧ n < 64) : Builtin.bitAnd m n = Builtin.bitAnd n m := all2 (p := fun m n => Builtin.bitAnd m n = Builtin.bitAnd n m) (by decide +kernel) hm hn
/-! ## contracts -/
abbrev R6 (n : Int) : Prop := 0 ≤ n ∧ n < 64
/-- the light's number -/
def lnum : PV → Option Int
  | .obj .Light [.int m, .tup _] => some m
  | _ => none
def intsP : List PV → Option (List Int)
  | [] => some []
  | p :: ps => (match p with
    | .int i => (match intsP ps with
      | some is => some (i :: is)
      | none => none)
    | _ => none)
theorem intsP_map : ∀ (is : List Int), intsP (is.map .int) = some is
  | [] => rfl
  | i :: is => by
    show (match intsP (is.map .int) with
      | some is => some (i :: is)
      | none => none) = _
    rw [intsP_map is]
theorem intsP_inv : ∀ {ps : List PV} {is : List Int}, intsP ps = some is → ps = is.map .int
  | [], is, h => by cases h; rfl
  | p :: ps, is, h => by
    unfold intsP at h
    split at h
    · split at h
      · rename_i i js e
        cases h
        rw [intsP_inv e] <;> rfl
      · cases h
    · cases h
theorem rng_and {m n : Int} (hm : R6 m) (hn : R6 n) : R6 (Builtin.bitAnd m n) := all2 (p := fun m n => R6 (Builtin.bitAnd m n)) (by decide +kernel) hm hn
theorem rng_or {m n : Int} (hm : R6 m) (hn : R6 n) : R6 (Builtin.bitOr m n) := all2 (p := fun m n => R6 (Builtin.bitOr m n)) (by decide +kernel) hm hn
theorem rng_xor {m n : Int} (hm : R6 m) (hn : R6 n) : R6 (Builtin.bitXor m n) := all2 (p := fun m n => R6 (Builtin.bitXor m n)) (by decide +kernel) hm hn
theorem rng_sub {m n : Int} (hm : R6 m) (hn : R6 n) : R6 (Builtin.bitAnd m (63 - n)) := all2 (p := fun m n => R6 (Builtin.bitAnd m (63 - n))) (by decide +kernel) hm hn
theorem rng_inv {m : Int} (hm : R6 m) : R6 (63 - m) := ⟨by have := hm.2; omega, by have := hm.1; omega⟩
def takesB (z : Str) : Bool := decide (z = "any") || (decide (z = "bare") || decide (z = "inked"))
def lowB (n : Int) : Int := match bandsI n with
  | b :: _ => b
  | [] => 0
theorem lowB_at {n : Int} (h0 : R6 n) (h : n ≠ 0) : ∃ bs, bandsI n = lowB n :: bs := by
  have := all64 (p := fun n => decide (n = 0) || !(bandsI n).isEmpty) (by decide +kernel) h0.1 h0.2
  unfold lowB
  cases e : bandsI n with
  | nil => rw [e] at this; simp at this; exact absurd this h
  | cons b bs => exact ⟨bs, rfl⟩
/-! ## films -/
def nothingF : PV := .obj .Film [.tup [lt 0, lt 0, .bl false], .tup [lt 0, lt 0, .bl true]]
def filmOf (when_ : Str) (off on : PV) : PV := if when_ = "bare" then .obj .Film [.tup [off, on, .bl true], .tup [lt 0, lt 0, .bl true]] else if when_ = "inked" then .obj .Film [.tup [lt 0, lt 0, .bl false], .tup [off, on, .bl true]] else .obj .Film [.tup [off, on, .bl true], .tup [off, on, .bl true]]
/-- a colour behind off, on -/
def putC (c off on : Int) : Int := Builtin.bitOr (Builtin.bitAnd c (63 - off)) on
theorem rng_put {c off on : Int} (hc : R6 c) (h1 : R6 off) (h2 : R6 on) : R6 (putC c off on) := rng_or (rng_sub hc h1) h2
/-! ## the law's ones -/
def one (mask : PV) (side : Bool) (when_ : Str) (off on : Int) (kind : Str) : PV := .tup [mask, .bl side, .str when_, .int off, .int on, .str kind]
def WhenOk (cond : Bool) (z : Str) : Prop := z = "any" ∨ (cond = true ∧ (z = "bare" ∨ z = "inked"))
def KindOk (off on : Int) (kind : Str) : Prop := R6 off ∧ R6 on ∧ ((kind = "filter" ∧ on = 0) ∨ (kind = "bleach" ∧ off = 0) ∨ (kind = "opaque" ∧ off = 63 - on) ∨ (kind = "ink" ∧ Builtin.bitAnd off on = 0))
def MaskOk (ns : List PV) (sided : Bool) (mask : PV) (side : Bool) : Prop := (mask = .non ∧ side = false) ∨ (mask ∈ ns ∧ (side = true → sided = true))
theorem and0 {m : Int} (hm : R6 m) : Builtin.bitAnd m 0 = 0 ∧ Builtin.bitAnd 0 m = 0 ∧ Builtin.bitAnd (63 - m) m = 0 ∧ Builtin.bitAnd m (63 - m) = 0 := of_decide_eq_true (all64 (p := fun m => decide (Builtin.bitAnd m 0 = 0 ∧ Builtin.bitAnd 0 m = 0 ∧ Builtin.bitAnd (63 - m) m = 0 ∧ Builtin.bitAnd m (63 - m) = 0)) (by decide +kernel) hm.1 hm.2)
theorem and_sub {m n : Int} (hm : R6 m) (hn : R6 n) : Builtin.bitAnd m (Builtin.bitAnd n (63 - m)) = 0 := all2 (p := fun m n => Builtin.bitAnd m (Builtin.bitAnd n (63 - m)) = 0) (by decide +kernel) hm hn
theorem KindOk.and (h : KindOk off on kind) : Builtin.bitAnd off on = 0 := by
  obtain ⟨h1, h2, ⟨_, rfl⟩ | ⟨_, rfl⟩ | ⟨_, rfl⟩ | ⟨_, h⟩⟩ := h
  · exact (and0 h1).1
  · exact (and0 h2).2.1
  · exact (and0 h2).2.2.1
  · exact h
theorem WhenOk.takes (h : WhenOk c z) : takesB z = true := by
  rcases h with rfl | ⟨_, rfl | rfl⟩ <;> decide
def inkCl (kind : Str) : Cl := if kind = "filter" then .Filter else if kind = "bleach" then .Bleach else if kind = "opaque" then .Opaque else .Ink
def inkOf (kind when_ : Str) (off on : Int) : PV := .obj (inkCl kind) [lt off, lt on, .str when_]
def activeB (mask : PV) (side : Bool) (lit : List PV) : Bool := match mask with
  | .non => true
  | m => !decide (inP m lit = side)
/-- one step of the law's own print -/
def stepC (w : Bool) (a : Bool) (when_ : Str) : Bool := a && !((decide (when_ = "bare") && w) || (decide (when_ = "inked") && !w))
/-- a state of the law's own print -/
def stP (s : Int × Bool) : PV := .tup [.int s.1, .bl s.2]
/-- the pass of a one -/
structure One where
  mask : PV
  side : Bool
  when_ : Str
  off : Int
  on : Int
  kind : Str
def One.pv (o : One) : PV := one o.mask o.side o.when_ o.off o.on o.kind
def One.act (o : One) (lit : List PV) : Bool := activeB o.mask o.side lit
def stepS (lit : List PV) (s : Int × Bool) (o : One) : Int × Bool := if stepC s.2 (o.act lit) o.when_ then (putC s.1 o.off o.on, true) else s
def printS (os : List One) (lit : List PV) (s : Int × Bool) : Int × Bool := os.foldl (stepS lit) s
theorem stepS_pv (lit : List PV) (c : Int) (w : Bool) (o : One) : stP (stepS lit (c, w) o) = if stepC w (activeB o.mask o.side lit) o.when_ then .tup [.int (putC c o.off o.on), .bl true] else .tup [.int c, .bl w] := by
  unfold stepS One.act
  split <;> rfl
/-- the four places of a film -/
def four : List (Int × Bool) := [(0, false), (63, false), (0, true), (63, true)]
theorem put00 {c : Int} (hc : R6 c) : putC c 0 0 = c := of_decide_eq_true (all64 (p := fun c => decide (putC c 0 0 = c)) (by decide +kernel) hc.1 hc.2)
theorem atI_lt {xs : List PV} {r : Int} (h0 : 0 ≤ r) (h1 : r < xs.length) : ∃ x ∈ xs, atI xs r = some x := by
  obtain ⟨j, rfl⟩ := Int.eq_ofNat_of_zero_le h0
  have hj : j < xs.length := by omega
  exact ⟨xs[j], List.getElem_mem hj, atI_nat (List.getElem?_eq_getElem hj)⟩
def inkC (c : Cl) : Bool := decide (c = .Ink) || (decide (c = .Filter) || (decide (c = .Opaque) || decide (c = .Bleach)))
end Px

namespace Px
open PySem PySem.Spec PyProof.Rows L2
/-! ## bits -/
def bt (n : Int) (i : Nat) : Bool := n.toNat.testBit i
def bs6 : List Nat := [0, 1, 2, 3, 4, 5]
theorem ext6 {a b : Int} (ha : R6 a) (hb : R6 b) (h : ∀ i ∈ bs6, bt a i = bt b i) : a = b := by
  have := all2 (p := fun a b => (∀ i ∈ bs6, bt a i = bt b i) → a = b) (by decide +kernel) ha hb
  exact this h
theorem bt_and {a b : Int} (ha : R6 a) (hb : R6 b) {i : Nat} (hi : i ∈ bs6) : bt (Builtin.bitAnd a b) i = (bt a i && bt b i) := all2 (p := fun a b => ∀ i ∈ bs6, bt (Builtin.bitAnd a b) i = (bt a i && bt b i)) (by decide +kernel) ha hb i hi
theorem bt_or {a b : Int} (ha : R6 a) (hb : R6 b) {i : Nat} (hi : i ∈ bs6) : bt (Builtin.bitOr a b) i = (bt a i || bt b i) := all2 (p := fun a b => ∀ i ∈ bs6, bt (Builtin.bitOr a b) i = (bt a i || bt b i)) (by decide +kernel) ha hb i hi
theorem bt_xor {a b : Int} (ha : R6 a) (hb : R6 b) {i : Nat} (hi : i ∈ bs6) : bt (Builtin.bitXor a b) i = Bool.xor (bt a i) (bt b i) := all2 (p := fun a b => ∀ i ∈ bs6, bt (Builtin.bitXor a b) i = Bool.xor (bt a i) (bt b i)) (by decide +kernel) ha hb i hi
theorem bt_inv {a : Int} (ha : R6 a) {i : Nat} (hi : i ∈ bs6) : bt (63 - a) i = !bt a i := of_decide_eq_true (all64 (p := fun a => decide (∀ i ∈ bs6, bt (63 - a) i = !bt a i)) (by decide +kernel) ha.1 ha.2) i hi
theorem bt_zero {i : Nat} (hi : i ∈ bs6) : bt 0 i = false := (by decide +kernel : ∀ i ∈ bs6, bt 0 i = false) i hi
theorem bt_full {i : Nat} (hi : i ∈ bs6) : bt 63 i = true := (by decide +kernel : ∀ i ∈ bs6, bt 63 i = true) i hi
theorem bt_put {c o n : Int} (hc : R6 c) (ho : R6 o) (hn : R6 n) {i : Nat} (hi : i ∈ bs6) : bt (putC c o n) i = ((bt c i && !bt o i) || bt n i) := by
  unfold putC
  rw [bt_or (rng_sub hc ho) hn hi, bt_and hc (rng_inv ho) hi, bt_inv ho hi]
/-! ## effects and films -/
structure Eff where
  off : Int
  on : Int
  mkd : Bool
  deriving DecidableEq
def Eff.pv (e : Eff) : PV := .tup [lt e.off, lt e.on, .bl e.mkd]
def Eff.ok (e : Eff) : Prop := R6 e.off ∧ R6 e.on
def filmV (b i : Eff) : PV := .obj .Film [b.pv, i.pv]
def e0 : Eff := ⟨0, 0, false⟩
def e1 : Eff := ⟨0, 0, true⟩
/-- what a film is made of -/
structure Fm where
  b : Eff
  i : Eff
  deriving DecidableEq
def Fm.pv (f : Fm) : PV := filmV f.b f.i
def Fm.ok (f : Fm) : Prop := f.b.ok ∧ f.i.ok
def fNo0 : Fm := ⟨e0, e1⟩
def fOf (when_ : Str) (off on : Int) : Fm := if when_ = "bare" then ⟨⟨off, on, true⟩, e1⟩ else if when_ = "inked" then ⟨e0, ⟨off, on, true⟩⟩ else ⟨⟨off, on, true⟩, ⟨off, on, true⟩⟩
theorem filmOf_eq (when_ : Str) (off on : Int) : filmOf when_ (lt off) (lt on) = (fOf when_ off on).pv := by
  unfold filmOf fOf
  split
  · rfl
  · split <;> rfl
theorem fOf_ok {when_ : Str} {off on : Int} (h1 : R6 off) (h2 : R6 on) : (fOf when_ off on).ok := by
  have z : R6 0 := by decide
  unfold fOf
  split
  · exact ⟨⟨h1, h2⟩, z, z⟩
  · split
    · exact ⟨⟨z, z⟩, h1, h2⟩
    · exact ⟨⟨h1, h2⟩, h1, h2⟩
theorem fNo_ok : fNo0.ok := ⟨⟨by decide, by decide⟩, by decide, by decide⟩
/-- one effect behind another -/
def aftE (a b : Eff) : Eff := ⟨Builtin.bitOr (Builtin.bitAnd a.off (63 - b.on)) b.off, Builtin.bitOr (Builtin.bitAnd a.on (63 - b.off)) b.on, a.mkd || b.mkd⟩
theorem aftE_ok {a b : Eff} (ha : a.ok) (hb : b.ok) : (aftE a b).ok := ⟨rng_or (rng_sub ha.1 hb.2) hb.1, rng_or (rng_sub ha.2 hb.1) hb.2⟩
def addF (f g : Fm) : Fm := ⟨aftE f.b (if f.b.mkd then g.i else g.b), aftE f.i g.i⟩
theorem addF_ok {f g : Fm} (hf : f.ok) (hg : g.ok) : (addF f g).ok := ⟨aftE_ok hf.1 (by split; exact hg.2; exact hg.1), aftE_ok hf.2 hg.2⟩
theorem put_aft {c : Int} {a b : Eff} (hc : R6 c) (ha : a.ok) (hb : b.ok) : putC (putC c a.off a.on) b.off b.on = putC c (aftE a b).off (aftE a b).on := by
  have h := aftE_ok ha hb
  refine ext6 (rng_put (rng_put hc ha.1 ha.2) hb.1 hb.2) (rng_put hc h.1 h.2) fun i hi => ?_
  rw [bt_put (rng_put hc ha.1 ha.2) hb.1 hb.2 hi, bt_put hc ha.1 ha.2 hi, bt_put hc h.1 h.2 hi]
  show _ = ((bt c i && !bt (Builtin.bitOr (Builtin.bitAnd a.off (63 - b.on)) b.off) i) || bt (Builtin.bitOr (Builtin.bitAnd a.on (63 - b.off)) b.on) i)
  rw [bt_or (rng_sub ha.1 hb.2) hb.1 hi, bt_and ha.1 (rng_inv hb.2) hi, bt_inv hb.2 hi, bt_or (rng_sub ha.2 hb.1) hb.2 hi, bt_and ha.2 (rng_inv hb.1) hi, bt_inv hb.1 hi]
  cases bt c i <;> cases bt a.off i <;> cases bt a.on i <;> cases bt b.off i <;> cases bt b.on i <;> rfl
/-- a film at a state -/
def runF (f : Fm) (s : Int × Bool) : Int × Bool := if s.2 then (putC s.1 f.i.off f.i.on, f.i.mkd) else (putC s.1 f.b.off f.b.on, f.b.mkd)
/-- an inked start stays inked -/
def Fm.wet (f : Fm) : Prop := f.i.mkd = true
theorem fOf_wet (w : Str) (off on : Int) : (fOf w off on).wet := by unfold fOf Fm.wet; split; rfl; split <;> rfl
theorem addF_wet {f g : Fm} (h : g.wet) : (addF f g).wet := by unfold addF Fm.wet aftE; simp [h]; right; exact h
theorem run_add {f g : Fm} {s : Int × Bool} (hs : R6 s.1) (hf : f.ok) (hg : g.ok) (wf : f.wet) (wg : g.wet) : runF (addF f g) s = runF g (runF f s) := by
  obtain ⟨c, w⟩ := s
  have wf : f.i.mkd = true := wf
  have wg : g.i.mkd = true := wg
  cases w with
  | true =>
    show (putC c (aftE f.i g.i).off (aftE f.i g.i).on, f.i.mkd || g.i.mkd) = runF g (putC c f.i.off f.i.on, f.i.mkd)
    rw [← put_aft hs hf.2 hg.2, wf]
    show (_, true || g.i.mkd) = (putC (putC c f.i.off f.i.on) g.i.off g.i.on, g.i.mkd)
    rw [wg] <;> rfl
  | false =>
    show (putC c (aftE f.b (if f.b.mkd then g.i else g.b)).off (aftE f.b (if f.b.mkd then g.i else g.b)).on, f.b.mkd || (if f.b.mkd then g.i else g.b).mkd) = runF g (putC c f.b.off f.b.on, f.b.mkd)
    cases e : f.b.mkd with
    | true =>
      simp only [if_true]
      rw [← put_aft hs hf.1 hg.2]
      show (_, true || g.i.mkd) = (putC (putC c f.b.off f.b.on) g.i.off g.i.on, g.i.mkd)
      rw [wg] <;> rfl
    | false =>
      simp only [Bool.false_eq_true, if_false]
      rw [← put_aft hs hf.1 hg.1] <;> rfl
/-! ## films told by what they do -/
theorem eff_eq {a b : Eff} (ha : a.ok) (hb : b.ok) (da : Builtin.bitAnd a.off a.on = 0) (db : Builtin.bitAnd b.off b.on = 0) (h0 : putC 0 a.off a.on = putC 0 b.off b.on) (h1 : putC 63 a.off a.on = putC 63 b.off b.on) (hm : a.mkd = b.mkd) : a = b := by
  have z0 : R6 0 := by decide
  have z1 : R6 63 := by decide
  have k : ∀ i ∈ bs6, bt a.off i = bt b.off i ∧ bt a.on i = bt b.on i := fun i hi => by
    have q0 := congrArg (bt · i) h0
    have q1 := congrArg (bt · i) h1
    have qa := congrArg (bt · i) da
    have qb := congrArg (bt · i) db
    simp only [bt_put z0 ha.1 ha.2 hi, bt_put z0 hb.1 hb.2 hi, bt_put z1 ha.1 ha.2 hi, bt_put z1 hb.1 hb.2 hi, bt_zero hi, bt_full hi, bt_and ha.1 ha.2 hi, bt_and hb.1 hb.2 hi] at q0 q1 qa qb
    revert q0 q1 qa qb
    cases bt a.off i <;> cases bt a.on i <;> cases bt b.off i <;> cases bt b.on i <;> simp
  obtain ⟨x, y, z⟩ := a
  obtain ⟨x', y', z'⟩ := b
  have e1 : x = x' := ext6 ha.1 hb.1 fun i hi => (k i hi).1
  have e2 : y = y' := ext6 ha.2 hb.2 fun i hi => (k i hi).2
  have e3 : z = z' := hm
  rw [e1, e2, e3]
def Eff.dj (e : Eff) : Prop := Builtin.bitAnd e.off e.on = 0
theorem aftE_dj {a b : Eff} (ha : a.ok) (hb : b.ok) (da : a.dj) (db : b.dj) : (aftE a b).dj := by
  have h := aftE_ok ha hb
  have z : R6 0 := by decide
  refine ext6 (rng_and h.1 h.2) z fun i hi => ?_
  rw [bt_and h.1 h.2 hi, bt_zero hi]
  show (bt (Builtin.bitOr (Builtin.bitAnd a.off (63 - b.on)) b.off) i && bt (Builtin.bitOr (Builtin.bitAnd a.on (63 - b.off)) b.on) i) = false
  rw [bt_or (rng_sub ha.1 hb.2) hb.1 hi, bt_and ha.1 (rng_inv hb.2) hi, bt_inv hb.2 hi, bt_or (rng_sub ha.2 hb.1) hb.2 hi, bt_and ha.2 (rng_inv hb.1) hi, bt_inv hb.1 hi]
  have qa := congrArg (bt · i) da
  have qb := congrArg (bt · i) db
  simp only [bt_and ha.1 ha.2 hi, bt_and hb.1 hb.2 hi, bt_zero hi] at qa qb
  revert qa qb
  cases bt a.off i <;> cases bt a.on i <;> cases bt b.off i <;> cases bt b.on i <;> simp
def Fm.dj (f : Fm) : Prop := f.b.dj ∧ f.i.dj
theorem addF_dj {f g : Fm} (hf : f.ok) (hg : g.ok) (df : f.dj) (dg : g.dj) : (addF f g).dj := ⟨aftE_dj hf.1 (by split; exact hg.2; exact hg.1) df.1 (by split; exact dg.2; exact dg.1), aftE_dj hf.2 hg.2 df.2 dg.2⟩
theorem fOf_dj {w : Str} {off on : Int} (h : Builtin.bitAnd off on = 0) : (fOf w off on).dj := by
  have z : Builtin.bitAnd 0 0 = (0 : Int) := by decide +kernel
  unfold fOf
  split
  · exact ⟨h, z⟩
  · split
    · exact ⟨z, h⟩
    · exact ⟨h, h⟩
/-- two films that do the same are the same -/
theorem film_eq {f g : Fm} (hf : f.ok) (hg : g.ok) (df : f.dj) (dg : g.dj) (h : ∀ s ∈ four, runF f s = runF g s) : f = g := by
  have h0 := h (0, false) (by decide)
  have h1 := h (63, false) (by decide)
  have h2 := h (0, true) (by decide)
  have h3 := h (63, true) (by decide)
  have a := eff_eq hf.1 hg.1 df.1 dg.1 (congrArg Prod.fst h0) (congrArg Prod.fst h1) (congrArg Prod.snd h0)
  have b := eff_eq hf.2 hg.2 df.2 dg.2 (congrArg Prod.fst h2) (congrArg Prod.fst h3) (congrArg Prod.snd h2)
  obtain ⟨x, y⟩ := f
  obtain ⟨x', y'⟩ := g
  have a : x = x' := a
  have b : y = y' := b
  rw [a, b]
end Px

namespace Px
open PySem PySem.Spec PyProof.Rows L2
theorem cEq_inv {c : Cl} {f : Qf} {as : List PV} {μ : Mu} {q : QV} {x : QX} (h : cEq c f as μ q x) : ∃ xs b k, as = [.obj c xs, b] ∧ f xs b = some k ∧ q (.bl k) μ := by
  unfold cEq at h
  split at h
  · rename_i d xs b
    split at h
    · rename_i e _
      subst e
      split at h
      · rename_i k e
        exact ⟨xs, b, k, rfl, e, h⟩
      · exact h.elim
    · exact h.elim
  · exact h.elim
theorem cEq_len {c : Cl} {f : Qf} : ∀ as μ q z, cEq c f as μ q z → as.length = 2 := fun as μ q z h => by
  obtain ⟨xs, b, k, rfl, _⟩ := cEq_inv h
  rfl
/-- something that is no instance of the class -/
def othB (c : Cl) (b : PV) : Bool := match b with
  | .int _ | .str _ | .bl _ | .non | .tup _ | .lst _ => true
  | .obj d _ => !subCl d c
  | _ => false
def othQ (c : Cl) (b : PV) : Option Bool := match othB c b with
  | true => some false
  | false => none
theorem othQ_inv {c : Cl} {b : PV} {k : Bool} (h : othQ c b = some k) : othB c b = true ∧ k = false := by
  unfold othQ at h
  split at h
  · rename_i e; cases h; exact ⟨e, rfl⟩
  · cases h
theorem oth_isi {c : Cl} {b : PV} {μ : Mu} (h : othB c b = true) : isiP μ b (.cls c) = some false := by
  cases b <;> first | rfl | cases h | skip
  rename_i d ys
  have h : subCl d c = false := by simpa [othB] using h
  show some (subCl d c) = some false
  rw [h]
/-! ## lights -/
def q_Light : Qf := fun xs b => match xs with
  | [.int m, _] => (match b with
    | .obj .Light [.int n, _] => some (decide (m = n))
    | b => othQ .Light b)
  | _ => none
theorem q_Light_inv {xs : List PV} {b : PV} {k : Bool} (h : q_Light xs b = some k) : (∃ m t n t2, xs = [.int m, t] ∧ b = .obj .Light [.int n, t2] ∧ k = decide (m = n)) ∨ ∃ m t, xs = [.int m, t] ∧ othB .Light b = true ∧ k = false := by
  unfold q_Light at h
  split at h
  · split at h
    · cases h; exact .inl ⟨_, _, _, _, rfl, rfl, rfl⟩
    · exact .inr ⟨_, _, rfl, othQ_inv h⟩
  · cases h
theorem same_Light : SameO .Light q_Light := fun X pins s σ H B μ G xs ys vs k ka J o rx ry h => by
  rcases q_Light_inv h with ⟨m, t, n, t2, rfl, e, rfl⟩ | ⟨m, t, rfl, hb, rfl⟩
  · cases e
    obtain ⟨v, ws, rfl, r1, _⟩ := rx.cons_inv
    obtain ⟨v2, ws2, e, r2, _⟩ := ry.cons_inv
    cases e
    have e1 := r1.int_inv
    have e2 := r2.int_inv
    rw [e1] at e2
    cases e2
    simp
  · cases hb
theorem eqi_Light : ∀ as μ q x, cEq .Light q_Light as μ q x → cEq .Light q_Light as μ q x := fun _ _ _ _ h => h
def QL : Qt := [(.Light, q_Light)]
theorem sameQL : ∀ c f, (c, f) ∈ QL → SameO c f := fun c f h => by
  have : (c, f) = (.Light, q_Light) := by simpa [QL] using h
  cases this
  exact same_Light
/-! ## films -/
def q_Film : Qf := fun xs b => match xs with
  | [.tup a1, .tup a2] => (match b with
    | .obj .Film [.tup b1, .tup b2] => andO (deq QL 10 (.tup a1) (.tup b1)) (deq QL 10 (.tup a2) (.tup b2))
    | b => othQ .Film b)
  | _ => none
theorem q_Film_inv {xs : List PV} {b : PV} {k : Bool} (h : q_Film xs b = some k) : (∃ a1 a2 b1 b2, xs = [.tup a1, .tup a2] ∧ b = .obj .Film [.tup b1, .tup b2] ∧ andO (deq QL 10 (.tup a1) (.tup b1)) (deq QL 10 (.tup a2) (.tup b2)) = some k) ∨ ∃ a1 a2, xs = [.tup a1, .tup a2] ∧ othB .Film b = true ∧ k = false := by
  unfold q_Film at h
  split at h
  · split at h
    · exact .inl ⟨_, _, _, _, rfl, rfl, h⟩
    · exact .inr ⟨_, _, rfl, othQ_inv h⟩
  · cases h
theorem same_and {f g : PV → PV → Option Bool} (hf : Same f) (hg : Same g) {X : Cx} {pins : List (Addr × Obj)} {s : Shared} {σ : L2.St} {H : Hp} {B : BX} {μ : Mu} {G : Hp} {a1 a2 b1 b2 : PV} {v1 v2 : V} {k : Bool} (ka : KA X.K) (J : Inv X pins σ H s) (o : Ok X.K B μ G H) (r1 : Rep X.K B G a1 v1) (q1 : Rep X.K B G b1 v1) (r2 : Rep X.K B G a2 v2) (q2 : Rep X.K B G b2 v2) (h : andO (f a1 b1) (g a2 b2) = some k) : k = true := by
  rcases andO_inv h with ⟨h1, _⟩ | ⟨_, h2⟩
  · exact absurd (hf X pins s σ H B μ G a1 b1 v1 false ka J o r1 q1 h1) (by decide)
  · exact hg X pins s σ H B μ G a2 b2 v2 k ka J o r2 q2 h2
theorem same_Film : SameO .Film q_Film := fun X pins s σ H B μ G xs ys vs k ka J o rx ry h => by
  rcases q_Film_inv h with ⟨a1, a2, b1, b2, rfl, e, h⟩ | ⟨a1, a2, rfl, hb, rfl⟩
  · cases e
    obtain ⟨v, ws, rfl, r1, rx⟩ := rx.cons_inv
    obtain ⟨v2, ws2, e, q1, ry⟩ := ry.cons_inv
    cases e
    obtain ⟨v, ws, rfl, r2, _⟩ := rx.cons_inv
    obtain ⟨v2, ws2, e, q2, _⟩ := ry.cons_inv
    cases e
    exact same_and (same_deq sameQL 10) (same_deq sameQL 10) ka J o r1 q1 r2 q2 h
  · cases hb
theorem eqi_Film : ∀ as μ q x, cEq .Film q_Film as μ q x → cEq .Film q_Film as μ q x := fun _ _ _ _ h => h
/-! ## == of effects, films -/
theorem deq_eff (a b : Eff) : deq QL 10 a.pv b.pv = some (decide (a = b)) := by
  have h : deq QL 10 a.pv b.pv = andO (some (decide (a.off = b.off))) (andO (some (decide (a.on = b.on))) (andO (some (decide (a.mkd = b.mkd))) (some true))) := rfl
  rw [h]
  obtain ⟨x, y, z⟩ := a
  obtain ⟨x', y', z'⟩ := b
  simp only [Eff.mk.injEq]
  by_cases h1 : x = x' <;> by_cases h2 : y = y' <;> by_cases h3 : z = z' <;> simp [h1, h2, h3, andO]
theorem deq_film (f g : Fm) : q_Film [f.b.pv, f.i.pv] g.pv = some (decide (f = g)) := by
  have h : q_Film [f.b.pv, f.i.pv] g.pv = andO (deq QL 10 f.b.pv g.b.pv) (deq QL 10 f.i.pv g.i.pv) := rfl
  rw [h, deq_eff, deq_eff]
  obtain ⟨x, y⟩ := f
  obtain ⟨x', y'⟩ := g
  simp only [Fm.mk.injEq]
  by_cases h1 : x = x' <;> by_cases h2 : y = y' <;> simp [h1, h2, andO]
end Px

namespace Px
open PySem PySem.Spec PyProof.Rows L2
/-! ## the film of a one -/
def One.fm (o : One) : Fm := fOf o.when_ o.off o.on
structure One.Ok (o : One) (cond : Bool) : Prop where
  w : WhenOk cond o.when_
  k : KindOk o.off o.on o.kind
theorem One.Ok.fok {o : One} {c : Bool} (h : o.Ok c) : o.fm.ok := fOf_ok h.k.1 h.k.2.1
theorem One.Ok.fdj {o : One} {c : Bool} (h : o.Ok c) : o.fm.dj := fOf_dj h.k.and
theorem One.fwet (o : One) : o.fm.wet := fOf_wet _ _ _
theorem WhenOk.three {c : Bool} {z : Str} (h : WhenOk c z) : z = "any" ∨ z = "bare" ∨ z = "inked" := by
  rcases h with h | ⟨_, h⟩
  · exact .inl h
  · exact .inr h
theorem step_run {o : One} {c : Bool} (h : o.Ok c) {lit : List PV} (ha : o.act lit = true) {s : Int × Bool} (hs : R6 s.1) : stepS lit s o = runF o.fm s := by
  obtain ⟨x, w⟩ := s
  obtain ⟨mask, side, when_, off, on, kind⟩ := o
  unfold stepS
  rw [ha]
  have p0 := put00 hs
  have p0 : putC x 0 0 = x := p0
  have hw : when_ = "any" ∨ when_ = "bare" ∨ when_ = "inked" := h.w.three
  rcases hw with rfl | rfl | rfl <;> cases w
  · rfl
  · rfl
  · rfl
  · show (x, true) = (putC x 0 0, true)
    rw [p0]
  · show (x, false) = (putC x 0 0, false)
    rw [p0]
  · rfl
theorem step_skip {o : One} {lit : List PV} (ha : o.act lit = false) (s : Int × Bool) : stepS lit s o = s := by
  unfold stepS
  rw [ha]
  rfl
theorem run_rng {f : Fm} {s : Int × Bool} (hf : f.ok) (hs : R6 s.1) : R6 (runF f s).1 := by
  unfold runF
  split
  · exact rng_put hs hf.2.1 hf.2.2
  · exact rng_put hs hf.1.1 hf.1.2
/-- the film of a row of ones at a set of open masks -/
def sumF (os : List One) (lit : List PV) : Fm := os.foldl (fun f o => if o.act lit then addF f o.fm else f) fNo0
theorem run_no {s : Int × Bool} (hs : R6 s.1) : runF fNo0 s = s := by
  obtain ⟨x, w⟩ := s
  have p0 : putC x 0 0 = x := put00 hs
  cases w
  · show (putC x 0 0, false) = (x, false)
    rw [p0]
  · show (putC x 0 0, true) = (x, true)
    rw [p0]
structure Fm.Gd (f : Fm) : Prop where
  ok : f.ok
  dj : f.dj
  wet : f.wet
theorem Fm.Gd.r {f : Fm} (h : f.Gd) : R6 f.b.off ∧ R6 f.b.on ∧ R6 f.i.off ∧ R6 f.i.on := ⟨h.ok.1.1, h.ok.1.2, h.ok.2.1, h.ok.2.2⟩
/-- a state, with a light -/
def stV (s : Int × Bool) : PV := .tup [lt s.1, .bl s.2]
theorem One.Ok.gd {o : One} {c : Bool} (h : o.Ok c) : o.fm.Gd := ⟨h.fok, h.fdj, o.fwet⟩
theorem gd_no : fNo0.Gd := ⟨fNo_ok, ⟨by show Builtin.bitAnd 0 0 = (0 : Int); decide +kernel, by show Builtin.bitAnd 0 0 = (0 : Int); decide +kernel⟩, rfl⟩
theorem Fm.Gd.add {f g : Fm} (hf : f.Gd) (hg : g.Gd) : (addF f g).Gd := ⟨addF_ok hf.ok hg.ok, addF_dj hf.ok hg.ok hf.dj hg.dj, addF_wet hg.wet⟩
theorem foldF_run {lit : List PV} {c : Bool} : ∀ (os : List One) (f : Fm) (s : Int × Bool), (∀ o ∈ os, o.Ok c) → f.Gd → R6 s.1 → runF (os.foldl (fun f o => if o.act lit then addF f o.fm else f) f) s = os.foldl (stepS lit) (runF f s) ∧ (os.foldl (fun f o => if o.act lit then addF f o.fm else f) f).Gd
  | [], f, s, _, hf, _ => ⟨rfl, hf⟩
  | o :: os, f, s, ho, hf, hs => by
    have h := ho o List.mem_cons_self
    have hr := fun o' h' => ho o' (List.mem_cons_of_mem _ h')
    simp only [List.foldl_cons]
    cases e : o.act lit with
    | true =>
      simp only [if_true]
      obtain ⟨a, b⟩ := foldF_run os (addF f o.fm) s hr (hf.add h.gd) hs
      refine ⟨?_, b⟩
      rw [a, run_add hs hf.ok h.fok hf.wet o.fwet, step_run h e (run_rng hf.ok hs)]
    | false =>
      simp only [Bool.false_eq_true, if_false]
      rw [step_skip e]
      exact foldF_run os f s hr hf hs
theorem sum_run {os : List One} {lit : List PV} {c : Bool} (ho : ∀ o ∈ os, o.Ok c) {s : Int × Bool} (hs : R6 s.1) : runF (sumF os lit) s = printS os lit s := by
  unfold sumF printS
  rw [(foldF_run os fNo0 s ho gd_no hs).1, run_no hs]
theorem sum_gd {os : List One} {lit : List PV} {c : Bool} (ho : ∀ o ∈ os, o.Ok c) : (sumF os lit).Gd := (foldF_run os fNo0 (0, false) ho gd_no (by decide)).2
/-- a good film is told by what it does -/
theorem gd_eq {f g : Fm} (hf : f.Gd) (hg : g.Gd) (h : ∀ s : Int × Bool, R6 s.1 → runF f s = runF g s) : f = g := film_eq hf.ok hg.ok hf.dj hg.dj fun s hs => h s (by
  have : s ∈ four := hs
  simp only [four, List.mem_cons, List.not_mem_nil, or_false] at this
  rcases this with rfl | rfl | rfl | rfl <;> decide)
theorem add_no {f : Fm} (hf : f.Gd) : addF fNo0 f = f ∧ addF f fNo0 = f := by
  refine ⟨gd_eq (gd_no.add hf) hf fun s hs => ?_, gd_eq (hf.add gd_no) hf fun s hs => ?_⟩
  · rw [run_add hs gd_no.ok hf.ok gd_no.wet hf.wet, run_no hs]
  · rw [run_add hs hf.ok gd_no.ok hf.wet gd_no.wet, run_no (run_rng hf.ok hs)]
theorem add_assoc {f g h : Fm} (hf : f.Gd) (hg : g.Gd) (hh : h.Gd) : addF (addF f g) h = addF f (addF g h) := by
  refine gd_eq ((hf.add hg).add hh) (hf.add (hg.add hh)) fun s hs => ?_
  rw [run_add hs (hf.add hg).ok hh.ok (hf.add hg).wet hh.wet, run_add hs hf.ok hg.ok hf.wet hg.wet, run_add hs hf.ok (hg.add hh).ok hf.wet (hg.add hh).wet, run_add (run_rng hf.ok hs) hg.ok hh.ok hg.wet hh.wet]
def four4 (f : Int × Bool → Int × Bool) : List PV := [stP (f (0, false)), stP (f (63, false)), stP (f (0, true)), stP (f (63, true))]
theorem four_eq {f g : Int × Bool → Int × Bool} (h : ∀ s : Int × Bool, R6 s.1 → f s = g s) : four4 f = four4 g := by
  unfold four4
  rw [h (0, false) (by decide), h (63, false) (by decide), h (0, true) (by decide), h (63, true) (by decide)]
end Px

namespace Px
open PySem PySem.Spec PyProof.Rows L2
theorem eqQ_of {Q : Qt} {μ : Mu} {a b : PV} {k : Bool} {q : QV} {x : QX} (h : deq Q 10 a b = some k) (hq : q (.bl k) μ) : eqQ Q false a b μ q x := by
  have h2 := deqT_of (μ := μ) h
  unfold eqQ
  split
  · rename_i k2 e
    rw [deqT_flat e] at h2
    have : k2 = k := by simpa [sgn] using h2
    subst this
    simpa [sgn] using hq
  · rw [deqL_eq, h2]
    exact hq
/-! ## == of inks -/
def q_Ink : Qf := fun xs b => match xs with
  | [a1, a2, a3] => (match b with
    | .obj c [b1, b2, b3] => (match inkC c with
      | true => andO (deq QL 10 a1 b1) (andO (deq QL 10 a2 b2) (deq QL 10 a3 b3))
      | false => othQ .Ink (.obj c [b1, b2, b3]))
    | b => othQ .Ink b)
  | _ => none
theorem q_Ink_inv {xs : List PV} {b : PV} {k : Bool} (h : q_Ink xs b = some k) : (∃ a1 a2 a3 c b1 b2 b3, xs = [a1, a2, a3] ∧ b = .obj c [b1, b2, b3] ∧ inkC c = true ∧ andO (deq QL 10 a1 b1) (andO (deq QL 10 a2 b2) (deq QL 10 a3 b3)) = some k) ∨ ∃ a1 a2 a3, xs = [a1, a2, a3] ∧ othB .Ink b = true ∧ k = false := by
  unfold q_Ink at h
  split at h
  · split at h
    · split at h
      · exact .inl ⟨_, _, _, _, _, _, _, rfl, rfl, ‹_›, h⟩
      · exact .inr ⟨_, _, _, rfl, othQ_inv h⟩
    · exact .inr ⟨_, _, _, rfl, othQ_inv h⟩
  · cases h
theorem inkC_cases {c : Cl} (h : inkC c = true) : c = .Ink ∨ c = .Filter ∨ c = .Opaque ∨ c = .Bleach := by
  cases c <;> first | exact .inl rfl | exact .inr (.inl rfl) | exact .inr (.inr (.inl rfl)) | exact .inr (.inr (.inr rfl)) | cases h
theorem inkC_oth {c : Cl} (h : inkC c = true) (xs : List PV) : othB .Ink (.obj c xs) = false := by
  rcases inkC_cases h with rfl | rfl | rfl | rfl <;> rfl
theorem same_ink {c : Cl} (hc : inkC c = true) : SameO c q_Ink := fun X pins s σ H B μ G xs ys vs k ka J o rx ry h => by
  rcases q_Ink_inv h with ⟨a1, a2, a3, d, b1, b2, b3, rfl, e, _, h5⟩ | ⟨a1, a2, a3, rfl, hb, rfl⟩
  · cases e
    obtain ⟨v, ws, rfl, r1, rx⟩ := rx.cons_inv
    obtain ⟨v2, ws2, e, q1, ry⟩ := ry.cons_inv
    cases e
    obtain ⟨v, ws, rfl, r2, rx⟩ := rx.cons_inv
    obtain ⟨v2, ws2, e, q2, ry⟩ := ry.cons_inv
    cases e
    obtain ⟨v, ws, rfl, r3, _⟩ := rx.cons_inv
    obtain ⟨v2, ws2, e, q3, _⟩ := ry.cons_inv
    cases e
    rcases andO_inv h5 with ⟨h1, _⟩ | ⟨_, h2⟩
    · exact absurd (same_deq sameQL 10 X pins s σ H B μ G _ _ _ false ka J o r1 q1 h1) (by decide)
    · exact same_and (same_deq sameQL 10) (same_deq sameQL 10) ka J o r2 q2 r3 q3 h2
  · rw [inkC_oth hc] at hb
    cases hb
theorem same_Ink : SameO .Ink q_Ink := same_ink rfl
theorem same_Filter : SameO .Filter q_Ink := same_ink rfl
theorem same_Opaque : SameO .Opaque q_Ink := same_ink rfl
theorem same_Bleach : SameO .Bleach q_Ink := same_ink rfl
def c_Ink___eq__ : Ct := fun as μ q _ => match as with
  | [.obj c xs, b] => inkC c = true ∧ ∃ k, q_Ink xs b = some k ∧ q (.bl k) μ
  | _ => False
theorem eqi_ink {c : Cl} (hc : inkC c = true) : ∀ as μ q x, cEq c q_Ink as μ q x → c_Ink___eq__ as μ q x := fun as μ q x h => by
  obtain ⟨xs, b, k, rfl, e, hq⟩ := cEq_inv h
  exact ⟨hc, k, e, hq⟩
theorem eqi_Ink : ∀ as μ q x, cEq .Ink q_Ink as μ q x → c_Ink___eq__ as μ q x := eqi_ink rfl
theorem eqi_Filter : ∀ as μ q x, cEq .Filter q_Ink as μ q x → c_Ink___eq__ as μ q x := eqi_ink rfl
theorem eqi_Opaque : ∀ as μ q x, cEq .Opaque q_Ink as μ q x → c_Ink___eq__ as μ q x := eqi_ink rfl
theorem eqi_Bleach : ∀ as μ q x, cEq .Bleach q_Ink as μ q x → c_Ink___eq__ as μ q x := eqi_ink rfl
/-- the table of a law that compares inks -/
def QI : Qt := [(.Ink, q_Ink), (.Filter, q_Ink), (.Opaque, q_Ink), (.Bleach, q_Ink)]
theorem q_ink {c d : Cl} (hd : inkC d = true) (off on off2 on2 : Int) (z z2 : Str) : q_Ink [lt off, lt on, .str z] (.obj d [lt off2, lt on2, .str z2]) = some (decide (off = off2) && (decide (on = on2) && decide (z = z2))) := by
  have h : q_Ink [lt off, lt on, .str z] (.obj d [lt off2, lt on2, .str z2]) = andO (some (decide (off = off2))) (andO (some (decide (on = on2))) (some (decide (z = z2)))) := by
    rcases inkC_cases hd with rfl | rfl | rfl | rfl <;> rfl
  rw [h]
  by_cases h1 : off = off2 <;> by_cases h2 : on = on2 <;> by_cases h3 : z = z2 <;> simp [h1, h2, h3, andO]
theorem deq_ink {c d : Cl} (hc : inkC c = true) (hd : inkC d = true) (off on off2 on2 : Int) (z z2 : Str) : deq QI 10 (.obj c [lt off, lt on, .str z]) (.obj d [lt off2, lt on2, .str z2]) = some (decide (off = off2) && (decide (on = on2) && decide (z = z2))) := by
  have h1 := q_ink (c := c) hd off on off2 on2 z z2
  have h2 := q_ink (c := c) hc off2 on2 off on z2 z
  have e : (decide (off2 = off) && (decide (on2 = on) && decide (z2 = z))) = (decide (off = off2) && (decide (on = on2) && decide (z = z2))) := by
    simp only [eq_comm (a := off2), eq_comm (a := on2), eq_comm (a := z2)]
  rw [e] at h2
  rcases inkC_cases hc with rfl | rfl | rfl | rfl <;> rcases inkC_cases hd with rfl | rfl | rfl | rfl <;> first | exact h1 | exact h2
theorem inkCl_c (kind : Str) : inkC (inkCl kind) = true := by
  unfold inkCl
  split
  · rfl
  · split
    · rfl
    · split <;> rfl
theorem inkCl_flds (kind : Str) : (inkCl kind).flds = Cl.flds .Ink := by
  rcases inkC_cases (inkCl_c kind) with h | h | h | h <;> rw [h] <;> rfl
theorem deq_inkOf (k k2 z z2 : Str) (off on off2 on2 : Int) : deq QI 10 (inkOf k z off on) (inkOf k2 z2 off2 on2) = some (decide (off = off2) && (decide (on = on2) && decide (z = z2))) := deq_ink (inkCl_c k) (inkCl_c k2) off on off2 on2 z z2
theorem deq_ink' (Q : Qt) (q1 : lookQ Q .Ink = some q_Ink) (q2 : lookQ Q .Filter = some q_Ink) (q3 : lookQ Q .Opaque = some q_Ink) (q4 : lookQ Q .Bleach = some q_Ink) {c d : Cl} (hc : inkC c = true) (hd : inkC d = true) (xs ys : List PV) : deq Q 10 (.obj c xs) (.obj d ys) = deq QI 10 (.obj c xs) (.obj d ys) := by
  show deqO Q c xs (.obj d ys) = deqO QI c xs (.obj d ys)
  have r1 : lookQ QI .Ink = some q_Ink := rfl
  have r2 : lookQ QI .Filter = some q_Ink := rfl
  have r3 : lookQ QI .Opaque = some q_Ink := rfl
  have r4 : lookQ QI .Bleach = some q_Ink := rfl
  unfold deqO
  rcases inkC_cases hc with rfl | rfl | rfl | rfl <;> rcases inkC_cases hd with rfl | rfl | rfl | rfl <;> simp only [q1, q2, q3, q4, r1, r2, r3, r4]
theorem deq_inkOf' (Q : Qt) (q1 : lookQ Q .Ink = some q_Ink) (q2 : lookQ Q .Filter = some q_Ink) (q3 : lookQ Q .Opaque = some q_Ink) (q4 : lookQ Q .Bleach = some q_Ink) (k k2 z z2 : Str) (off on off2 on2 : Int) : deq Q 10 (inkOf k z off on) (inkOf k2 z2 off2 on2) = some (decide (off = off2) && (decide (on = on2) && decide (z = z2))) := (deq_ink' Q q1 q2 q3 q4 (inkCl_c k) (inkCl_c k2) _ _).trans (deq_inkOf k k2 z z2 off on off2 on2)
theorem deq_inkNo (k z : Str) (off on : Int) {b : PV} (h : othB .Ink b = true) (h2 : ∀ d ys, b ≠ .obj d ys) : deq QI 10 (inkOf k z off on) b = some false := by
  have hc := inkCl_c k
  unfold inkOf
  generalize inkCl k = c at *
  rcases inkC_cases hc with rfl | rfl | rfl | rfl <;> cases b <;> first | rfl | exact absurd rfl (h2 _ _) | cases h
end Px

namespace Px
open PySem PySem.Spec PyProof.Rows L2
/-! ## several inks -/
structure Inc where
  c : Cl
  off : Int
  on : Int
  z : Str
def Inc.pv (i : Inc) : PV := .obj i.c [lt i.off, lt i.on, .str i.z]
structure Inc.Ok (i : Inc) : Prop where
  c : inkC i.c = true
  off : R6 i.off
  on : R6 i.on
def mixF (z0 : Str) : Int → Int → List Inc → Except Str (Int × Int)
  | off, on, [] => .ok (off, on)
  | off, on, i :: r => if i.z = z0 then mixF z0 (Builtin.bitOr off i.off) (Builtin.bitOr on i.on) r else .error i.z
def zOf : List Inc → Str
  | [] => "any"
  | i :: _ => i.z
def Inc.fm (i : Inc) : Fm := fOf i.z i.off i.on
theorem Inc.Ok.fok {i : Inc} (h : i.Ok) : i.fm.ok := fOf_ok h.off h.on
theorem One.act_no {o : One} (m : o.mask = .non) (lit : List PV) : o.act lit = true := by unfold One.act; rw [m] <;> rfl
theorem pr1 {o1 : One} {c : Bool} (h1 : o1.Ok c) (m1 : o1.mask = .non) : four4 (printS [o1] []) = four4 (runF o1.fm) := four_eq fun s hs => by
  rw [← step_run h1 (One.act_no m1 []) hs]
  rfl
theorem pr2 {o1 o2 : One} {c d : Bool} (h1 : o1.Ok c) (h2 : o2.Ok d) (m1 : o1.mask = .non) (m2 : o2.mask = .non) : four4 (printS [o1, o2] []) = four4 (runF (addF o1.fm o2.fm)) := four_eq fun s hs => by
  rw [run_add hs h1.fok h2.fok o1.fwet o2.fwet, ← step_run h1 (One.act_no m1 []) hs, ← step_run h2 (One.act_no m2 []) (by rw [step_run h1 (One.act_no m1 []) hs]; exact run_rng h1.fok hs)]
  rfl
theorem or0 {a : Int} (h : R6 a) : Builtin.bitOr 0 a = a := of_decide_eq_true (all64 (p := fun a => decide (Builtin.bitOr 0 a = a)) (by decide +kernel) h.1 h.2)
theorem or_comm6 {a b : Int} (ha : R6 a) (hb : R6 b) : Builtin.bitOr a b = Builtin.bitOr b a := all2 (p := fun a b => Builtin.bitOr a b = Builtin.bitOr b a) (by decide +kernel) ha hb
theorem mix2 {i j : Inc} (hi : i.Ok) (hj : j.Ok) (e : i.z = "any") (e2 : j.z = "any") : mixF (zOf [i, j]) 0 0 [i, j] = .ok (Builtin.bitOr i.off j.off, Builtin.bitOr i.on j.on) := by
  show (if i.z = i.z then (if j.z = i.z then Except.ok (Builtin.bitOr (Builtin.bitOr 0 i.off) j.off, Builtin.bitOr (Builtin.bitOr 0 i.on) j.on) else _) else _) = _
  rw [if_pos rfl, if_pos (by rw [e, e2]), or0 hi.off, or0 hi.on]
theorem and_bits {a b : Int} (ha : R6 a) (hb : R6 b) (h : Builtin.bitAnd a b = 0) {i : Nat} (hi : i ∈ bs6) : (bt a i && bt b i) = false := by
  have e := congrArg (fun c => bt c i) h
  simpa only [bt_and ha hb hi, bt_zero hi] using e
/-- a pot of two inks and one ink over the other -/
theorem pot_over {a b c d : Int} (ha : R6 a) (hb : R6 b) (hc : R6 c) (hd : R6 d) (h1 : Builtin.bitAnd a b = 0) (h2 : Builtin.bitAnd c d = 0) :
    (fOf "any" (Builtin.bitOr a c) (Builtin.bitAnd (Builtin.bitOr b d) (63 - Builtin.bitOr a c)) = addF (fOf "any" a b) (fOf "any" c d)) ↔ Builtin.bitAnd a d = 0 := by
  have hac := rng_or ha hc
  have hbd := rng_or hb hd
  have e : fOf "any" (Builtin.bitOr a c) (Builtin.bitAnd (Builtin.bitOr b d) (63 - Builtin.bitOr a c)) = ⟨⟨Builtin.bitOr a c, Builtin.bitAnd (Builtin.bitOr b d) (63 - Builtin.bitOr a c), true⟩, ⟨Builtin.bitOr a c, Builtin.bitAnd (Builtin.bitOr b d) (63 - Builtin.bitOr a c), true⟩⟩ := rfl
  have e2 : addF (fOf "any" a b) (fOf "any" c d) = ⟨⟨Builtin.bitOr (Builtin.bitAnd a (63 - d)) c, Builtin.bitOr (Builtin.bitAnd b (63 - c)) d, true⟩, ⟨Builtin.bitOr (Builtin.bitAnd a (63 - d)) c, Builtin.bitOr (Builtin.bitAnd b (63 - c)) d, true⟩⟩ := rfl
  rw [e, e2]
  constructor
  · intro h
    have h : Builtin.bitOr a c = Builtin.bitOr (Builtin.bitAnd a (63 - d)) c := congrArg (fun f : Fm => f.b.off) h
    refine ext6 (rng_and ha hd) (by decide) fun i hi => ?_
    have h := congrArg (fun c => bt c i) h
    simp only [bt_or ha hc hi, bt_or (rng_sub ha hd) hc hi, bt_and ha (rng_inv hd) hi, bt_inv hd hi] at h
    have g2 := and_bits hc hd h2 hi
    rw [bt_and ha hd hi, bt_zero hi]
    generalize bt a i = x at *
    generalize bt c i = y at *
    generalize bt d i = z at *
    revert h g2
    cases x <;> cases y <;> cases z <;> decide
  · intro h
    have k1 : Builtin.bitOr a c = Builtin.bitOr (Builtin.bitAnd a (63 - d)) c := ext6 hac (rng_or (rng_sub ha hd) hc) fun i hi => by
      have g := and_bits ha hd h hi
      rw [bt_or ha hc hi, bt_or (rng_sub ha hd) hc hi, bt_and ha (rng_inv hd) hi, bt_inv hd hi]
      generalize bt a i = x at *
      generalize bt c i = y at *
      generalize bt d i = z at *
      revert g
      cases x <;> cases y <;> cases z <;> decide
    have k2 : Builtin.bitAnd (Builtin.bitOr b d) (63 - Builtin.bitOr a c) = Builtin.bitOr (Builtin.bitAnd b (63 - c)) d := ext6 (rng_sub hbd hac) (rng_or (rng_sub hb hc) hd) fun i hi => by
      have g := and_bits ha hd h hi
      have g1 := and_bits ha hb h1 hi
      have g2 := and_bits hc hd h2 hi
      rw [bt_and hbd (rng_inv hac) hi, bt_or hb hd hi, bt_inv hac hi, bt_or ha hc hi, bt_or (rng_sub hb hc) hd hi, bt_and hb (rng_inv hc) hi, bt_inv hc hi]
      generalize bt a i = x at *
      generalize bt b i = w at *
      generalize bt c i = y at *
      generalize bt d i = z at *
      revert g g1 g2
      cases x <;> cases y <;> cases z <;> cases w <;> decide
    rw [k1] at k2 ⊢
    rw [k2]
theorem fl1' (o1 : One) (h : o1.mask = .non) : ∀ o ∈ [o1], flatP o.mask = true := fun o ho => by
  rw [List.mem_singleton] at ho; subst ho; rw [h]; rfl
theorem fl2' (o1 o2 : One) (h : o1.mask = .non) (h2 : o2.mask = .non) : ∀ o ∈ [o1, o2], flatP o.mask = true := fun o ho => by
  simp only [List.mem_cons, List.not_mem_nil, or_false] at ho
  rcases ho with rfl | rfl
  · rw [h]; rfl
  · rw [h2]; rfl
end Px

namespace Px
open PySem PySem.Spec PyProof.Rows L2
theorem flat_ints (xs : List Int) : (xs.map PV.int).all flatP = true := by
  rw [List.all_eq_true]
  intro x hx
  obtain ⟨i, _, rfl⟩ := List.mem_map.mp hx
  rfl
def inB (band a : Int) : Bool := inP (.int band) ((bandsI a).map .int)
def doesS (a b band : Int) : Str := if inB band a then "off" else if inB band b then "on" else "leave"
theorem sq_cell {μ : Mu} {a : Addr} {xs : List PV} (e : μ a = some (.lst xs)) : seqOf μ (.cell a) = some (false, xs) := by
  show (match μ a with | some (.lst xs) => some (false, xs) | _ => none) = _
  rw [e]
theorem isLC_cell {μ : Mu} {a : Addr} {xs : List PV} (e : μ a = some (.lst xs)) : isLC μ (.cell a) = true := by
  show (match μ a with | some (.lst _) => true | _ => false) = _
  rw [e]
theorem app_cell {μ : Mu} {a : Addr} {xs : List PV} {p : PV} {q : QV} (hl : xs.length < sizeLine) (h : q .non (μ.put a (.lst (xs ++ [p])))) : appP (.cell a) p (μ.put a (.lst xs)) q := by
  show (match μ.put a (.lst xs) a with | some (.lst xs') => xs'.length < sizeLine ∧ q .non ((μ.put a (.lst xs)).put a (.lst (xs' ++ [p]))) | _ => False)
  rw [Mu.put_same]
  refine ⟨hl, ?_⟩
  rw [Mu.put_put]
  exact h
theorem one_pv (mask : PV) (side : Bool) (when_ : Str) (off on : Int) (kind : Str) : one mask side when_ off on kind = One.pv ⟨mask, side, when_, off, on, kind⟩ := rfl
theorem map_one (os : List One) (o : One) : os.map One.pv ++ [o.pv] = (os ++ [o]).map One.pv := by rw [List.map_append] <;> rfl
/-- a drawn one -/
structure One.Dr (o : One) (ns : List PV) (cond sided : Bool) : Prop where
  m : MaskOk ns sided o.mask o.side
  w : WhenOk cond o.when_
  k : KindOk o.off o.on o.kind
theorem One.Dr.ok {o : One} {ns : List PV} {c s : Bool} (h : o.Dr ns c s) : o.Ok c := ⟨h.w, h.k⟩
def sumA (os : List One) (f : Fm) : Fm := os.foldl (fun f o => addF f o.fm) f
theorem sumA_ok {c : Bool} : ∀ (os : List One) (f : Fm), (∀ o ∈ os, o.Ok c) → f.Gd → (sumA os f).Gd
  | [], f, _, h => h
  | o :: os, f, ho, h => sumA_ok os _ (fun p hp => ho p (List.mem_cons_of_mem _ hp)) (h.add (ho o List.mem_cons_self).gd)
theorem sumA_non : ∀ (os : List One) (f : Fm) (lit : List PV), (∀ o ∈ os, o.mask = .non) → sumA os f = os.foldl (fun f o => if o.act lit then addF f o.fm else f) f
  | [], f, lit, _ => rfl
  | o :: os, f, lit, h => by
    have e : (if o.act lit = true then addF f o.fm else f) = addF f o.fm := by rw [One.act_no (h o List.mem_cons_self) lit, if_pos rfl]
    show sumA os (addF f o.fm) = List.foldl _ (if o.act lit = true then addF f o.fm else f) os
    rw [e]
    exact sumA_non os _ lit fun p hp => h p (List.mem_cons_of_mem _ hp)
theorem sumA_run {c : Bool} {os : List One} (ho : ∀ o ∈ os, o.Ok c) (hm : ∀ o ∈ os, o.mask = .non) {s : Int × Bool} (hs : R6 s.1) : runF (sumA os fNo0) s = printS os [] s := by
  rw [sumA_non os fNo0 [] hm]
  exact sum_run ho hs
/-- the effects, read off the four states -/
theorem eff_read {e : Eff} (h : e.ok) (d : Builtin.bitAnd e.off e.on = 0) : Builtin.bitAnd 63 (63 - putC 63 e.off e.on) = e.off ∧ putC 0 e.off e.on = e.on := by
  obtain ⟨a, b, m⟩ := e
  have ha : R6 a := h.1
  have hb : R6 b := h.2
  have hf : R6 63 := by decide
  have h0 : R6 0 := by decide
  have d : Builtin.bitAnd a b = 0 := d
  refine ⟨ext6 (rng_sub hf (rng_put hf ha hb)) ha fun i hi => ?_, ext6 (rng_put h0 ha hb) hb fun i hi => ?_⟩
  · have g := and_bits ha hb d hi
    rw [bt_and hf (rng_inv (rng_put hf ha hb)) hi, bt_inv (rng_put hf ha hb) hi, bt_put hf ha hb hi, bt_full hi]
    show (true && !(true && !bt a i || bt b i)) = bt a i
    generalize bt a i = x at *
    generalize bt b i = y at *
    revert g
    cases x <;> cases y <;> decide
  · rw [bt_put h0 ha hb hi, bt_zero hi]
    simp
theorem mem_cut {x : PV} {xs : List PV} {lo hi : Option Int} (h : x ∈ cutP xs lo hi) : x ∈ xs := List.mem_of_mem_drop (List.mem_of_mem_take h)
theorem len_cut (xs : List PV) (lo hi : Option Int) : (cutP xs lo hi).length ≤ xs.length := by
  unfold cutP
  rw [List.length_take, List.length_drop]
  omega
theorem ofD {ns : List PV} {c s : Bool} : ∀ ys : List PV, (∀ x ∈ ys, ∃ o : One, o.Dr ns c s ∧ x = o.pv) → ∃ os : List One, ys = os.map One.pv ∧ ∀ o ∈ os, o.Dr ns c s
  | [], _ => ⟨[], rfl, fun _ h => by cases h⟩
  | y :: ys, h => by
    obtain ⟨o, ho, rfl⟩ := h y List.mem_cons_self
    obtain ⟨os, rfl, hs⟩ := ofD ys fun x hx => h x (List.mem_cons_of_mem _ hx)
    exact ⟨o :: os, rfl, fun p hp => (List.mem_cons.mp hp).elim (fun e => e ▸ ho) (hs p)⟩
/-- two films told apart by the four states -/
theorem four_film {f g : Fm} (hf : f.Gd) (hg : g.Gd) : (f = g) ↔ (runF f (0, false) = runF g (0, false) ∧ runF f (63, false) = runF g (63, false) ∧ runF f (0, true) = runF g (0, true) ∧ runF f (63, true) = runF g (63, true)) := by
  constructor
  · rintro rfl
    exact ⟨rfl, rfl, rfl, rfl⟩
  · rintro ⟨h1, h2, h3, h4⟩
    refine film_eq hf.ok hg.ok hf.dj hg.dj fun s hs => ?_
    simp only [four, List.mem_cons, List.not_mem_nil, or_false] at hs
    rcases hs with rfl | rfl | rfl | rfl <;> assumption
theorem deq_four (Q : Qt) {f g : Fm} (hf : f.Gd) (hg : g.Gd) : deq Q 10 (.lst (four4 (runF f))) (.lst (four4 (runF g))) = some (decide (f = g)) := by
  rw [show decide (f = g) = decide (runF f (0, false) = runF g (0, false) ∧ runF f (63, false) = runF g (63, false) ∧ runF f (0, true) = runF g (0, true) ∧ runF f (63, true) = runF g (63, true)) from decide_eq_decide.mpr (four_film hf hg)]
  have st : ∀ a b : Int × Bool, (a = b) = (a.1 = b.1 ∧ a.2 = b.2) := fun a b => propext Prod.ext_iff
  have h : deq Q 10 (.lst (four4 (runF f))) (.lst (four4 (runF g))) = andO (andO (some (decide ((runF f (0, false)).1 = (runF g (0, false)).1))) (andO (some (decide ((runF f (0, false)).2 = (runF g (0, false)).2))) (some true))) (andO (andO (some (decide ((runF f (63, false)).1 = (runF g (63, false)).1))) (andO (some (decide ((runF f (63, false)).2 = (runF g (63, false)).2))) (some true))) (andO (andO (some (decide ((runF f (0, true)).1 = (runF g (0, true)).1))) (andO (some (decide ((runF f (0, true)).2 = (runF g (0, true)).2))) (some true))) (andO (andO (some (decide ((runF f (63, true)).1 = (runF g (63, true)).1))) (andO (some (decide ((runF f (63, true)).2 = (runF g (63, true)).2))) (some true))) (some true)))) := rfl
  have aO : ∀ a b : Bool, andO (some a) (some b) = some (a && b) := fun a b => by cases a <;> rfl
  rw [h]
  simp only [aO, st, Bool.decide_and, Bool.and_true, Bool.and_assoc]
theorem deq_t3 (Q : Qt) (a b a' b' : Int) (m m' : Bool) : deq Q 10 (.tup [.int a, .int b, .bl m]) (.tup [.int a', .int b', .bl m']) = some (decide (a = a') && (decide (b = b') && decide (m = m'))) := by
  have h : deq Q 10 (.tup [.int a, .int b, .bl m]) (.tup [.int a', .int b', .bl m']) = andO (some (decide (a = a'))) (andO (some (decide (b = b'))) (andO (some (decide (m = m'))) (some true))) := rfl
  have aO : ∀ a b : Bool, andO (some a) (some b) = some (a && b) := fun a b => by cases a <;> rfl
  rw [h]
  simp only [aO, Bool.and_true]
theorem eqM {a : Option Bool} {f : Bool → Prop} {k : Bool} (e : a = some k) (h : f k) : (match (generalizing := false) a with | some r => f r | none => False) := by
  rw [e]
  exact h
theorem draw_big {A : Prop} (h : A) : Drw (10 ^ 20) A := ⟨by decide, Nat.lt_of_lt_of_le (by decide : ((10 : Int) ^ 20).natAbs < 2 ^ 67) (Nat.pow_le_pow_right (by decide) (by decide)), h⟩
end Px

namespace Px
open PySem PySem.Spec PyProof.Rows L2
def tailT (z : Str) : Str := if z = "any" then "" else " " ++ z
def toldI (off on : Int) (z : Str) : Str := "ink " ++ wordT off ++ " " ++ wordT on ++ tailT z
def okW (n : Int) : Bool := decide ((wordT n).length ≤ 100)
theorem okW_all {n : Int} (h : R6 n) : (wordT n).length ≤ 100 := of_decide_eq_true (all64 (p := okW) (by decide +kernel) h.1 h.2)
theorem takes_cases {z : Str} (h : takesB z = true) : z = "any" ∨ z = "bare" ∨ z = "inked" := by
  unfold takesB at h
  simpa using h
theorem tail_len {z : Str} (h : takesB z = true) : (tailT z).length ≤ 10 := by
  rcases takes_cases h with rfl | rfl | rfl <;> decide
/-- the written form, by kind -/
def toldK (kind : Str) (off on : Int) (z : Str) : Str := if kind = "ink" then toldI off on z else if kind = "filter" then "filter " ++ wordT off ++ tailT z else kind ++ " " ++ wordT on ++ tailT z
def kindB (k : Str) : Bool := decide (k = "ink") || (decide (k = "filter") || (decide (k = "opaque") || decide (k = "bleach")))
theorem kind_cases {k : Str} (h : kindB k = true) : k = "ink" ∨ k = "filter" ∨ k = "opaque" ∨ k = "bleach" := by
  unfold kindB at h
  simpa using h
/-- what an ink of a kind, made of two lights, does -/
def effO (kind : Str) (a b : Int) : Int × Int := if kind = "filter" then (a, 0) else if kind = "opaque" then (63 - a, a) else if kind = "bleach" then (0, a) else (a, b)
theorem effO_r {kind : Str} {a b : Int} (ha : R6 a) (hb : R6 b) : R6 (effO kind a b).1 ∧ R6 (effO kind a b).2 := by
  unfold effO
  split
  · exact ⟨ha, show R6 0 by decide⟩
  · split
    · exact ⟨rng_inv ha, ha⟩
    · split
      · exact ⟨show R6 0 by decide, ha⟩
      · exact ⟨ha, hb⟩
theorem sz1000 {n : Nat} (h : n ≤ 1000) : n ≤ sizeLine := by rw [sizeLine_eq]; omega
end Px

namespace Px
open PySem PySem.Spec PyProof.Rows L2
/-! ## names of masks -/
def ABC : Str := "abcdefghijklmnopqrstuvwxyz"
def letB (c : Nat) : Bool := decide (c ∈ ABC.cps.toList)
def nameB (z : Str) : Bool := decide (1 ≤ z.length) && (decide (z.length ≤ 6) && z.cps.toList.all letB)
theorem name_len {z : Str} (h : nameB z = true) : 1 ≤ z.length ∧ z.length ≤ 6 := by
  unfold nameB at h
  simp only [Bool.and_eq_true, decide_eq_true_eq] at h
  exact ⟨h.1, h.2.1⟩
def sg (c : Nat) : Str := ⟨#[c]⟩
theorem join_sg : ∀ cs : List Nat, Txt.join ("" : Str) (cs.map sg) = ⟨cs.toArray⟩ := fun cs => by
  rw [TL.join_eq]
  induction cs with
  | nil => rfl
  | cons c cs ih =>
    cases cs with
    | nil => rfl
    | cons d ds =>
      show sg c ++ ("" : Str) ++ Str.join "" ((d :: ds).map sg) = _
      rw [ih]
      have e : ∀ a b : Str, (⟨a.cps ++ b.cps⟩ : Str) = a ++ b := fun _ _ => rfl
      rw [← e, ← e]
      show (⟨(#[c] ++ ("" : Str).cps) ++ (d :: ds).toArray⟩ : Str) = _
      have e2 : (("" : Str).cps) = #[] := rfl
      rw [e2]
      simp
theorem flat_strs' (xs : List Str) : (xs.map PV.str).all flatP = true := by
  rw [List.all_eq_true]
  intro x hx
  obtain ⟨i, _, rfl⟩ := List.mem_map.mp hx
  rfl
theorem inP_str (z : Str) (ns : List Str) : inP (.str z) (ns.map .str) = decide (z ∈ ns) := by
  unfold inP
  induction ns with
  | nil => rfl
  | cons n ns ih =>
    rw [List.map_cons, List.any_cons, ih]
    have : eqF (.str n) (.str z) = (n == z) := rfl
    rw [this]
    by_cases e : n = z
    · subst e; simp
    · have e2 : ¬ z = n := fun y => e y.symm
      simp [e, e2]
/-! ## passes -/
def passP (mask ink : PV) (around : Bool) : PV := .obj .Pass [mask, ink, .bl around]
def One.pass (o : One) : PV := passP o.mask (inkOf o.kind o.when_ o.off o.on) o.side
/-- a mask as a pass may have it -/
def MaskP (mask : PV) (side : Bool) : Prop := (mask = .non ∧ side = false) ∨ ∃ z, mask = .str z ∧ nameB z = true
def lineT (mask : PV) (side : Bool) (told : Str) : Str := match mask with
  | .str m => (if side then "around " else "on ") ++ m ++ " " ++ told
  | _ => "all " ++ told
theorem toldK_len {k z : Str} {a b : Int} (ha : R6 a) (hb : R6 b) (hz : takesB z = true) (hk : kindB k = true) : (toldK k a b z).length ≤ 300 := by
  have w1 := okW_all ha
  have w2 := okW_all hb
  have w3 := tail_len hz
  have l1 : (Str.ofString "ink ").length = 4 := rfl
  have l2 : (Str.ofString " ").length = 1 := rfl
  have l6 : (Str.ofString "filter ").length = 7 := rfl
  have l7 : (Str.ofString "opaque").length = 6 := rfl
  have l8 : (Str.ofString "bleach").length = 6 := rfl
  have l9 : (Str.ofString "ink").length = 3 := rfl
  unfold toldK
  split
  · unfold toldI
    simp only [Str.length_append, l1, l2]
    omega
  · split
    · simp only [Str.length_append, l6]
      omega
    · rcases kind_cases hk with rfl | rfl | rfl | rfl <;> first | contradiction | (simp only [Str.length_append, l2, l7, l8]; omega)
/-! ## == of passes -/
theorem sameQI : ∀ c f, (c, f) ∈ QI → SameO c f := fun c f h => by
  have : (c, f) = (.Ink, q_Ink) ∨ (c, f) = (.Filter, q_Ink) ∨ (c, f) = (.Opaque, q_Ink) ∨ (c, f) = (.Bleach, q_Ink) := by simpa [QI] using h
  rcases this with e | e | e | e <;> cases e
  · exact same_Ink
  · exact same_Filter
  · exact same_Opaque
  · exact same_Bleach
def q_Pass : Qf := fun xs b => match xs with
  | [a1, a2, a3] => (match b with
    | .obj .Pass [b1, b2, b3] => andO (deq QI 10 a1 b1) (andO (deq QI 10 a3 b3) (deq QI 10 a2 b2))
    | b => othQ .Pass b)
  | _ => none
theorem q_Pass_inv {xs : List PV} {b : PV} {k : Bool} (h : q_Pass xs b = some k) : (∃ a1 a2 a3 b1 b2 b3, xs = [a1, a2, a3] ∧ b = .obj .Pass [b1, b2, b3] ∧ andO (deq QI 10 a1 b1) (andO (deq QI 10 a3 b3) (deq QI 10 a2 b2)) = some k) ∨ ∃ a1 a2 a3, xs = [a1, a2, a3] ∧ othB .Pass b = true ∧ k = false := by
  unfold q_Pass at h
  split at h
  · split at h
    · exact .inl ⟨_, _, _, _, _, _, rfl, rfl, h⟩
    · exact .inr ⟨_, _, _, rfl, othQ_inv h⟩
  · cases h
theorem same_Pass : SameO .Pass q_Pass := fun X pins s σ H B μ G xs ys vs k ka J o rx ry h => by
  rcases q_Pass_inv h with ⟨a1, a2, a3, b1, b2, b3, rfl, e, h⟩ | ⟨a1, a2, a3, rfl, hb, rfl⟩
  · cases e
    obtain ⟨v, ws, rfl, r1, rx⟩ := rx.cons_inv
    obtain ⟨v2, ws2, e, q1, ry⟩ := ry.cons_inv
    cases e
    obtain ⟨v, ws, rfl, r2, rx⟩ := rx.cons_inv
    obtain ⟨v2, ws2, e, q2, ry⟩ := ry.cons_inv
    cases e
    obtain ⟨v, ws, rfl, r3, _⟩ := rx.cons_inv
    obtain ⟨v2, ws2, e, q3, _⟩ := ry.cons_inv
    cases e
    rcases andO_inv h with ⟨h1, _⟩ | ⟨_, h2⟩
    · exact absurd (same_deq sameQI 10 X pins s σ H B μ G _ _ _ false ka J o r1 q1 h1) (by decide)
    · exact same_and (same_deq sameQI 10) (same_deq sameQI 10) ka J o r3 q3 r2 q2 h2
  · cases hb
theorem eqi_Pass : ∀ as μ q x, cEq .Pass q_Pass as μ q x → cEq .Pass q_Pass as μ q x := fun _ _ _ _ h => h
/-- what of a one a pass's == looks at -/
def One.key (o : One) : PV × Bool × Int × Int × Str := (o.mask, o.side, o.off, o.on, o.when_)
theorem eqS_mask {m m2 : PV} {s s2 : Bool} (h : MaskP m s) (h2 : MaskP m2 s2) : ∃ k, eqS m m2 = some k ∧ (k = true ↔ m = m2) := by
  rcases h with ⟨rfl, _⟩ | ⟨z, rfl, _⟩ <;> rcases h2 with ⟨rfl, _⟩ | ⟨z2, rfl, _⟩
  · exact ⟨true, rfl, by simp⟩
  · exact ⟨false, rfl, by simp⟩
  · exact ⟨false, rfl, by simp⟩
  · exact ⟨decide (z = z2), rfl, by simp⟩
theorem cutS_len (z : Str) (lo hi : Option Int) : (cutS z lo hi).length ≤ z.length := by
  show ((((z.cps.toList.drop _).take _).toArray).size) ≤ z.cps.size
  rw [List.size_toArray, List.length_take, List.length_drop, Array.length_toList]
  omega
theorem tl_app (a b : Str) : (a ++ b).cps.toList = a.cps.toList ++ b.cps.toList := Array.toList_append ..
theorem name_no {a b c : Str} (h : b.cps.toList.all letB = false) : nameB (a ++ b ++ c) = false := by
  unfold nameB
  rw [tl_app, tl_app, List.all_append, List.all_append, h]
  simp
theorem name_long {z : Str} (h : 6 < z.length) : nameB z = false := by
  unfold nameB
  rw [decide_eq_false (show ¬ z.length ≤ 6 by omega)]
  simp
theorem sub_len {α : Type} [DecidableEq α] : ∀ (l D : List α), l.Nodup → (∀ x ∈ l, x ∈ D) → l.length ≤ D.length
  | [], D, _, _ => Nat.zero_le _
  | x :: l, D, nd, h => by
    obtain ⟨n1, n2⟩ := List.nodup_cons.mp nd
    have hx := h x List.mem_cons_self
    have ih := sub_len l (D.erase x) n2 fun y hy => (List.mem_erase_of_ne (show y ≠ x from fun e => n1 (by rw [← e]; exact hy))).mpr (h y (List.mem_cons_of_mem _ hy))
    rw [List.length_erase_of_mem hx] at ih
    have : 0 < D.length := List.length_pos_of_mem hx
    rw [List.length_cons]
    omega
def words9 : List Str := ["qa", "b", "zeb", "mo", "aq", "xylox", "ba", "k", "mm"]
theorem words_name : words9.all nameB = true := by decide +kernel
theorem words_nodup : words9.Nodup := by decide +kernel
/-- a word that is no name yet -/
theorem words_left {ns : List Str} (h : ns.length ≤ 8) : ∃ w ws, words9.filter (fun w => !decide (w ∈ ns)) = w :: ws ∧ nameB w = true ∧ w ∉ ns := by
  cases e : words9.filter (fun w => !decide (w ∈ ns)) with
  | nil =>
    have := sub_len words9 ns words_nodup fun x hx => by
      have := List.filter_eq_nil_iff.mp e x hx
      simpa using this
    have l9 : words9.length = 9 := rfl
    omega
  | cons w ws =>
    have hw : w ∈ words9.filter (fun w => !decide (w ∈ ns)) := by rw [e]; exact List.mem_cons_self
    obtain ⟨h1, h2⟩ := List.mem_filter.mp hw
    exact ⟨w, ws, rfl, List.all_eq_true.mp words_name w h1, by simpa using h2⟩
/-! ## the film of a pass at a spot -/
def passF (mask : PV) (side : Bool) (z : Str) (a b : Int) (lit : List PV) : Fm := if activeB mask side lit then fOf z a b else fNo0
theorem passF_one (o : One) (lit : List PV) : passF o.mask o.side o.when_ o.off o.on lit = if o.act lit then o.fm else fNo0 := rfl
theorem passF_run {o : One} {c : Bool} (h : o.Ok c) (lit : List PV) : four4 (printS [o] lit) = four4 (runF (passF o.mask o.side o.when_ o.off o.on lit)) := four_eq fun s hs => by
  rw [passF_one]
  cases e : o.act lit with
  | true =>
    rw [if_pos rfl, ← step_run h e hs]
    rfl
  | false =>
    rw [if_neg (by decide), run_no hs]
    exact step_skip e s
theorem passF_r {o : One} {c : Bool} (h : o.Ok c) (lit : List PV) : (passF o.mask o.side o.when_ o.off o.on lit).Gd := by
  rw [passF_one]
  split
  · exact h.gd
  · exact gd_no
theorem no_pv : nothingF = fNo0.pv := rfl
/-- a strange name, and names twice, mean nothing -/
theorem active_more {mask : PV} {side : Bool} (h : MaskP mask side) (ls : List Str) : activeB mask side (ls.map .str ++ ls.map .str ++ [.str "Other"]) = activeB mask side (ls.map .str) := by
  rcases h with ⟨rfl, _⟩ | ⟨m, rfl, hm⟩
  · rfl
  · have e : ls.map PV.str ++ ls.map PV.str ++ [PV.str "Other"] = (ls ++ ls ++ [("Other" : Str)]).map PV.str := by simp
    rw [e]
    show (!decide (inP (.str m) _ = side)) = (!decide (inP (.str m) _ = side))
    rw [inP_str, inP_str]
    have hne : m ≠ "Other" := fun z => by rw [z] at hm; exact absurd hm (by decide +kernel)
    have : decide (m ∈ ls ++ ls ++ [("Other" : Str)]) = decide (m ∈ ls) := decide_eq_decide.mpr (by simp [hne])
    rw [this]
theorem deq_strs (Q : Qt) : ∀ (t : Nat) (xs ys : List Str), peqs (deq Q t) (xs.map .str) (ys.map .str) = some (decide (xs = ys))
  | t, [], [] => rfl
  | t, [], y :: ys => rfl
  | t, x :: xs, [] => rfl
  | t, x :: xs, y :: ys => by
    have ih := deq_strs Q t xs ys
    have e : deq Q t (.str x) (.str y) = some (decide (x = y)) := by cases t <;> rfl
    show andO (deq Q t (.str x) (.str y)) (peqs (deq Q t) (xs.map .str) (ys.map .str)) = _
    rw [ih, e]
    by_cases h1 : x = y <;> by_cases h2 : xs = ys <;> simp [h1, h2, andO]
theorem deq_lstr (Q : Qt) (xs ys : List Str) : deq Q 10 (.lst (xs.map .str)) (.lst (ys.map .str)) = some (decide (xs = ys)) := by
  show (match Nat.beq (xs.map PV.str).length (ys.map PV.str).length with
    | true => peqs (deq Q 9) (xs.map .str) (ys.map .str)
    | false => some false) = _
  rw [List.length_map, List.length_map]
  split
  · exact deq_strs Q 9 xs ys
  · rename_i e
    rw [decide_eq_false]
    intro z
    rw [z] at e
    rw [Nat.beq_refl] at e
    cases e
theorem deq_tstr (Q : Qt) (xs ys : List Str) : deq Q 10 (.tup (xs.map .str)) (.tup (ys.map .str)) = some (decide (xs = ys)) := deq_strs Q 9 xs ys
theorem KindOk.kb {off on : Int} {kind : Str} (h : KindOk off on kind) : kindB kind = true := by
  obtain ⟨_, _, ⟨rfl, _⟩ | ⟨rfl, _⟩ | ⟨rfl, _⟩ | ⟨rfl, _⟩⟩ := h <;> rfl
theorem MaskOk.p {ns : List Str} {sided : Bool} {mask : PV} {side : Bool} (hn : ∀ z ∈ ns, nameB z = true) (h : MaskOk (ns.map .str) sided mask side) : MaskP mask side := by
  rcases h with ⟨h1, h2⟩ | ⟨h1, _⟩
  · exact .inl ⟨h1, h2⟩
  · obtain ⟨z, hz, rfl⟩ := List.mem_map.mp h1
    exact .inr ⟨z, rfl, hn z hz⟩
/-- a one whose pass can be made -/
structure One.Pk (o : One) : Prop where
  m : MaskP o.mask o.side
  w : takesB o.when_ = true
  k : KindOk o.off o.on o.kind
theorem eqS_deq {m m2 : PV} {s s2 : Bool} (h : MaskP m s) (h2 : MaskP m2 s2) (Q : Qt) (t : Nat) : deq Q t m m2 = eqS m m2 := by
  rcases h with ⟨rfl, _⟩ | ⟨z, rfl, _⟩ <;> rcases h2 with ⟨rfl, _⟩ | ⟨z2, rfl, _⟩ <;> cases t <;> rfl
theorem andO_some (a b : Bool) : andO (some a) (some b) = some (a && b) := by cases a <;> rfl
/-- the first five of two ones, compared; their passes, compared -/
theorem five_eq (Q : Qt) {o o2 : One} (h : o.Pk) (h2 : o2.Pk) : ∃ k, deq Q 10 (.tup [o.mask, .bl o.side, .str o.when_, .int o.off, .int o.on]) (.tup [o2.mask, .bl o2.side, .str o2.when_, .int o2.off, .int o2.on]) = some k ∧ q_Pass [o.mask, inkOf o.kind o.when_ o.off o.on, .bl o.side] o2.pass = some k ∧ q_Pass [o2.mask, inkOf o2.kind o2.when_ o2.off o2.on, .bl o2.side] o.pass = some k := by
  obtain ⟨k1, e1, c1⟩ := eqS_mask h.m h2.m
  obtain ⟨k2, e2, c2⟩ := eqS_mask h2.m h.m
  have ek : k2 = k1 := by
    rw [Bool.eq_iff_iff, c1, c2]
    exact eq_comm
  subst ek
  refine ⟨k2 && (decide (o.side = o2.side) && (decide (o.when_ = o2.when_) && (decide (o.off = o2.off) && decide (o.on = o2.on)))), ?_, ?_, ?_⟩
  · show andO (deq Q 9 o.mask o2.mask) (andO (some (decide (o.side = o2.side))) (andO (some (decide (o.when_ = o2.when_))) (andO (some (decide (o.off = o2.off))) (andO (some (decide (o.on = o2.on))) (some true))))) = _
    rw [eqS_deq h.m h2.m, e1]
    simp only [andO_some, Bool.and_true]
  · show andO (deq QI 10 o.mask o2.mask) (andO (some (decide (o.side = o2.side))) (deq QI 10 (inkOf o.kind o.when_ o.off o.on) (inkOf o2.kind o2.when_ o2.off o2.on))) = _
    rw [eqS_deq h.m h2.m, e1, deq_inkOf]
    simp only [andO_some]
    congr 1
    generalize decide (o.side = o2.side) = a1
    generalize decide (o.when_ = o2.when_) = a2
    generalize decide (o.off = o2.off) = a3
    generalize decide (o.on = o2.on) = a4
    cases k2 <;> cases a1 <;> cases a2 <;> cases a3 <;> cases a4 <;> rfl
  · show andO (deq QI 10 o2.mask o.mask) (andO (some (decide (o2.side = o.side))) (deq QI 10 (inkOf o2.kind o2.when_ o2.off o2.on) (inkOf o.kind o.when_ o.off o.on))) = _
    rw [eqS_deq h2.m h.m, e2, deq_inkOf]
    simp only [andO_some]
    rw [show decide (o2.side = o.side) = decide (o.side = o2.side) from decide_eq_decide.mpr eq_comm, show decide (o2.when_ = o.when_) = decide (o.when_ = o2.when_) from decide_eq_decide.mpr eq_comm, show decide (o2.off = o.off) = decide (o.off = o2.off) from decide_eq_decide.mpr eq_comm, show decide (o2.on = o.on) = decide (o.on = o2.on) from decide_eq_decide.mpr eq_comm]
    congr 1
    generalize decide (o.side = o2.side) = a1
    generalize decide (o.when_ = o2.when_) = a2
    generalize decide (o.off = o2.off) = a3
    generalize decide (o.on = o2.on) = a4
    cases k2 <;> cases a1 <;> cases a2 <;> cases a3 <;> cases a4 <;> rfl
end Px

namespace Px
open PySem PySem.Spec PyProof.Rows L2
/-! ## rows -/
def maskS : PV → Option Str
  | .obj .Pass [.str z, _, _] => some z
  | _ => none
/-- a pass as a row may hold it -/
def passB : PV → Bool
  | .obj .Pass [.str _, _, _] => true
  | .obj .Pass [.non, _, _] => true
  | _ => false
theorem passB_inv {p : PV} (h : passB p = true) : ∃ m a b, p = .obj .Pass [m, a, b] ∧ (m = .non ∨ ∃ z, m = .str z) := by
  unfold passB at h
  split at h
  · exact ⟨_, _, _, rfl, .inr ⟨_, rfl⟩⟩
  · exact ⟨_, _, _, rfl, .inl rfl⟩
  · cases h
def masksP (xs : List PV) : List Str := sortU (xs.filterMap maskS)
def rowP (xs : List PV) : PV := .obj .Row [.tup xs, .tup ((masksP xs).map .str)]
def One.mk? (o : One) : Option Str := match o.mask with
  | .str z => some z
  | _ => none
def masksO (os : List One) : List Str := sortU (os.filterMap One.mk?)
theorem maskS_pass (o : One) : maskS o.pass = o.mk? := by
  obtain ⟨mask, side, w, a, b, k⟩ := o
  cases mask <;> rfl
theorem masks_ones (os : List One) : masksP (os.map One.pass) = masksO os := by
  unfold masksP masksO
  rw [List.filterMap_map, show (maskS ∘ One.pass) = One.mk? from funext maskS_pass]
theorem One.Pk.passB {o : One} (h : o.Pk) : passB o.pass = true := by
  obtain ⟨mask, side, w, a, b, k⟩ := o
  rcases h.m with ⟨e, _⟩ | ⟨z, e, _⟩
  · have e : mask = .non := e
    subst e; rfl
  · have e : mask = .str z := e
    subst e; rfl
theorem passB_all {os : List One} (h : ∀ o ∈ os, o.Pk) : (os.map One.pass).all passB = true := by
  rw [List.all_eq_true]
  intro x hx
  obtain ⟨o, ho, rfl⟩ := List.mem_map.mp hx
  exact (h o ho).passB
theorem masksO_len (os : List One) : (masksO os).length ≤ os.length := Nat.le_trans (sortU_len _) (List.length_filterMap_le _ _)
theorem masksP_len (xs : List PV) : (masksP xs).length ≤ xs.length := Nat.le_trans (sortU_len _) (List.length_filterMap_le _ _)
/-! ## a sorted list, repeats dropped -/
def fresh (l : List Str) (j : Nat) : Bool := decide (j = 0) || !decide (l[j - 1]? = l[j]?)
def dropR (l : List Str) : List Str := ((List.range l.length).filter (fresh l)).map fun j => (l[j]?).getD Str.empty
theorem ri_get {l : List Str} (h : riT l) {i j : Nat} (hij : i < j) (hj : j < l.length) : ltT l[j] (l[i]'(by omega)) = false := by
  exact List.pairwise_iff_getElem.mp h i j (by omega) hj hij
theorem ri_le {l : List Str} (h : riT l) {i j : Nat} (hij : i ≤ j) (hj : j < l.length) : ltT l[j] (l[i]'(by omega)) = false := by
  rcases Nat.lt_or_ge i j with z | z
  · exact ri_get h z hj
  · have : i = j := by omega
    subst this
    exact ltT_irr _
theorem dropR_up {l : List Str} (h : riT l) : upT (dropR l) := by
  unfold upT dropR
  rw [List.pairwise_map]
  have hp : (List.range l.length).Pairwise fun i j => i < j ∧ j < l.length := by
    refine List.Pairwise.imp_of_mem (fun {a b} _ hb hab => ?_) (List.pairwise_lt_range (n := l.length))
    exact ⟨hab, List.mem_range.mp hb⟩
  refine List.Pairwise.imp_of_mem (fun {i j} hi hj hij => ?_) (hp.filter _)
  obtain ⟨_, fj⟩ := List.mem_filter.mp hj
  obtain ⟨hlt, hl⟩ := hij
  have hl1 : j - 1 < l.length := by omega
  have hli : i < l.length := by omega
  rw [List.getElem?_eq_getElem hl, List.getElem?_eq_getElem hli]
  show ltT l[i] l[j] = true
  unfold fresh at fj
  have hj0 : ¬ j = 0 := by omega
  rw [List.getElem?_eq_getElem hl, List.getElem?_eq_getElem hl1] at fj
  have hne : l[j - 1] ≠ l[j] := by
    intro z
    simp [hj0, z] at fj
  have h1 : ltT l[j - 1] l[i] = false := ri_le h (by omega) hl1
  have h2 : ltT l[j] l[j - 1] = false := ri_le h (by omega) hl
  cases e : ltT l[i] l[j] with
  | true => rfl
  | false =>
    exfalso
    have h3 : ltT l[j] l[i] = false := leT_trans h1 h2
    have h4 : l[i] = l[j] := ltT_tri e h3
    rw [h4] at h1
    exact hne (ltT_tri h1 h2)
theorem dropR_mem (l : List Str) (x : Str) : x ∈ dropR l ↔ x ∈ l := by
  unfold dropR
  constructor
  · intro h
    obtain ⟨j, hj, rfl⟩ := List.mem_map.mp h
    obtain ⟨hj, _⟩ := List.mem_filter.mp hj
    have hj := List.mem_range.mp hj
    rw [List.getElem?_eq_getElem hj]
    exact List.getElem_mem hj
  · intro h
    have key : ∀ n, n < l.length → l[n]? = some x → ∃ j, j < l.length ∧ l[j]? = some x ∧ fresh l j = true := by
      intro n
      induction n with
      | zero => exact fun h1 h2 => ⟨0, h1, h2, rfl⟩
      | succ n ih =>
        intro h1 h2
        by_cases e : l[n]? = some x
        · exact ih (by omega) e
        · refine ⟨n + 1, h1, h2, ?_⟩
          unfold fresh
          rw [h2, Nat.add_sub_cancel]
          simp [e]
    obtain ⟨n, hn, e⟩ := List.getElem_of_mem h
    obtain ⟨j, hj, ej, fj⟩ := key n hn (by rw [List.getElem?_eq_getElem hn, e])
    exact List.mem_map.mpr ⟨j, List.mem_filter.mpr ⟨List.mem_range.mpr hj, fj⟩, by rw [ej] <;> rfl⟩
theorem dropR_sort (l : List Str) : dropR (sortL l) = sortU l := sortU_of (dropR_up (sortL_ri l)) fun x => (dropR_mem _ x).trans ((sortL_perm l).mem_iff)
theorem sortL_len (l : List Str) : (sortL l).length = l.length := (sortL_perm l).length_eq
/-- a set comprehension over values, by functions -/
theorem scD_one {i : Nat} {own : List Nat} {dt : DT} {de : DE} {ρ : En} {q : List Str → Mu → Prop} {μ : Mu} (g : PV → Option Str) : ∀ (xs : List PV) (acc : List Str), (∀ x ∈ xs, ∀ k : Bool → Mu → Prop, k (g x).isSome μ → dt ((wipeE ρ own).set i (some x)) μ k noX) → (∀ x ∈ xs, ∀ z, g x = some z → ∀ k : QV, k (.str z) μ → de ((wipeE ρ own).set i (some x)) μ k noX) →
    q (acc ++ xs.filterMap g) μ → Lk (scD (.one i) own dt de ρ q xs acc μ)
  | [], acc, _, _, h => scD_n rfl (by simpa using h)
  | x :: xs, acc, h1, h2, h => by
    have ih := fun acc => scD_one g xs acc (fun y hy => h1 y (List.mem_cons_of_mem _ hy)) (fun y hy => h2 y (List.mem_cons_of_mem _ hy)) (q := q)
    refine scD_c rfl ?_
    show dt ((wipeE ρ own).set i (some x)) μ _ noX
    refine h1 x List.mem_cons_self _ ?_
    cases e : g x with
    | none =>
      refine brF rfl ?_
      refine ih acc ?_
      rwa [List.filterMap_cons_none e] at h
    | some z =>
      refine brT rfl ?_
      refine h2 x List.mem_cons_self z e _ ?_
      refine ih _ ?_
      rw [List.filterMap_cons_some e] at h
      simpa using h
/-! ## == of rows -/
def QP : Qt := [(.Pass, q_Pass)]
theorem sameQP : ∀ c f, (c, f) ∈ QP → SameO c f := fun c f h => by
  have : (c, f) = (.Pass, q_Pass) := by simpa [QP] using h
  cases this
  exact same_Pass
def q_Row : Qf := fun xs b => match xs with
  | [a1, a2] => (match b with
    | .obj .Row [b1, b2] => deq QP 10 a1 b1
    | b => othQ .Row b)
  | _ => none
theorem q_Row_inv {xs : List PV} {b : PV} {k : Bool} (h : q_Row xs b = some k) : (∃ a1 a2 b1 b2, xs = [a1, a2] ∧ b = .obj .Row [b1, b2] ∧ deq QP 10 a1 b1 = some k) ∨ ∃ a1 a2, xs = [a1, a2] ∧ othB .Row b = true ∧ k = false := by
  unfold q_Row at h
  split at h
  · split at h
    · exact .inl ⟨_, _, _, _, rfl, rfl, h⟩
    · exact .inr ⟨_, _, rfl, othQ_inv h⟩
  · cases h
theorem same_Row : SameO .Row q_Row := fun X pins s σ H B μ G xs ys vs k ka J o rx ry h => by
  rcases q_Row_inv h with ⟨a1, a2, b1, b2, rfl, e, h⟩ | ⟨a1, a2, rfl, hb, rfl⟩
  · cases e
    obtain ⟨v, ws, rfl, r1, rx⟩ := rx.cons_inv
    obtain ⟨v2, ws2, e, q1, ry⟩ := ry.cons_inv
    cases e
    exact same_deq sameQP 10 X pins s σ H B μ G _ _ _ k ka J o r1 q1 h
  · cases hb
theorem eqi_Row : ∀ as μ q x, cEq .Row q_Row as μ q x → cEq .Row q_Row as μ q x := fun _ _ _ _ h => h
theorem pass_refl {o : One} (h : o.Pk) : q_Pass [o.mask, inkOf o.kind o.when_ o.off o.on, .bl o.side] o.pass = some true := by
  obtain ⟨k, e1, e2, _⟩ := five_eq [] h h
  obtain ⟨k1, f1, c1⟩ := eqS_mask h.m h.m
  have f2 : k1 = true := c1.mpr rfl
  subst f2
  have e1 : andO (deq [] 9 o.mask o.mask) (andO (some (decide (o.side = o.side))) (andO (some (decide (o.when_ = o.when_))) (andO (some (decide (o.off = o.off))) (andO (some (decide (o.on = o.on))) (some true))))) = some k := e1
  rw [eqS_deq h.m h.m, f1] at e1
  simp only [andO_some, decide_true, Bool.and_true, Option.some.injEq] at e1
  rw [e2, ← e1]
theorem rows_refl : ∀ (t : Nat) (os : List One), (∀ o ∈ os, o.Pk) → peqs (deq QP t) (os.map One.pass) (os.map One.pass) = some true
  | t, [], _ => rfl
  | t, o :: os, h => by
    have ih := rows_refl t os fun p hp => h p (List.mem_cons_of_mem _ hp)
    have e : deq QP t o.pass o.pass = some true := by
      have := pass_refl (h o List.mem_cons_self)
      cases t <;> exact this
    show andO (deq QP t o.pass o.pass) (peqs (deq QP t) (os.map One.pass) (os.map One.pass)) = _
    rw [ih, e] <;> rfl
theorem row_refl {os : List One} (h : ∀ o ∈ os, o.Pk) (m : PV) : q_Row [.tup (os.map One.pass), m] (rowP (os.map One.pass)) = some true := rows_refl 9 os h
/-! ## the masks of ones -/
def fM (p : PV) : Bool := match p with
  | .tup (.non :: _) => false
  | _ => true
def gM (p : PV) : PV := match p with
  | .tup (m :: _) => m
  | _ => .non
theorem mask_list : ∀ (os : List One), (∀ o ∈ os, MaskP o.mask o.side) → ((os.map One.pv).filter fM).map gM = (os.filterMap One.mk?).map .str
  | [], _ => rfl
  | o :: os, h => by
    have ih := mask_list os fun p hp => h p (List.mem_cons_of_mem _ hp)
    have ho := h o List.mem_cons_self
    obtain ⟨mask, side, w, a, b, k⟩ := o
    rcases ho with ⟨e, _⟩ | ⟨z, e, _⟩
    · have e : mask = .non := e
      subst e
      exact ih
    · have e : mask = .str z := e
      subst e
      exact congrArg (PV.str z :: ·) ih
def f2 (l : List Str) (p : PV) : Bool := match p with
  | .int i => fresh l i.toNat
  | _ => false
def g2 (l : List Str) (p : PV) : PV := match p with
  | .int i => .str ((l[i.toNat]?).getD Str.empty)
  | _ => .non
theorem drop_list (l : List Str) (n : Nat) (hn : n = l.length) : ((rangeP 0 n).filter (f2 l)).map (g2 l) = (dropR l).map .str := by
  subst hn
  unfold rangeP dropR
  rw [List.filter_map, List.map_map, List.map_map]
  have e : (f2 l ∘ fun i : Nat => PV.int (0 + (i : Nat))) = fresh l := by
    funext j
    show fresh l (0 + ((j : Nat) : Int)).toNat = _
    congr 1
    omega
  rw [e]
  refine List.map_congr_left fun j _ => ?_
  show PV.str ((l[(0 + ((j : Nat) : Int)).toNat]?).getD Str.empty) = _
  have e0 : (0 + ((j : Nat) : Int)).toNat = j := by omega
  rw [e0] <;> rfl
end Px

namespace Px
open PySem PySem.Spec PyProof.Rows L2
/-! ## rows of ones -/
def rowO (os : List One) : PV := rowP (os.map One.pass)
theorem rowO_eq (os : List One) : rowO os = .obj .Row [.tup (os.map One.pass), .tup ((masksO os).map .str)] := by
  unfold rowO rowP
  rw [masks_ones]
/-- drawn ones have no more masks than there are names -/
theorem masks_names {os : List One} {ns : List Str} (h : ∀ o ∈ os, ∀ z, o.mask = .str z → z ∈ ns) : (masksO os).length ≤ ns.length := by
  refine sub_len _ _ (sortU_nd _) fun x hx => ?_
  have hx := (mem_sortU _ _).mp hx
  obtain ⟨o, ho, e⟩ := List.mem_filterMap.mp hx
  refine h o ho x ?_
  unfold One.mk? at e
  split at e
  · rename_i z em
    cases e
    exact em
  · cases e
theorem dr_names {o : One} {ns : List Str} {c s : Bool} (h : o.Dr (ns.map .str) c s) : ∀ z, o.mask = .str z → z ∈ ns := fun z e => by
  rcases h.m with ⟨h1, _⟩ | ⟨h1, _⟩
  · rw [h1] at e; cases e
  · rw [e] at h1
    obtain ⟨y, hy, ey⟩ := List.mem_map.mp h1
    cases ey
    exact hy
theorem dr_masks {os : List One} {ns : List Str} {c s : Bool} (h : ∀ o ∈ os, o.Dr (ns.map .str) c s) : (masksO os).length ≤ ns.length := masks_names fun o ho => dr_names (h o ho)
theorem One.Dr.pk {o : One} {ns : List Str} {c s : Bool} (hn : ∀ z ∈ ns, nameB z = true) (h : o.Dr (ns.map .str) c s) : o.Pk := ⟨h.m.p hn, h.w.takes, h.k⟩
/-! ## == of rows of ones -/
def One.five (o : One) : PV := .tup [o.mask, .bl o.side, .str o.when_, .int o.off, .int o.on]
theorem five_eq' (Q : Qt) {o o2 : One} (h : o.Pk) (h2 : o2.Pk) : ∃ k, (∀ t, deq Q (t + 1) o.five o2.five = some k) ∧ (∀ t, deq QP t o.pass o2.pass = some k) ∧ ∀ t, deq QP t o2.pass o.pass = some k := by
  obtain ⟨k, e1, e2, e3⟩ := five_eq Q h h2
  refine ⟨k, fun t => ?_, fun t => ?_, fun t => ?_⟩
  · rw [← e1]
    show andO (deq Q t o.mask o2.mask) _ = andO (deq Q 9 o.mask o2.mask) _
    rw [eqS_deq h.m h2.m, eqS_deq h.m h2.m]
    cases t <;> rfl
  · cases t <;> exact e2
  · cases t <;> exact e3
theorem fives_eq (Q : Qt) : ∀ (os os2 : List One), (∀ o ∈ os, o.Pk) → (∀ o ∈ os2, o.Pk) → ∃ k, (∀ t, peqs (deq Q (t + 1)) (os.map One.five) (os2.map One.five) = some k) ∧ (∀ t, peqs (deq QP t) (os.map One.pass) (os2.map One.pass) = some k) ∧ (∀ t, peqs (deq QP t) (os2.map One.pass) (os.map One.pass) = some k) ∧ (k = true → os.length = os2.length)
  | [], [], _, _ => ⟨true, fun _ => rfl, fun _ => rfl, fun _ => rfl, fun _ => rfl⟩
  | [], o :: os, _, _ => ⟨false, fun _ => rfl, fun _ => rfl, fun _ => rfl, fun h => by cases h⟩
  | o :: os, [], _, _ => ⟨false, fun _ => rfl, fun _ => rfl, fun _ => rfl, fun h => by cases h⟩
  | o :: os, o2 :: os2, h1, h2 => by
    obtain ⟨k, e1, e2, e3, e4⟩ := fives_eq Q os os2 (fun p hp => h1 p (List.mem_cons_of_mem _ hp)) (fun p hp => h2 p (List.mem_cons_of_mem _ hp))
    obtain ⟨j, f1, f2, f3⟩ := five_eq' Q (h1 o List.mem_cons_self) (h2 o2 List.mem_cons_self)
    refine ⟨j && k, fun t => ?_, fun t => ?_, fun t => ?_, fun h => ?_⟩
    · show andO (deq Q (t + 1) o.five o2.five) (peqs (deq Q (t + 1)) (os.map One.five) (os2.map One.five)) = _
      rw [e1, f1, andO_some]
    · show andO (deq QP t o.pass o2.pass) (peqs (deq QP t) (os.map One.pass) (os2.map One.pass)) = _
      rw [e2, f2, andO_some]
    · show andO (deq QP t o2.pass o.pass) (peqs (deq QP t) (os2.map One.pass) (os.map One.pass)) = _
      rw [e3, f3, andO_some]
    · rw [List.length_cons, List.length_cons, e4 (He.ba h).2]
/-- two rows of ones, compared; their first fives, compared -/
theorem rows_eq (Q : Qt) {os os2 : List One} (h1 : ∀ o ∈ os, o.Pk) (h2 : ∀ o ∈ os2, o.Pk) : ∃ k, deq Q 10 (.lst (os.map One.five)) (.lst (os2.map One.five)) = some k ∧ (∀ m, q_Row [.tup (os.map One.pass), m] (rowO os2) = some k) ∧ ∀ m, q_Row [.tup (os2.map One.pass), m] (rowO os) = some k := by
  obtain ⟨k, e1, e2, e3, e4⟩ := fives_eq Q os os2 h1 h2
  refine ⟨k, ?_, fun m => e2 9, fun m => e3 9⟩
  show (match Nat.beq (os.map One.five).length (os2.map One.five).length with
    | true => peqs (deq Q 9) (os.map One.five) (os2.map One.five)
    | false => some false) = _
  rw [List.length_map, List.length_map]
  split
  · exact e1 8
  · rename_i e
    cases k with
    | false => rfl
    | true =>
      rw [e4 rfl, Nat.beq_refl] at e
      cases e
/-- the pass of a one -/
def gP (p : PV) : PV := match p with
  | .tup [mask, .bl side, .str z, .int a, .int b, .str k] => passP mask (inkOf k z a b) side
  | _ => .non
theorem gP_map (os : List One) : (os.map One.pv).map gP = os.map One.pass := by
  rw [List.map_map]
  rfl
/-- the first five of a one -/
def g5 (p : PV) : PV := match p with
  | .tup [a, b, c, d, e, _] => .tup [a, b, c, d, e]
  | _ => .non
theorem g5_map (os : List One) : (os.map One.pv).map g5 = os.map One.five := by
  rw [List.map_map]
  rfl
/-- the same effect as a plain ink -/
def One.inked (o : One) : One := { o with kind := "ink" }
def gInk (p : PV) : PV := match p with
  | .tup [a, b, c, d, e, _] => .tup [a, b, c, d, e, .str "ink"]
  | _ => .non
theorem gInk_map (os : List One) : (os.map One.pv).map gInk = (os.map One.inked).map One.pv := by
  rw [List.map_map, List.map_map]
  rfl
theorem kind_ink {a b : Int} {k : Str} (h : KindOk a b k) : KindOk a b "ink" := ⟨h.1, h.2.1, .inr (.inr (.inr ⟨rfl, h.and⟩))⟩
theorem inked_pk {os : List One} (h : ∀ o ∈ os, o.Pk) : ∀ o ∈ os.map One.inked, o.Pk := fun o ho => by
  obtain ⟨p, hp, rfl⟩ := List.mem_map.mp ho
  have := h p hp
  exact ⟨this.m, this.w, kind_ink this.k⟩
theorem inked_masks (os : List One) : masksO (os.map One.inked) = masksO os := by
  unfold masksO
  rw [List.filterMap_map]
  rfl
end Px

namespace Px
open PySem PySem.Spec PyProof.Rows L2
/-- a comprehension over φ of a list, by functions -/
theorem lcA {α : Type} {t : Tg} {own : List Nat} {dt : DT} {de : DE} {ρ : En} {q : List PV → Mu → Prop} {μ : Mu} (φ : α → PV) (e : α → En) (f : α → Bool) (g : α → PV) (hE : ∀ (a : α) (k : En → Prop), k (e a) → setT t (φ a) (wipeE ρ own) k) :
    ∀ (l : List α) (acc : List PV), (∀ a ∈ l, ∀ k : Bool → Mu → Prop, k (f a) μ → dt (e a) μ k noX) → (∀ a ∈ l, f a = true → ∀ k : QV, k (g a) μ → de (e a) μ k noX) →
    q (acc ++ (l.filter f).map g) μ → Lk (lcD t own dt de ρ q (l.map φ) acc μ)
  | [], acc, _, _, h => lcD_n rfl (by simpa using h)
  | a :: l, acc, h1, h2, h => by
    have ih := fun acc => lcA (dt := dt) (de := de) (q := q) (μ := μ) φ e f g hE l acc (fun y hy => h1 y (List.mem_cons_of_mem _ hy)) (fun y hy => h2 y (List.mem_cons_of_mem _ hy))
    refine lcD_c rfl ?_
    refine hE a _ ?_
    refine h1 a List.mem_cons_self _ ?_
    cases z : f a with
    | false =>
      refine brF rfl ?_
      refine ih acc ?_
      rwa [List.filter_cons_of_neg (by rw [z]; decide)] at h
    | true =>
      refine brT rfl ?_
      refine h2 a List.mem_cons_self z _ ?_
      refine ih _ ?_
      rw [List.filter_cons_of_pos z, List.map_cons] at h
      simpa using h
theorem lcM {α : Type} {t : Tg} {own : List Nat} {de : DE} {ρ : En} {q : List PV → Mu → Prop} {μ : Mu} (φ : α → PV) (e : α → En) (g : α → PV) (hE : ∀ (a : α) (k : En → Prop), k (e a) → setT t (φ a) (wipeE ρ own) k)
    (l : List α) (acc : List PV) (h2 : ∀ a ∈ l, ∀ k : QV, k (g a) μ → de (e a) μ k noX) (h : q (acc ++ l.map g) μ) : Lk (lcD t own dYes de ρ q (l.map φ) acc μ) :=
  lcA φ e (fun _ => true) g hE l acc (fun a _ k h => h) (fun a ha _ k h => h2 a ha k h) (by rw [List.filter_eq_self.mpr fun _ _ => rfl]; exact h)
theorem lcA1 {α : Type} {i : Nat} {own : List Nat} {dt : DT} {de : DE} {ρ : En} {q : List PV → Mu → Prop} {μ : Mu} (φ : α → PV) (f : α → Bool) (g : α → PV) (l : List α) (acc : List PV)
    (h1 : ∀ a ∈ l, ∀ k : Bool → Mu → Prop, k (f a) μ → dt ((wipeE ρ own).set i (some (φ a))) μ k noX) (h2 : ∀ a ∈ l, f a = true → ∀ k : QV, k (g a) μ → de ((wipeE ρ own).set i (some (φ a))) μ k noX)
    (h : q (acc ++ (l.filter f).map g) μ) : Lk (lcD (.one i) own dt de ρ q (l.map φ) acc μ) := lcA (t := .one i) φ (fun a => (wipeE ρ own).set i (some (φ a))) f g (fun _ _ hk => hk) l acc h1 h2 h
theorem lcM1 {α : Type} {i : Nat} {own : List Nat} {de : DE} {ρ : En} {q : List PV → Mu → Prop} {μ : Mu} (φ : α → PV) (g : α → PV) (l : List α) (acc : List PV)
    (h2 : ∀ a ∈ l, ∀ k : QV, k (g a) μ → de ((wipeE ρ own).set i (some (φ a))) μ k noX)
    (h : q (acc ++ l.map g) μ) : Lk (lcD (.one i) own dYes de ρ q (l.map φ) acc μ) := lcM (t := .one i) φ (fun a => (wipeE ρ own).set i (some (φ a))) g (fun _ _ hk => hk) l acc h2 h
/-- a comprehension whose items are any of P -/
theorem lcAny {α : Type} {t : Tg} {own : List Nat} {de : DE} {ρ : En} {q : List PV → Mu → Prop} {μ : Mu} (φ : α → PV) (P : α → Prop) (e : PV → En) :
    ∀ (ys : List PV) (acc : List α), (∀ y ∈ ys, ∀ k : En → Prop, k (e y) → setT t y (wipeE ρ own) k) → (∀ y ∈ ys, ∀ k : QV, (∀ a, P a → k (φ a) μ) → de (e y) μ k noX) →
    (∀ l : List α, l.length = ys.length → (∀ a ∈ l, P a) → q ((acc ++ l).map φ) μ) → Lk (lcD t own dYes de ρ q ys (acc.map φ) μ)
  | [], acc, _, _, h => lcD_n rfl (by have := h [] rfl (fun _ z => by cases z); simpa using this)
  | y :: ys, acc, h1, h2, h => by
    have ih := fun acc => lcAny (de := de) (q := q) (μ := μ) φ P e ys acc (fun y hy => h1 y (List.mem_cons_of_mem _ hy)) (fun y hy => h2 y (List.mem_cons_of_mem _ hy))
    refine lcD_c rfl ?_
    refine h1 y List.mem_cons_self _ ?_
    refine brT rfl ?_
    refine h2 y List.mem_cons_self _ fun a ha => ?_
    have ih := ih (acc ++ [a]) fun l hl hp => by
      have := h (a :: l) (by rw [List.length_cons, List.length_cons, hl]) fun b hb => (List.mem_cons.mp hb).elim (fun z => z ▸ ha) (hp b)
      simpa using this
    rw [List.map_append] at ih
    exact ih
theorem lcAny1 {α : Type} {i : Nat} {own : List Nat} {de : DE} {ρ : En} {q : List PV → Mu → Prop} {μ : Mu} (φ : α → PV) (P : α → Prop) (ys : List PV) (acc : List α)
    (h2 : ∀ y ∈ ys, ∀ k : QV, (∀ a, P a → k (φ a) μ) → de ((wipeE ρ own).set i (some y)) μ k noX)
    (h : ∀ l : List α, l.length = ys.length → (∀ a ∈ l, P a) → q ((acc ++ l).map φ) μ) : Lk (lcD (.one i) own dYes de ρ q ys (acc.map φ) μ) := lcAny (t := .one i) φ P (fun y => (wipeE ρ own).set i (some y)) ys acc (fun _ _ _ hk => hk) h2 h
/-! ## what is left without some indexes -/
def leftA {α : Type} (is : List Int) : Nat → List α → List α
  | _, [] => []
  | i, x :: xs => if ((i : Nat) : Int) ∈ is then leftA is (i + 1) xs else x :: leftA is (i + 1) xs
theorem leftA_map {α β : Type} (f : α → β) (is : List Int) : ∀ (i : Nat) (xs : List α), leftA is i (xs.map f) = (leftA is i xs).map f
  | _, [] => rfl
  | i, x :: xs => by
    show (if _ then _ else _) = List.map f (if _ then _ else _)
    rw [leftA_map f is (i + 1) xs]
    split <;> rfl
theorem leftA_mem {α : Type} {is : List Int} {y : α} : ∀ {i : Nat} {xs : List α}, y ∈ leftA is i xs → y ∈ xs
  | _, [], h => h
  | i, x :: xs, h => by
    have h : y ∈ (if ((i : Nat) : Int) ∈ is then leftA is (i + 1) xs else x :: leftA is (i + 1) xs) := h
    split at h
    · exact List.mem_cons_of_mem _ (leftA_mem h)
    · rcases List.mem_cons.mp h with rfl | h
      · exact List.mem_cons_self
      · exact List.mem_cons_of_mem _ (leftA_mem h)
theorem leftA_len {α : Type} {is : List Int} : ∀ {i : Nat} {xs : List α}, (leftA is i xs).length ≤ xs.length
  | _, [] => Nat.le_refl _
  | i, x :: xs => by
    show (if ((i : Nat) : Int) ∈ is then leftA is (i + 1) xs else x :: leftA is (i + 1) xs).length ≤ xs.length + 1
    have := leftA_len (is := is) (i := i + 1) (xs := xs)
    split
    · omega
    · rw [List.length_cons]
      omega
/-- the pairs of enumerate -/
def pairsA {α : Type} : Nat → List α → List (Nat × α)
  | _, [] => []
  | i, x :: xs => (i, x) :: pairsA (i + 1) xs
theorem enumP_pairs {α : Type} (f : α → PV) : ∀ (i : Nat) (xs : List α), enumP i (xs.map f) = (pairsA i xs).map fun p => .tup [.int (p.1 : Nat), f p.2]
  | _, [] => rfl
  | i, x :: xs => by
    show PV.tup [.int (i : Nat), f x] :: enumP (i + 1) (xs.map f) = _
    rw [enumP_pairs f (i + 1) xs]
    rfl
theorem pairsA_left {α : Type} (is : List Int) : ∀ (i : Nat) (xs : List α), ((pairsA i xs).filter fun p => !decide (((p.1 : Nat) : Int) ∈ is)).map (·.2) = leftA is i xs
  | _, [] => rfl
  | i, x :: xs => by
    have ih := pairsA_left is (i + 1) xs
    show (List.filter _ ((i, x) :: pairsA (i + 1) xs)).map (·.2) = if _ then _ else _
    by_cases h : ((i : Nat) : Int) ∈ is
    · rw [List.filter_cons_of_neg (by simp [h]), if_pos h, ih]
    · rw [List.filter_cons_of_pos (by simp [h]), if_neg h, List.map_cons, ih]
theorem pairsA_fst {α : Type} : ∀ (i : Nat) (xs : List α), (pairsA i xs).map (·.1) = (List.range xs.length).map (i + ·)
  | _, [] => rfl
  | i, x :: xs => by
    show i :: (pairsA (i + 1) xs).map (·.1) = _
    rw [pairsA_fst (i + 1) xs, List.length_cons, List.range_succ_eq_map, List.map_cons, List.map_map]
    refine List.cons_eq_cons.mpr ⟨by omega, List.map_congr_left fun j _ => ?_⟩
    show i + 1 + j = i + (j + 1)
    omega
theorem pairsA_get {α : Type} : ∀ {i : Nat} {xs : List α} {p : Nat × α}, p ∈ pairsA i xs → i ≤ p.1 ∧ xs[p.1 - i]? = some p.2
  | i, x :: xs, p, h => by
    rcases List.mem_cons.mp h with rfl | h
    · exact ⟨Nat.le_refl _, by show (x :: xs)[i - i]? = some x; rw [Nat.sub_self] <;> rfl⟩
    · obtain ⟨a, b⟩ := pairsA_get h
      refine ⟨by omega, ?_⟩
      have : p.1 - i = (p.1 - (i + 1)) + 1 := by omega
      rw [this, List.getElem?_cons_succ]
      exact b
/-- the items of a list without some indexes, taken by index -/
theorem range_left {α : Type} (is : List Int) (xs : List α) (f : Nat → α) (hf : ∀ j (h : j < xs.length), f j = xs[j]) : ((List.range xs.length).filter fun j => !decide (((j : Nat) : Int) ∈ is)).map f = leftA is 0 xs := by
  rw [← pairsA_left is 0 xs]
  have e : List.range xs.length = (pairsA 0 xs).map (·.1) := by
    rw [pairsA_fst]
    simp
  rw [e, List.filter_map, List.map_map]
  refine List.map_congr_left fun p hp => ?_
  obtain ⟨_, b⟩ := pairsA_get (List.mem_filter.mp hp).1
  obtain ⟨hl, eg⟩ := List.getElem?_eq_some_iff.mp b
  show f p.1 = p.2
  rw [hf p.1 (by omega)]
  exact eg
/-- a part of the ones has no more masks -/
theorem masks_sub {os os2 : List One} (h : ∀ o ∈ os2, o ∈ os) : (masksO os2).length ≤ (masksO os).length := by
  refine sub_len _ _ (sortU_nd _) fun x hx => ?_
  have hx := (mem_sortU _ _).mp hx
  refine (mem_sortU _ _).mpr ?_
  obtain ⟨o, ho, e⟩ := List.mem_filterMap.mp hx
  exact List.mem_filterMap.mpr ⟨o, h o ho, e⟩
/-- the first index out of range -/
def badA (n : Nat) (is : List Int) : Option Int := is.find? fun i => !(decide (0 ≤ i) && decide (i < n))
theorem inP_int (z : Int) (ns : List Int) : inP (.int z) (ns.map .int) = decide (z ∈ ns) := by
  unfold inP
  induction ns with
  | nil => rfl
  | cons n ns ih =>
    rw [List.map_cons, List.any_cons, ih]
    have : eqF (.int n) (.int z) = decide (n = z) := rfl
    rw [this]
    by_cases e : n = z
    · subst e; simp
    · have e2 : ¬ z = n := fun y => e y.symm
      simp [e, e2]
theorem badA_cons (n : Nat) (i : Int) (is : List Int) : badA n (i :: is) = if 0 ≤ i ∧ i < n then badA n is else some i := by
  unfold badA
  by_cases h : 0 ≤ i ∧ i < n
  · rw [if_pos h, List.find?_cons_of_neg (by simp [h.1, h.2])]
  · rw [if_neg h, List.find?_cons_of_pos (by
      simp only [Bool.not_eq_true', Bool.and_eq_false_iff, decide_eq_false_iff_not]
      omega)]
def badF (n : Nat) (i : Int) : Bool := decide (i < 0) || decide ((n : Int) ≤ i)
theorem badA_head (n : Nat) (is : List Int) : badA n is = (is.filter (badF n)).head? := by
  rw [List.head?_filter]
  unfold badA
  congr 1
  funext i
  unfold badF
  rw [Bool.eq_iff_iff]
  simp
end Px

namespace Px
open PySem PySem.Spec PyProof.Rows L2
theorem deq_ints (Q : Qt) : ∀ (t : Nat) (xs ys : List Int), peqs (deq Q t) (xs.map .int) (ys.map .int) = some (decide (xs = ys))
  | t, [], [] => rfl
  | t, [], y :: ys => rfl
  | t, x :: xs, [] => rfl
  | t, x :: xs, y :: ys => by
    have ih := deq_ints Q t xs ys
    have e : deq Q t (.int x) (.int y) = some (decide (x = y)) := by cases t <;> rfl
    show andO (deq Q t (.int x) (.int y)) (peqs (deq Q t) (xs.map .int) (ys.map .int)) = _
    rw [ih, e]
    by_cases h1 : x = y <;> by_cases h2 : xs = ys <;> simp [h1, h2, andO]
theorem deq_lint (Q : Qt) (xs ys : List Int) : deq Q 10 (.lst (xs.map .int)) (.lst (ys.map .int)) = some (decide (xs = ys)) := by
  show (match Nat.beq (xs.map PV.int).length (ys.map PV.int).length with
    | true => peqs (deq Q 9) (xs.map .int) (ys.map .int)
    | false => some false) = _
  rw [List.length_map, List.length_map]
  split
  · exact deq_ints Q 9 xs ys
  · rename_i e
    rw [decide_eq_false]
    intro z
    rw [z] at e
    rw [Nat.beq_refl] at e
    cases e
theorem deqL_nl {Q : Qt} {μ : Mu} {xs ys : List PV} {k : Bool} (h : deq Q 10 (.lst xs) (.lst ys) = some k) : deqL Q true μ (.lst xs) (.lst ys) = some (!k) := (deqL_eq _ _ _ _ _).trans (by
  show (match deq Q 10 (.lst xs) (.lst ys) with | some r => some (sgn true r) | none => none) = _
  rw [h] <;> rfl)
theorem deqL_nt {Q : Qt} {μ : Mu} {xs ys : List PV} {k : Bool} (h : deq Q 10 (.tup xs) (.tup ys) = some k) : deqL Q true μ (.tup xs) (.tup ys) = some (!k) := (deqL_eq _ _ _ _ _).trans (by
  show (match deq Q 10 (.tup xs) (.tup ys) with | some r => some (sgn true r) | none => none) = _
  rw [h] <;> rfl)
/-! ## slices -/
def cutA {α : Type} (xs : List α) (lo hi : Option Int) : List α := (xs.drop (HT.sIx xs.length 0 lo)).take (HT.sIx xs.length xs.length hi - HT.sIx xs.length 0 lo)
theorem cut_map {α : Type} (f : α → PV) (xs : List α) (lo hi : Option Int) : cutP (xs.map f) lo hi = (cutA xs lo hi).map f := by
  unfold cutP cutA
  rw [List.length_map, List.map_take, List.map_drop]
theorem cutA_mem {α : Type} {x : α} {xs : List α} {lo hi : Option Int} (h : x ∈ cutA xs lo hi) : x ∈ xs := List.mem_of_mem_drop (List.mem_of_mem_take h)
theorem cutA_len {α : Type} (xs : List α) (lo hi : Option Int) : (cutA xs lo hi).length ≤ xs.length := by
  unfold cutA
  rw [List.length_take, List.length_drop]
  omega
theorem sIx_in {n d : Nat} {r : Int} (h0 : 0 ≤ r) (h1 : r ≤ n) : HT.sIx n d (some r) = r.toNat := by
  unfold HT.sIx
  simp only
  first | omega | (split <;> omega)
theorem cut_to {α : Type} {xs : List α} {r : Int} (h0 : 0 ≤ r) (h1 : r ≤ (xs.length : Nat)) : cutA xs none (some r) = xs.take r.toNat := by
  unfold cutA
  rw [sIx_in h0 h1]
  show ((xs.drop 0).take (r.toNat - 0)) = _
  rw [List.drop_zero, Nat.sub_zero]
theorem cut_from {α : Type} {xs : List α} {r : Int} (h0 : 0 ≤ r) (h1 : r ≤ (xs.length : Nat)) : cutA xs (some r) none = xs.drop r.toNat := by
  unfold cutA
  rw [sIx_in h0 h1]
  show ((xs.drop r.toNat).take (xs.length - r.toNat)) = _
  rw [List.take_of_length_le (by rw [List.length_drop]; omega)]
theorem cut_drop {α : Type} {xs : List α} {r : Int} (h0 : 0 ≤ r) : cutA xs (some r) none = xs.drop r.toNat := by
  have e : HT.sIx xs.length 0 (some r) = min r.toNat xs.length := by
    unfold HT.sIx
    simp only
    rw [if_neg (by omega)]
  unfold cutA
  rw [e]
  show ((xs.drop (min r.toNat xs.length)).take (xs.length - min r.toNat xs.length)) = _
  rw [List.take_of_length_le (by rw [List.length_drop]; omega)]
  by_cases h : r.toNat ≤ xs.length
  · rw [Nat.min_eq_left h]
  · rw [Nat.min_eq_right (by omega), List.drop_eq_nil_of_le (Nat.le_refl _), List.drop_eq_nil_of_le (by omega)]
def rangeI (n : Nat) : List Int := (List.range n).map fun j => 0 + ((j : Nat) : Int)
theorem rangeP_I (n : Nat) : rangeP 0 n = (rangeI n).map .int := by
  unfold rangeP rangeI
  rw [List.map_map]
  rfl
/-- the items at some indexes -/
def pickA {α : Type} (is : List Int) (xs : List α) : List α := is.filterMap fun i => xs[i.toNat]?
theorem pickA_map {α β : Type} (f : α → β) (is : List Int) (xs : List α) : pickA is (xs.map f) = (pickA is xs).map f := by
  unfold pickA
  rw [List.map_filterMap]
  congr 1
  funext i
  rw [List.getElem?_map]
theorem pickA_mem {α : Type} {is : List Int} {xs : List α} {x : α} (h : x ∈ pickA is xs) : x ∈ xs := by
  obtain ⟨i, _, e⟩ := List.mem_filterMap.mp h
  exact List.mem_of_getElem? e
theorem pickA_len {α : Type} {is : List Int} {xs : List α} : (pickA is xs).length ≤ is.length := List.length_filterMap_le _ _
theorem pickA_all {α : Type} {xs : List α} (g : Int → α) : ∀ (is : List Int), (∀ i ∈ is, xs[i.toNat]? = some (g i)) → is.map g = pickA is xs
  | [], _ => rfl
  | i :: is, h => by
    have ih := pickA_all g is fun j hj => h j (List.mem_cons_of_mem _ hj)
    unfold pickA at ih ⊢
    rw [List.filterMap_cons_some (f := fun i : Int => xs[i.toNat]?) (h i List.mem_cons_self), List.map_cons, ih]
theorem order_in {is : List Int} {n : Nat} (h : sortI is = rangeI n) : ∀ i ∈ is, 0 ≤ i ∧ i < n := fun i hi => by
  have hm : i ∈ sortI is := (sortI_perm is).mem_iff.mpr hi
  rw [h] at hm
  obtain ⟨j, hj, e⟩ := List.mem_map.mp hm
  have := List.mem_range.mp hj
  omega
theorem order_get {α : Type} {is : List Int} {xs : List α} (h : ∀ i ∈ is, 0 ≤ i ∧ i < (xs.length : Nat)) (d : α) : ∀ i ∈ is, xs[i.toNat]? = some ((xs[i.toNat]?).getD d) := fun i hi => by
  have hj : i.toNat < xs.length := by have := h i hi; omega
  rw [List.getElem?_eq_getElem hj] <;> rfl
theorem atI_ok {xs : List PV} {i : Int} {p : PV} (h0 : 0 ≤ i) (e : xs[i.toNat]? = some p) : atI xs i = some p := by
  have := atI_nat e
  rwa [Int.toNat_of_nonneg h0] at this
theorem range_nat {n : Nat} {k : Int} (h : k = (n : Nat)) : rangeP 0 k.toNat = (List.range n).map fun j => .int (0 + ((j : Nat) : Int)) := by
  subst h
  unfold rangeP
  rw [Int.toNat_natCast]
end Px

namespace Px
open PySem PySem.Spec PyProof.Rows L2
/-! ## x, y = e -/
def noSeq : Expr → Bool
  | .Tuple _ _ _ => false
  | .List _ _ => false
  | _ => true
theorem swst_tup {tg e : Expr} {env : Env} (h : noSeq e = true) : swappedStores [tg] e env = pure none := by
  cases tg <;> first | rfl | (cases e <;> first | rfl | exact absurd h Bool.false_ne_true)
def dSetT (is : List Nat) (d : DE) : DS := fun P ρ μ => d ρ μ (fun p μ' => setT (.many is) p ρ fun ρ' => P.nx ρ' μ') (fun xv μ' => P.xc xv ρ μ')
theorem s_setT {X : Cx} {W : WX} {tg ex : Expr} {is : List Nat} {de : DE} {pos : Pos} (hg : PG X tg (tgOf X.K (.many is))) (h : EJ X W ex de) (h1 : noSeq ex = true) (h2 : noComp ex = true) (ha : (assignEach [tg] X.env).map (·.2) = [assign tg X.env]) :
    SJ X W (.Assign [tg] ex pos) (dSetT is de) := ps_imp (ps_asg h hg (sole_of h2) (swst_tup h1) ha) fun D σ H ⟨B, ρ, μ, G, P, R, h, eo⟩ =>
  ⟨B, ρ, μ, G, _, _, R, h, fun p v μ1 G1 H1 h1 g1 r1 => tg_ok (own := is) (fun _ z => z) (R.go g1) r1 h1 fun ρ' σ' hk R' _ => eo.nx _ _ _ _ _ hk R' g1, eo.gx R⟩
def sSetT (is : List Nat) (a : ZE) : ZS where
  d := fun R => dSetT is (a.d R)
  ck := fun c e => match e with
    | .Assign [.Tuple es n p] y _ => tgCk c (.many is) (.Tuple es n p) && (noSeq y && (noComp y && a.ck c y))
    | _ => false
  ok := fun {k R X W c e} h G => by
    split at h
    · obtain ⟨h1, h⟩ := He.ba h
      obtain ⟨h2, h⟩ := He.ba h
      obtain ⟨h3, h4⟩ := He.ba h
      exact s_setT (G.toGood.tg h1) (a.ok h4 G.toGood) h2 h3 rfl
    · cases h
/-! ## s.count(t) -/
def cntP (a b : PV) (μ : Mu) (q : QV) : Prop := match a, b with
  | .str x, .str y => q (.int (Txt.count x y)) μ
  | _, _ => False
def dCnt (da db : DE) : DE := fun ρ μ q x => da ρ μ (fun p μ1 => (match p with | .str _ => True | _ => False) ∧ db ρ μ1 (fun r μ2 => cntP p r μ2 q) x) x
theorem e_count {X : Cx} {W : WX} {a b : Expr} {da db : DE} {apos pos : Pos} (ha : EJ X W a da) (hb : EJ X W b db) (hs : starEach [b] X.env = [(false, eval b X.env)]) (hbase : attributeBase a "count" X.env (eval a X.env) = eval a X.env) (hline : (apos.endLine == pos.line) = true) :
    EJ X W (.Call (.Attribute a "count" apos) [b] [] pos) (dCnt da db) := pe_imp (pe_m1 PySem.F.slot_str_count PySem.F.type_str_count mt_count ha hb hs hbase hline) fun σ H Q ⟨B, ρ, μ, G, q, x, R, h, gv, gx⟩ =>
  ⟨B, ρ, μ, G, _, x, R, h, fun p v μ1 G1 H1 ⟨e, h1⟩ g1 r1 => by
    cases p with
    | str z =>
      obtain rfl := r1.str_inv
      refine ⟨⟨z, rfl⟩, B, ρ, μ1, G1, _, x, R.go g1, h1, fun r w μ2 G2 H2 h2 g2 r2 => ?_, gx.go g1⟩
      cases r with
      | str y =>
        obtain rfl := r2.str_inv
        exact ⟨z, y, rfl, rfl, gv _ _ _ _ _ h2 (g1.trans g2) (rep_int _)⟩
      | _ => exact h2.elim
    | _ => exact e.elim, gx⟩
def zCount (a b : ZE) : ZE where
  d := fun R => dCnt (a.d R) (b.d R)
  ck := fun c e => match e with
    | .Call (.Attribute x y apos) [z] [] pos => decide (y = "count") && (nsup x && (nstar z && ((apos.endLine == pos.line) && (a.ck c x && b.ck c z))))
    | _ => false
  ok := fun {k R X W c e} h G => by
    split at h
    · obtain ⟨h1, h⟩ := He.ba h
      obtain ⟨h2, h⟩ := He.ba h
      obtain ⟨h3, h⟩ := He.ba h
      obtain ⟨h4, h⟩ := He.ba h
      obtain ⟨h5, h6⟩ := He.ba h
      obtain rfl := of_decide_eq_true h1
      exact e_count (a.ok h5 G) (b.ok h6 G) (star_cons h3) (base_of h2) h4
    · cases h
/-! ## a text, repeated -/
def repS (a : Str) (n : Nat) : Str := ⟨(List.replicate n a.cps).foldl (· ++ ·) #[]⟩
theorem repS_one (a : Str) : repS a 1 = a := by
  unfold repS
  show (⟨#[] ++ a.cps⟩ : Str) = a
  simp
theorem fold_size (xs : Array Nat) : ∀ (n : Nat) (acc : Array Nat), ((List.replicate n xs).foldl (· ++ ·) acc).size = acc.size + n * xs.size
  | 0, acc => by simp
  | n + 1, acc => by
    rw [List.replicate_succ, List.foldl_cons, fold_size xs n, Array.size_append, Nat.succ_mul]
    omega
theorem repS_len (a : Str) (n : Nat) : (repS a n).length = n * a.length := by
  show ((List.replicate n a.cps).foldl (· ++ ·) #[]).size = n * a.cps.size
  rw [fold_size]
  simp
def rMulS : R2 := fun x y H Q => ∃ (a : Str) (n : Int), x = .str a ∧ y = .int n ∧ (1 ≤ a.length ∧ a.length ≤ 1000) ∧ (0 ≤ n ∧ n ≤ 1000) ∧ Q (.str (repS a n.toNat)) H
theorem op_mulS {X : Cx} : OpR X (binaryOp .Mult) rMulS := by
  intro pins s σ H x y v u Q I rx ry h
  obtain ⟨a, n, rfl, rfl, ⟨a1, a2⟩, ⟨n0, n1⟩, q⟩ := h
  obtain ⟨t, rfl⟩ := rx
  obtain ⟨t', rfl⟩ := ry
  have fin : ∀ (v : Value) (tk : Nat), (∃ t, v = .str (repS a n.toNat) t) → EP X pins σ Q v { s with toks := tk } := fun v tk ⟨t, e⟩ => ⟨.str (repS a n.toNat), H, I.tok _, ⟨t, e⟩, q⟩
  by_cases z : n < 1
  · have e : n = 0 := by omega
    subst e
    exact PySem.P.mul_str_none z (by decide) (fin _ _ ⟨_, rfl⟩)
  · refine PySem.P.mul_str (by rw [decide_eq_false (by omega), decide_eq_false (by omega)] <;> rfl) (fun _ _ h => ?_) (fun _ _ => ?_) ?_
    · have : (1000 : Int) ≤ (2 ^ 63 - 1) / n := (Int.le_ediv_iff_mul_le (by omega)).mpr (by omega)
      omega
    · have hm : a.length * n.toNat ≤ 1000 * 1000 := Nat.mul_le_mul a2 (by omega)
      have hz := sizeLine_eq
      exact decide_eq_false (by omega)
    · rw [if_neg z]
      split
      · rename_i h
        have e : n = 1 := by
          rcases Bool.or_eq_true_iff.mp h with y | y
          · simpa using y
          · have : a.length = 0 := by simpa using y
            omega
        subst e
        exact fin _ _ ⟨t, by rw [show (1 : Int).toNat = 1 from rfl, repS_one]⟩
      · refine ⟨?_, fin _ _ ⟨_, rfl⟩⟩
        have hm : n.toNat * a.length ≤ 1000 * 1000 := Nat.mul_le_mul (by omega) a2
        rw [show (⟨(List.replicate n.toNat a.cps).foldl (· ++ ·) #[]⟩ : Str) = repS a n.toNat from rfl, repS_len, sizeLine_eq]
        omega
def mulSP : F2 := fun _ a b q => match a with
  | .str z => (match b with
    | .int n => (1 ≤ z.length ∧ z.length ≤ 1000) ∧ (0 ≤ n ∧ n ≤ 1000) ∧ q (.str (repS z n.toNat))
    | _ => False)
  | _ => False
theorem oj_mulS {X : Cx} {W : WX} : OpJ X W (binaryOp .Mult) (fo mulSP) := .of op_mulS fun B μ G H a b va vb q Q o ra rb h gv => by
  cases a with
  | str z =>
    cases b with
    | int n => exact ⟨z, n, ra.str_inv, rb.int_inv, h.1, h.2.1, gv _ _ _ _ h.2.2 (.refl o) (rep_str _)⟩
    | _ => exact h.elim
  | _ => exact h.elim
def zMulS (a b : ZE) : ZE where
  d := fun R => dBin (fo mulSP) (a.d R) (b.d R)
  ck := fun c e => match e with
    | .BinOp x o y _ => (match o with | .Mult => true | _ => false) && (a.ck c x && b.ck c y)
    | _ => false
  ok := fun {k R X W c e} h G => by
    cases e with
    | BinOp x o y p =>
      obtain ⟨h1, h⟩ := He.ba h
      obtain ⟨h2, h3⟩ := He.ba h
      cases o <;> first | cases h1; done | exact e_bin oj_mulS (a.ok h2 G) (b.ok h3 G)
    | _ => exact ff h rfl
end Px

namespace Px
open PySem PySem.Spec PyProof.Rows L2
/-! ## shapes -/
def SG : Str := "#."
def sgB (c : Nat) : Bool := decide (c ∈ SG.cps.toList)
def lineB (n : Nat) (z : Str) : Bool := decide (1 ≤ z.length) && (decide (z.length ≤ 40) && (decide (z.length = n) && z.cps.toList.all sgB))
/-- the first bad line, from the i-th on -/
def badFrom (n : Nat) : Nat → List Str → Int
  | _, [] => -1
  | i, z :: zs => if lineB n z && decide (i < 40) then badFrom n (i + 1) zs else i
def wideL (ls : List Str) : Nat := match ls with
  | [] => 0
  | z :: _ => z.length
def badL (ls : List Str) : Int := match ls with
  | [] => 0
  | ls => badFrom (wideL ls) 0 ls
def shapeP (ls : List Str) : PV := .obj .Shape [.tup (ls.map .str), .int (wideL ls : Nat), .int (ls.length : Nat)]
theorem badFrom_le (n : Nat) : ∀ (i : Nat) (zs : List Str), badFrom n i zs = -1 ∨ (i : Int) ≤ badFrom n i zs
  | _, [] => .inl rfl
  | i, z :: zs => by
    unfold badFrom
    split
    · rcases badFrom_le n (i + 1) zs with h | h
      · exact .inl h
      · exact .inr (by omega)
    · exact .inr (Int.le_refl _)
theorem badL_le (ls : List Str) : badL ls = -1 ∨ 0 ≤ badL ls := by
  unfold badL
  split
  · exact .inr (by decide)
  · rcases badFrom_le (wideL ls) 0 ls with h | h
    · exact .inl h
    · exact .inr (by omega)
/-- good lines -/
structure GoodLn (ls : List Str) : Prop where
  ne : 1 ≤ ls.length
  le : ls.length ≤ 40
  w1 : 1 ≤ wideL ls
  w2 : wideL ls ≤ 40
  len : ∀ z ∈ ls, z.length = wideL ls
  sg : ∀ z ∈ ls, z.cps.toList.all sgB = true
theorem badFrom_good (n : Nat) : ∀ (i : Nat) (zs : List Str), badFrom n i zs = -1 → (∀ z ∈ zs, lineB n z = true) ∧ (zs = [] ∨ i + zs.length ≤ 40)
  | _, [], _ => ⟨fun _ h => (by cases h), .inl rfl⟩
  | i, z :: zs, h => by
    unfold badFrom at h
    split at h
    · rename_i e
      obtain ⟨e1, e2⟩ := He.ba e
      have e2 := of_decide_eq_true e2
      obtain ⟨h1, h2⟩ := badFrom_good n (i + 1) zs h
      refine ⟨fun y hy => (List.mem_cons.mp hy).elim (fun q => q ▸ e1) (h1 y), .inr ?_⟩
      rcases h2 with rfl | h2
      · rw [List.length_cons, List.length_nil]; omega
      · rw [List.length_cons]; omega
    · omega
theorem badL_good {ls : List Str} (h : badL ls = -1) : GoodLn ls := by
  cases ls with
  | nil => exact absurd h (by decide)
  | cons z zs =>
    obtain ⟨h1, h2⟩ := badFrom_good _ 0 (z :: zs) h
    have a := fun y hy => h1 y hy
    have lb : ∀ y ∈ z :: zs, 1 ≤ y.length ∧ y.length ≤ 40 ∧ y.length = wideL (z :: zs) ∧ y.cps.toList.all sgB = true := fun y hy => by
      have := h1 y hy
      unfold lineB at this
      simp only [Bool.and_eq_true, decide_eq_true_eq] at this
      exact this
    have l0 := lb z List.mem_cons_self
    refine ⟨by rw [List.length_cons]; omega, ?_, ?_, ?_, fun y hy => (lb y hy).2.2.1, fun y hy => (lb y hy).2.2.2⟩
    · rcases h2 with h2 | h2
      · cases h2
      · omega
    · show 1 ≤ z.length; exact l0.1
    · show z.length ≤ 40; exact l0.2.1
end Px
namespace Px
open PySem PySem.Spec PyProof.Rows L2
theorem sg_sum : ∀ cs : List Nat, ((cs.map sg).map (·.length)).sum = cs.length
  | [] => rfl
  | c :: cs => by
    rw [List.map_cons, List.map_cons, List.sum_cons, sg_sum cs, List.length_cons]
    show 1 + cs.length = cs.length + 1
    omega
theorem cps_len (cs : List Nat) : (⟨cs.toArray⟩ : Str).length = cs.length := by
  show cs.toArray.size = _
  simp
/-- a drawn sign -/
theorem sg_draw {r : Int} (r0 : 0 ≤ r) (r1 : r < 2) : ∃ c : Nat, atI (Str.ofString ".#").cps.toList r = some c ∧ sgB c = true := by
  have : r = 0 ∨ r = 1 := by omega
  rcases this with rfl | rfl
  · exact ⟨_, rfl, by decide +kernel⟩
  · exact ⟨_, rfl, by decide +kernel⟩
theorem rangeP_cons (lo : Int) (n : Nat) : rangeP lo (n + 1) = .int lo :: rangeP (lo + 1) n := by
  unfold rangeP
  rw [List.range_succ_eq_map, List.map_cons, List.map_map]
  congr 1
  · show PV.int (lo + 0) = _
    rw [Int.add_zero]
  · refine List.map_congr_left fun j _ => ?_
    show PV.int (lo + ((j + 1 : Nat) : Int)) = .int (lo + 1 + (j : Nat))
    congr 1
    omega
theorem sg_in (c : Nat) : inP (.str (sg c)) [.str ".", .str "#"] = sgB c := by
  have h : inP (.str (sg c)) (([".", "#"] : List Str).map PV.str) = decide (sg c ∈ ([".", "#"] : List Str)) := inP_str _ _
  refine h.trans ?_
  unfold sgB
  have e1 : (sg c = ("." : Str)) ↔ c = 46 := ⟨fun h => by
    have : (sg c).cps = (("." : Str)).cps := by rw [h]
    have h2 : #[c] = #[46] := this
    simpa using h2, fun h => by subst h; rfl⟩
  have e2 : (sg c = ("#" : Str)) ↔ c = 35 := ⟨fun h => by
    have : (sg c).cps = (("#" : Str)).cps := by rw [h]
    have h2 : #[c] = #[35] := this
    simpa using h2, fun h => by subst h; rfl⟩
  have e3 : SG.cps.toList = [35, 46] := rfl
  rw [e3]
  simp only [List.mem_cons, List.not_mem_nil, or_false, e1, e2]
  exact decide_eq_decide.mpr or_comm
theorem line_at {ls : List Str} {k : Int} (k0 : 0 ≤ k) (k1 : k < (ls.length : Nat)) : ∃ z ∈ ls, atI (ls.map PV.str) k = some (PV.str z) := by
  have hk : k.toNat < ls.length := by omega
  refine ⟨ls[k.toNat], List.getElem_mem hk, atI_ok k0 ?_⟩
  rw [List.getElem?_map, List.getElem?_eq_getElem hk]
  rfl
theorem ixN_in {n : Nat} {k : Int} (k0 : 0 ≤ k) (k1 : k < (n : Nat)) : ixN n k = some k.toNat := by
  unfold ixN
  rw [if_pos k0, if_pos k1]
theorem map_setS (ls : List Str) (j : Nat) (y : Str) : (ls.map PV.str).set j (.str y) = (ls.set j y).map .str := (List.map_set ..).symm
theorem set_lens {ls : List Str} {n j : Nat} {y : Str} (h : ∀ z ∈ ls, z.length ≤ n) (hy : y.length ≤ n) : ∀ z ∈ ls.set j y, z.length ≤ n := fun z hz => by
  rcases List.mem_or_eq_of_mem_set hz with q | rfl
  · exact h z q
  · exact hy
theorem sgn_at (z : Str) {k : Int} (k0 : 0 ≤ k) (k1 : k < (z.cps.toList.length : Nat)) : ∃ c, atI z.cps.toList k = some c := by
  have hk : k.toNat < z.cps.toList.length := by omega
  obtain ⟨j, rfl⟩ := Int.eq_ofNat_of_zero_le k0
  exact ⟨_, atI_nat (List.getElem?_eq_getElem hk)⟩
theorem setIx_line {μ : Mu} {a : Addr} {k : Int} {ls : List Str} {p : Str} {q : Mu → Prop} (hm : μ a = some (.lst (ls.map .str))) (k0 : 0 ≤ k) (k1 : k < (ls.length : Nat)) (h : q (μ.put a (.lst ((ls.set k.toNat p).map .str)))) : setIx (.cell a) (.int k) (.str p) μ q := by
  unfold setIx
  have e : ixN (ls.map PV.str).length k = some k.toNat := by rw [List.length_map]; exact ixN_in k0 k1
  simp only [hm, e, map_setS]
  exact h
end Px
namespace Px
open PySem PySem.Spec PyProof.Rows L2
/-! ## places -/
def isH (c : Nat) : Bool := decide ((⟨#[c]⟩ : Str) = Str.ofString "#")
def cntH (cs : List Nat) : Int := (cs.map fun c => if isH c then (1 : Int) else 0).sum
def areaL (ls : List Str) : Int := (ls.map fun z => cntH z.cps.toList).sum
theorem isH_iff (c : Nat) : isH c = true ↔ c = 35 := by
  unfold isH
  rw [decide_eq_true_iff]
  exact ⟨fun h => by
    have h2 : #[c] = #[35] := congrArg Str.cps h
    simpa using h2, fun h => by subst h; rfl⟩
theorem cnt_H (z : Str) : Txt.count z (Str.ofString "#") = cntH z.cps.toList := by
  refine (count_cnt z 35).trans ?_
  generalize z.cps.toList = cs
  induction cs with
  | nil => rfl
  | cons c cs ih =>
    rw [cnt_cons, ih]
    unfold cntH
    rw [List.map_cons, List.sum_cons]
    congr 1
    by_cases e : c = 35
    · rw [if_pos e, if_pos ((isH_iff c).mpr e)]
    · rw [if_neg e, if_neg fun h => e ((isH_iff c).mp h)]
def signB (ls : List Str) (x y : Int) : Bool := match ls[y.toNat]? with
  | some z => (match z.cps.toList[x.toNat]? with
    | some c => isH c
    | none => false)
  | none => false
def openB (ls : List Str) (x y : Int) : Bool := decide (0 ≤ x ∧ x < (wideL ls : Nat)) && (decide (0 ≤ y ∧ y < (ls.length : Nat)) && signB ls x y)
/-- a line and its sign at a place -/
theorem sign_at {ls : List Str} (g : GoodLn ls) {x y : Int} (x0 : 0 ≤ x) (x1 : x < (wideL ls : Nat)) (y0 : 0 ≤ y) (y1 : y < (ls.length : Nat)) : ∃ z c, z ∈ ls ∧ atI (ls.map PV.str) y = some (PV.str z) ∧ atI z.cps.toList x = some c ∧ signB ls x y = isH c := by
  have hy : y.toNat < ls.length := by omega
  have hz := List.getElem_mem hy
  have lz := g.len _ hz
  have e : ls[y.toNat].length = ls[y.toNat].cps.toList.length := by rw [Array.length_toList]; rfl
  have hx : x.toNat < ls[y.toNat].cps.toList.length := by omega
  refine ⟨ls[y.toNat], ls[y.toNat].cps.toList[x.toNat], hz, atI_ok y0 ?_, ?_, ?_⟩
  · rw [List.getElem?_map, List.getElem?_eq_getElem hy]
    rfl
  · obtain ⟨j, rfl⟩ := Int.eq_ofNat_of_zero_le x0
    exact atI_nat (List.getElem?_eq_getElem hx)
  · unfold signB
    rw [List.getElem?_eq_getElem hy]
    simp only
    rw [List.getElem?_eq_getElem hx]
theorem open_is {ls : List Str} (g : GoodLn ls) {x y : Int} (x0 : 0 ≤ x) (x1 : x < (wideL ls : Nat)) (y0 : 0 ≤ y) (y1 : y < (ls.length : Nat)) {z : Str} {c : Nat} (a1 : atI (ls.map PV.str) y = some (.str z)) (a2 : atI z.cps.toList x = some c) : openB ls x y = isH c := by
  obtain ⟨z', c', hz, b1, b2, e⟩ := sign_at g x0 x1 y0 y1
  rw [a1] at b1
  cases b1
  rw [a2] at b2
  cases b2
  unfold openB
  rw [decide_eq_true ⟨x0, x1⟩, decide_eq_true ⟨y0, y1⟩, Bool.true_and, Bool.true_and, e]
theorem head_at {ls : List Str} (g : GoodLn ls) : ∃ l0, l0.length = wideL ls ∧ atI (ls.map PV.str) 0 = some (.str l0) := by
  cases ls with
  | nil => exact absurd g.ne (by decide)
  | cons a b => exact ⟨a, rfl, atI_nat (j := 0) rfl⟩
end Px

namespace Px
open PySem PySem.Spec PyProof.Rows L2
/-! ### _law_lines -/
def t__law_lines_0 : ZB := bOne (sRet (zNew (zComp (.one 4) [4] (iRg1 (zVar 2)) tsNil (zJoin (zStr "") (zLst (zComp (.one 3) [3] (iRg1 (zVar 1)) tsNil (zIdx (zStr ".#") (zCall 48 (zCons (zVar 0) (zCons (zInt 2) zNil))))))))))
def c__law_lines : Ct := fun as μ q _ => match as with
  | [.box, .int w, .int h] => 0 ≤ w ∧ w ≤ 50 ∧ 0 ≤ h ∧ h ≤ 50 ∧ ∀ ls : List Str, (ls.length : Int) = h → (∀ z ∈ ls, (z.length : Int) = w ∧ z.cps.toList.all sgB = true) → ∀ a, μ a = none → q (.cell a) (μ.put a (.lst (ls.map .str)))
  | _ => False
theorem len__law_lines : ∀ as μ q z, c__law_lines as μ q z → as.length = 3 := fun as μ q z h => by
  unfold c__law_lines at h
  split at h <;> first | rfl | exact h.elim
def L__law_lines : Tbl := [(.g 48 [], cDraw)]
def H__law_lines : Tbl := []
def Q__law_lines : Qt := []
def R__law_lines : Rt := { L := L__law_lines, LH := H__law_lines, Q := Q__law_lines }
theorem pure__law_lines : ∀ as μ q z, c__law_lines as μ q z → t__law_lines_0.d R__law_lines (endsOf q z) (startE 5 as) μ := fun as μ q z h => by
  unfold c__law_lines at h
  split at h
  · rename_i w h0
    obtain ⟨w0, w1, h0', h1, h⟩ := h
    (conv => whnf); (repeat (first | (refine brT rfl ?_; (conv => whnf)) | (refine brF rfl ?_; (conv => whnf)) | (refine And.intro rfl ?_; (conv => whnf)) | (refine And.intro (Nat.le_of_ble_eq_true rfl) ?_; (conv => whnf)) | (refine And.intro (by assumption) ?_; (conv => whnf)) | (refine And.intro (by decide) ?_; (conv => whnf)) | (refine br_nself ?_; (conv => whnf)) | (refine br_self ?_; (conv => whnf)) | (refine brT (decide_eq_true (by assumption)) ?_; (conv => whnf)) | (refine brT (by assumption) ?_; (conv => whnf)) | (refine brF (by assumption) ?_; (conv => whnf))))
    refine ⟨by omega, by omega, ?_⟩
    refine ⟨by rw [rangeP_len, sizeLine_eq]; omega, ?_⟩
    refine lcAny1 (PV.str) (fun z : Str => (z.length : Int) = w ∧ z.cps.toList.all sgB = true) (rangeP 0 h0.toNat) [] (fun y _ k hk => ?_) (fun l hl hP a ha => ?_)
    · (conv => whnf); (repeat (first | (refine brT rfl ?_; (conv => whnf)) | (refine brF rfl ?_; (conv => whnf)) | (refine And.intro rfl ?_; (conv => whnf)) | (refine And.intro (Nat.le_of_ble_eq_true rfl) ?_; (conv => whnf)) | (refine And.intro (by assumption) ?_; (conv => whnf)) | (refine And.intro (by decide) ?_; (conv => whnf)) | (refine br_nself ?_; (conv => whnf)) | (refine br_self ?_; (conv => whnf)) | (refine brT (decide_eq_true (by assumption)) ?_; (conv => whnf)) | (refine brT (by assumption) ?_; (conv => whnf)) | (refine brF (by assumption) ?_; (conv => whnf))))
      refine ⟨by omega, by omega, ?_⟩
      refine ⟨by rw [rangeP_len, sizeLine_eq]; omega, ?_⟩
      refine lcAny1 (fun c : Nat => .str (sg c)) (fun c : Nat => sgB c = true) (rangeP 0 w.toNat) [] (fun y _ k hk => ?_) (fun l hl hP => ?_)
      · (conv => whnf); (repeat (first | (refine brT rfl ?_; (conv => whnf)) | (refine brF rfl ?_; (conv => whnf)) | (refine And.intro rfl ?_; (conv => whnf)) | (refine And.intro (Nat.le_of_ble_eq_true rfl) ?_; (conv => whnf)) | (refine And.intro (by assumption) ?_; (conv => whnf)) | (refine And.intro (by decide) ?_; (conv => whnf)) | (refine br_nself ?_; (conv => whnf)) | (refine br_self ?_; (conv => whnf)) | (refine brT (decide_eq_true (by assumption)) ?_; (conv => whnf)) | (refine brT (by assumption) ?_; (conv => whnf)) | (refine brF (by assumption) ?_; (conv => whnf))))
        refine draw_of (by omega) (by omega) fun r r0 r1 => ?_
        obtain ⟨c, e, hc⟩ := sg_draw r0 r1
        (conv => whnf); (repeat (first | (refine brT rfl ?_; (conv => whnf)) | (refine brF rfl ?_; (conv => whnf)) | (refine And.intro rfl ?_; (conv => whnf)) | (refine And.intro (Nat.le_of_ble_eq_true rfl) ?_; (conv => whnf)) | (refine And.intro (by assumption) ?_; (conv => whnf)) | (refine And.intro (by decide) ?_; (conv => whnf)) | (refine br_nself ?_; (conv => whnf)) | (refine br_self ?_; (conv => whnf)) | (refine brT (decide_eq_true (by assumption)) ?_; (conv => whnf)) | (refine brT (by assumption) ?_; (conv => whnf)) | (refine brF (by assumption) ?_; (conv => whnf))))
        rw [e]
        exact hk c hc
      · rw [rangeP_len] at hl
        (conv => whnf); (repeat (first | (refine brT rfl ?_; (conv => whnf)) | (refine brF rfl ?_; (conv => whnf)) | (refine And.intro rfl ?_; (conv => whnf)) | (refine And.intro (Nat.le_of_ble_eq_true rfl) ?_; (conv => whnf)) | (refine And.intro (by assumption) ?_; (conv => whnf)) | (refine And.intro (by decide) ?_; (conv => whnf)) | (refine br_nself ?_; (conv => whnf)) | (refine br_self ?_; (conv => whnf)) | (refine brT (decide_eq_true (by assumption)) ?_; (conv => whnf)) | (refine brT (by assumption) ?_; (conv => whnf)) | (refine brF (by assumption) ?_; (conv => whnf))))
        refine ⟨l.map sg, by rw [List.nil_append, List.map_map] <;> rfl, ?_, ?_⟩
        · rw [sg_sum]
          have : (Str.ofString "").length = 0 := rfl
          rw [this]
          omega
        · rw [join_sg]
          refine hk _ ⟨?_, ?_⟩
          · rw [cps_len]; omega
          · show l.toArray.toList.all sgB = true
            rw [List.all_eq_true]
            intro c hc
            exact hP c (by simpa using hc)
    · rw [rangeP_len] at hl
      exact h l (by omega) hP a ha
  · exact h.elim
end Px

namespace Px
open PySem PySem.Spec PyProof.Rows L2
/-! ### first_bad_line -/
def f_first_bad_line_0 : ZB := (bCons (sIf (tOr [(tNot (tChain .LtE .LtE (zInt 1) (zBlt .len (zCons (zVar 2) zNil)) (zGc "MOST_PLACES" (.int 40)))), (tCmp .NotEq (zBlt .len (zCons (zVar 2) zNil)) (zBlt .len (zCons (zIdx (zVar 0) (zInt 0)) zNil))), (tCmp .GtE (zVar 1) (zGc "MOST_PLACES" (.int 40)))]) (bOne (sRet (zVar 1))) bNil)
  (bOne (sIf (tTr (zBlt .any (zCons (zLst (zComp (.one 3) [3] (iSt (zVar 2)) tsNil (zCmp .NotIn (zVar 3) (zStr "#.")))) zNil))) (bOne (sRet (zVar 1))) bNil)))
def t_first_bad_line_2 : ZB := bOne (sRet (zNeg (zInt 1)))
def t_first_bad_line_1 : ZB := bCons (sFor (.many [1, 2]) (iEnu (zVar 0)) f_first_bad_line_0) t_first_bad_line_2
def t_first_bad_line_0 : ZB := bCons (sIf (tCmp .Eq (zBlt .len (zCons (zVar 0) zNil)) (zInt 0)) (bOne (sRet (zInt 0))) bNil) t_first_bad_line_1
def c_first_bad_line : Ct := fun as μ q _ => match as with
  | [.tup xs] => ∃ ls : List Str, xs = ls.map .str ∧ ls.length ≤ 1000 ∧ (∀ z ∈ ls, z.length ≤ 1000) ∧ q (.int (badL ls)) μ
  | _ => False
theorem len_first_bad_line : ∀ as μ q z, c_first_bad_line as μ q z → as.length = 1 := fun as μ q z h => by
  unfold c_first_bad_line at h
  split at h <;> first | rfl | exact h.elim
def L_first_bad_line : Tbl := []
def H_first_bad_line : Tbl := []
def Q_first_bad_line : Qt := []
def R_first_bad_line : Rt := { L := L_first_bad_line, LH := H_first_bad_line, Q := Q_first_bad_line }
theorem fbl_loop {P : DEn} {l0 : Str} {ls0 : List Str} {μ : Mu} (h0 : l0.length ≤ 1000) (hl0 : (l0 :: ls0).length ≤ 1000) : ∀ (i : Nat) (zs : List Str) (s1 s2 : Option PV), (∀ z ∈ zs, z.length ≤ 1000) → (badFrom l0.length i zs = -1 → ∀ s1 s2, P.nx [some (.tup ((l0 :: ls0).map .str)), s1, s2, none] μ) → (badFrom l0.length i zs ≠ -1 → P.rt (.int (badFrom l0.length i zs)) μ) →
    Lk (forD (.many [1, 2]) (f_first_bad_line_0.d R_first_bad_line) (enumP i (zs.map .str)) P [some (.tup ((l0 :: ls0).map .str)), s1, s2, none] μ)
  | i, [], s1, s2, hz, h1, h2 => forD_n rfl (h1 rfl s1 s2)
  | i, z :: zs, s1, s2, hz, h1, h2 => by
    have ih := fbl_loop (P := P) (ls0 := ls0) (μ := μ) h0 hl0 (i + 1) zs (some (.int (i : Nat))) (some (.str z)) fun y hy => hz y (List.mem_cons_of_mem _ hy)
    have lz := hz z List.mem_cons_self
    refine forD_c rfl ?_
    refine ⟨rfl, ?_⟩
    have bad : ¬ ((lineB l0.length z && decide (i < 40)) = true) → P.rt (.int (i : Nat)) μ := fun e => by
      unfold badFrom at h2
      rw [if_neg e] at h2
      exact h2 (by omega)
    have good : (lineB l0.length z && decide (i < 40)) = true → Lk (forD (.many [1, 2]) (f_first_bad_line_0.d R_first_bad_line) (enumP (i + 1) (zs.map .str)) P [some (.tup ((l0 :: ls0).map .str)), some (.int (i : Nat)), some (.str z), none] μ) := fun e => by
      unfold badFrom at h1 h2
      rw [if_pos e] at h1 h2
      exact ih h1 h2
    clear h1 h2 ih
    generalize hF : f_first_bad_line_0.d R_first_bad_line = F at good ⊢
    rw [← hF]
    have lzs : z.length ≤ sizeLine := by rw [sizeLine_eq]; omega
    have l0s : l0.length ≤ sizeLine := by rw [sizeLine_eq]; omega
    (conv => whnf); (repeat (first | (refine brT rfl ?_; (conv => whnf)) | (refine brF rfl ?_; (conv => whnf)) | (refine And.intro rfl ?_; (conv => whnf)) | (refine And.intro (Nat.le_of_ble_eq_true rfl) ?_; (conv => whnf)) | (refine And.intro (by assumption) ?_; (conv => whnf)) | (refine And.intro (by decide) ?_; (conv => whnf)) | (refine br_nself ?_; (conv => whnf)) | (refine br_self ?_; (conv => whnf)) | (refine brT (decide_eq_true (by assumption)) ?_; (conv => whnf)) | (refine brT (by assumption) ?_; (conv => whnf)) | (refine brF (by assumption) ?_; (conv => whnf))))
    refine brD (fun e1 => ?_) fun e1 => ?_
    · (conv => whnf); (repeat (first | (refine brT rfl ?_; (conv => whnf)) | (refine brF rfl ?_; (conv => whnf)) | (refine And.intro rfl ?_; (conv => whnf)) | (refine And.intro (Nat.le_of_ble_eq_true rfl) ?_; (conv => whnf)) | (refine And.intro (by assumption) ?_; (conv => whnf)) | (refine And.intro (by decide) ?_; (conv => whnf)) | (refine br_nself ?_; (conv => whnf)) | (refine br_self ?_; (conv => whnf)) | (refine brT (decide_eq_true (by assumption)) ?_; (conv => whnf)) | (refine brT (by assumption) ?_; (conv => whnf)) | (refine brF (by assumption) ?_; (conv => whnf))))
      by_cases e2 : (z.length : Int) ≤ 40
      · refine brF (by rw [decide_eq_true e2]; rfl) ?_
        (conv => whnf); (repeat (first | (refine brT rfl ?_; (conv => whnf)) | (refine brF rfl ?_; (conv => whnf)) | (refine And.intro rfl ?_; (conv => whnf)) | (refine And.intro (Nat.le_of_ble_eq_true rfl) ?_; (conv => whnf)) | (refine And.intro (by assumption) ?_; (conv => whnf)) | (refine And.intro (by decide) ?_; (conv => whnf)) | (refine br_nself ?_; (conv => whnf)) | (refine br_self ?_; (conv => whnf)) | (refine brT (decide_eq_true (by assumption)) ?_; (conv => whnf)) | (refine brT (by assumption) ?_; (conv => whnf)) | (refine brF (by assumption) ?_; (conv => whnf))))
        rw [show atI (List.map PV.str (l0 :: ls0)) 0 = some (.str l0) from atI_nat (j := 0) rfl]
        (conv => whnf); (repeat (first | (refine brT rfl ?_; (conv => whnf)) | (refine brF rfl ?_; (conv => whnf)) | (refine And.intro rfl ?_; (conv => whnf)) | (refine And.intro (Nat.le_of_ble_eq_true rfl) ?_; (conv => whnf)) | (refine And.intro (by assumption) ?_; (conv => whnf)) | (refine And.intro (by decide) ?_; (conv => whnf)) | (refine br_nself ?_; (conv => whnf)) | (refine br_self ?_; (conv => whnf)) | (refine brT (decide_eq_true (by assumption)) ?_; (conv => whnf)) | (refine brT (by assumption) ?_; (conv => whnf)) | (refine brF (by assumption) ?_; (conv => whnf))))
        refine brN (fun e3 => ?_) fun e3 => ?_
        · (conv => whnf); (repeat (first | (refine brT rfl ?_; (conv => whnf)) | (refine brF rfl ?_; (conv => whnf)) | (refine And.intro rfl ?_; (conv => whnf)) | (refine And.intro (Nat.le_of_ble_eq_true rfl) ?_; (conv => whnf)) | (refine And.intro (by assumption) ?_; (conv => whnf)) | (refine And.intro (by decide) ?_; (conv => whnf)) | (refine br_nself ?_; (conv => whnf)) | (refine br_self ?_; (conv => whnf)) | (refine brT (decide_eq_true (by assumption)) ?_; (conv => whnf)) | (refine brT (by assumption) ?_; (conv => whnf)) | (refine brF (by assumption) ?_; (conv => whnf))))
          exact bad (fun q => by simp [lineB] at q; omega)
        · (conv => whnf); (repeat (first | (refine brT rfl ?_; (conv => whnf)) | (refine brF rfl ?_; (conv => whnf)) | (refine And.intro rfl ?_; (conv => whnf)) | (refine And.intro (Nat.le_of_ble_eq_true rfl) ?_; (conv => whnf)) | (refine And.intro (by assumption) ?_; (conv => whnf)) | (refine And.intro (by decide) ?_; (conv => whnf)) | (refine br_nself ?_; (conv => whnf)) | (refine br_self ?_; (conv => whnf)) | (refine brT (decide_eq_true (by assumption)) ?_; (conv => whnf)) | (refine brT (by assumption) ?_; (conv => whnf)) | (refine brF (by assumption) ?_; (conv => whnf))))
          refine brD (fun e4 => ?_) fun e4 => ?_
          · (conv => whnf); (repeat (first | (refine brT rfl ?_; (conv => whnf)) | (refine brF rfl ?_; (conv => whnf)) | (refine And.intro rfl ?_; (conv => whnf)) | (refine And.intro (Nat.le_of_ble_eq_true rfl) ?_; (conv => whnf)) | (refine And.intro (by assumption) ?_; (conv => whnf)) | (refine And.intro (by decide) ?_; (conv => whnf)) | (refine br_nself ?_; (conv => whnf)) | (refine br_self ?_; (conv => whnf)) | (refine brT (decide_eq_true (by assumption)) ?_; (conv => whnf)) | (refine brT (by assumption) ?_; (conv => whnf)) | (refine brF (by assumption) ?_; (conv => whnf))))
            exact bad (fun q => by simp at q; omega)
          · (conv => whnf); (repeat (first | (refine brT rfl ?_; (conv => whnf)) | (refine brF rfl ?_; (conv => whnf)) | (refine And.intro rfl ?_; (conv => whnf)) | (refine And.intro (Nat.le_of_ble_eq_true rfl) ?_; (conv => whnf)) | (refine And.intro (by assumption) ?_; (conv => whnf)) | (refine And.intro (by decide) ?_; (conv => whnf)) | (refine br_nself ?_; (conv => whnf)) | (refine br_self ?_; (conv => whnf)) | (refine brT (decide_eq_true (by assumption)) ?_; (conv => whnf)) | (refine brT (by assumption) ?_; (conv => whnf)) | (refine brF (by assumption) ?_; (conv => whnf))))
            have ls : (sgnsP z).length = z.length := by
              unfold sgnsP
              rw [List.length_map, Array.length_toList]
              rfl
            refine ⟨by rw [ls, sizeLine_eq]; omega, ?_⟩
            refine lcM1 (fun c : Nat => .str ⟨#[c]⟩) (fun c => .bl (!sgB c)) z.cps.toList [] (fun c hc k hk => ?_) ?_
            · (conv => whnf); (repeat (first | (refine brT rfl ?_; (conv => whnf)) | (refine brF rfl ?_; (conv => whnf)) | (refine And.intro rfl ?_; (conv => whnf)) | (refine And.intro (Nat.le_of_ble_eq_true rfl) ?_; (conv => whnf)) | (refine And.intro (by assumption) ?_; (conv => whnf)) | (refine And.intro (by decide) ?_; (conv => whnf)) | (refine br_nself ?_; (conv => whnf)) | (refine br_self ?_; (conv => whnf)) | (refine brT (decide_eq_true (by assumption)) ?_; (conv => whnf)) | (refine brT (by assumption) ?_; (conv => whnf)) | (refine brF (by assumption) ?_; (conv => whnf))))
              exact hk
            · (conv => whnf); (repeat (first | (refine brT rfl ?_; (conv => whnf)) | (refine brF rfl ?_; (conv => whnf)) | (refine And.intro rfl ?_; (conv => whnf)) | (refine And.intro (Nat.le_of_ble_eq_true rfl) ?_; (conv => whnf)) | (refine And.intro (by assumption) ?_; (conv => whnf)) | (refine And.intro (by decide) ?_; (conv => whnf)) | (refine br_nself ?_; (conv => whnf)) | (refine br_self ?_; (conv => whnf)) | (refine brT (decide_eq_true (by assumption)) ?_; (conv => whnf)) | (refine brT (by assumption) ?_; (conv => whnf)) | (refine brF (by assumption) ?_; (conv => whnf))))
              refine ⟨z.cps.toList.map (fun c => !sgB c), by rw [List.nil_append, List.map_map] <;> rfl, ?_⟩
              have an : (z.cps.toList.map (fun c => !sgB c)).any (fun b => b) = !z.cps.toList.all sgB := by
                rw [List.any_map]
                rw [List.all_eq_not_any_not, Bool.not_not]
                rfl
              rw [an]
              cases e5 : z.cps.toList.all sgB
              · (conv => whnf); (repeat (first | (refine brT rfl ?_; (conv => whnf)) | (refine brF rfl ?_; (conv => whnf)) | (refine And.intro rfl ?_; (conv => whnf)) | (refine And.intro (Nat.le_of_ble_eq_true rfl) ?_; (conv => whnf)) | (refine And.intro (by assumption) ?_; (conv => whnf)) | (refine And.intro (by decide) ?_; (conv => whnf)) | (refine br_nself ?_; (conv => whnf)) | (refine br_self ?_; (conv => whnf)) | (refine brT (decide_eq_true (by assumption)) ?_; (conv => whnf)) | (refine brT (by assumption) ?_; (conv => whnf)) | (refine brF (by assumption) ?_; (conv => whnf))))
                exact bad (fun q => by simp [lineB, e5] at q)
              · (conv => whnf); (repeat (first | (refine brT rfl ?_; (conv => whnf)) | (refine brF rfl ?_; (conv => whnf)) | (refine And.intro rfl ?_; (conv => whnf)) | (refine And.intro (Nat.le_of_ble_eq_true rfl) ?_; (conv => whnf)) | (refine And.intro (by assumption) ?_; (conv => whnf)) | (refine And.intro (by decide) ?_; (conv => whnf)) | (refine br_nself ?_; (conv => whnf)) | (refine br_self ?_; (conv => whnf)) | (refine brT (decide_eq_true (by assumption)) ?_; (conv => whnf)) | (refine brT (by assumption) ?_; (conv => whnf)) | (refine brF (by assumption) ?_; (conv => whnf))))
                rw [hF]
                exact good (by
                  simp only [lineB, e5, Bool.and_eq_true, decide_eq_true_eq]
                  refine ⟨⟨?_, ?_, ?_, ?_⟩, ?_⟩ <;> first | trivial | rfl | omega)
      · refine brT (by rw [decide_eq_false e2]; rfl) ?_
        (conv => whnf); (repeat (first | (refine brT rfl ?_; (conv => whnf)) | (refine brF rfl ?_; (conv => whnf)) | (refine And.intro rfl ?_; (conv => whnf)) | (refine And.intro (Nat.le_of_ble_eq_true rfl) ?_; (conv => whnf)) | (refine And.intro (by assumption) ?_; (conv => whnf)) | (refine And.intro (by decide) ?_; (conv => whnf)) | (refine br_nself ?_; (conv => whnf)) | (refine br_self ?_; (conv => whnf)) | (refine brT (decide_eq_true (by assumption)) ?_; (conv => whnf)) | (refine brT (by assumption) ?_; (conv => whnf)) | (refine brF (by assumption) ?_; (conv => whnf))))
        exact bad (fun q => by simp [lineB] at q; omega)
    · (conv => whnf); (repeat (first | (refine brT rfl ?_; (conv => whnf)) | (refine brF rfl ?_; (conv => whnf)) | (refine And.intro rfl ?_; (conv => whnf)) | (refine And.intro (Nat.le_of_ble_eq_true rfl) ?_; (conv => whnf)) | (refine And.intro (by assumption) ?_; (conv => whnf)) | (refine And.intro (by decide) ?_; (conv => whnf)) | (refine br_nself ?_; (conv => whnf)) | (refine br_self ?_; (conv => whnf)) | (refine brT (decide_eq_true (by assumption)) ?_; (conv => whnf)) | (refine brT (by assumption) ?_; (conv => whnf)) | (refine brF (by assumption) ?_; (conv => whnf))))
      exact bad (fun q => by simp [lineB] at q; omega)
theorem pure_first_bad_line : ∀ as μ q z, c_first_bad_line as μ q z → t_first_bad_line_0.d R_first_bad_line (endsOf q z) (startE 4 as) μ := fun as μ q z h => by
  unfold c_first_bad_line at h
  split at h
  · obtain ⟨ls, rfl, hl, hz, h⟩ := h
    match ls, hl, hz, h with
    | [], hl, hz, h =>
      (conv => whnf); (repeat (first | (refine brT rfl ?_; (conv => whnf)) | (refine brF rfl ?_; (conv => whnf)) | (refine And.intro rfl ?_; (conv => whnf)) | (refine And.intro (Nat.le_of_ble_eq_true rfl) ?_; (conv => whnf)) | (refine And.intro (by assumption) ?_; (conv => whnf)) | (refine And.intro (by decide) ?_; (conv => whnf))))
      exact h
    | l0 :: ls, hl, hz, h =>
      (conv => whnf); (repeat (first | (refine brT rfl ?_; (conv => whnf)) | (refine brF rfl ?_; (conv => whnf)) | (refine And.intro rfl ?_; (conv => whnf)) | (refine And.intro (Nat.le_of_ble_eq_true rfl) ?_; (conv => whnf)) | (refine And.intro (by assumption) ?_; (conv => whnf)) | (refine And.intro (by decide) ?_; (conv => whnf))))
      refine fbl_loop (hz _ List.mem_cons_self) hl 0 (l0 :: ls) none none hz (fun e s1 s2 => ?_) fun e => ?_
      · (conv => whnf); (repeat (first | (refine brT rfl ?_; (conv => whnf)) | (refine brF rfl ?_; (conv => whnf)) | (refine And.intro rfl ?_; (conv => whnf)) | (refine And.intro (Nat.le_of_ble_eq_true rfl) ?_; (conv => whnf)) | (refine And.intro (by assumption) ?_; (conv => whnf)) | (refine And.intro (by decide) ?_; (conv => whnf)) | (refine br_nself ?_; (conv => whnf)) | (refine br_self ?_; (conv => whnf)) | (refine brT (decide_eq_true (by assumption)) ?_; (conv => whnf)) | (refine brT (by assumption) ?_; (conv => whnf)) | (refine brF (by assumption) ?_; (conv => whnf))))
        rw [show badL (l0 :: ls) = -1 from e] at h
        exact h
      · exact h
  · exact h.elim
end Px

namespace Px
open PySem PySem.Spec PyProof.Rows L2
/-! ### Shape___init__ -/
def t_Shape___init___4 : ZB := bOne (sAttr "height" (zVar 0) (zBlt .len (zCons (zVar 1) zNil)))
def t_Shape___init___3 : ZB := bCons (sAttr "width" (zVar 0) (zBlt .len (zCons (zIdx (zVar 1) (zInt 0)) zNil))) t_Shape___init___4
def t_Shape___init___2 : ZB := bCons (sAttr "lines" (zVar 0) (zVar 1)) t_Shape___init___3
def t_Shape___init___1 : ZB := bCons (sIf (tCmp .GtE (zVar 2) (zInt 0)) (bOne (sRaise .InvalidShape "line" (zCons (zVar 2) zNil))) bNil) t_Shape___init___2
def t_Shape___init___0 : ZB := bCons (sSet 2 (zCall 257 (zCons (zVar 1) zNil))) t_Shape___init___1
def kShape : Kc := fun c ps A B => match c, ps with
  | .Shape, [.tup xs] => ∃ ls : List Str, xs = ls.map .str ∧ ls.length ≤ 1000 ∧ (∀ z ∈ ls, z.length ≤ 1000) ∧ br (decide (0 ≤ badL ls)) (B (.InvalidShape, [.int (badL ls)])) (A [.tup (ls.map .str), .int (wideL ls : Nat), .int (ls.length : Nat)])
  | _, _ => False
abbrev c_Shape___init__ : Ct := initK kShape
theorem mono_Shape : Mono kShape := fun c ps A A' B B' h1 h2 h => by
  unfold kShape at h ⊢
  split at h
  · obtain ⟨ls, e, hl, hz, h⟩ := h
    exact ⟨ls, e, hl, hz, br_mono h (h2 _) (h1 _)⟩
  · exact h.elim
def k_Shape : Ct := fun ps μ q x => ps.length ≤ sizeLine ∧ mkK .Shape kShape [.tup ps] μ q x
theorem kc_Shape : MkC true .Shape (starC 1 c_Shape___init__) k_Shape := (mkK_star mono_Shape).imp fun ps μ q x h => h
def L_Shape___init__ : Tbl := [(.g 257 [], c_first_bad_line)]
def H_Shape___init__ : Tbl := []
def Q_Shape___init__ : Qt := []
def R_Shape___init__ : Rt := { L := L_Shape___init__, LH := H_Shape___init__, Q := Q_Shape___init__ }
theorem pure_Shape___init__ : ∀ as μ q z, c_Shape___init__ as μ q z → t_Shape___init___0.d R_Shape___init__ (endsOf q z) (startE 3 as) μ := by
  rintro as μ q z ⟨y, c, ps, rfl, ey, h⟩
  unfold kShape at h
  split at h
  · obtain ⟨ls, rfl, hl, hz, h⟩ := h
    (conv => whnf); (repeat (first | (refine brT rfl ?_; (conv => whnf)) | (refine brF rfl ?_; (conv => whnf)) | (refine And.intro rfl ?_; (conv => whnf)) | (refine And.intro (Nat.le_of_ble_eq_true rfl) ?_; (conv => whnf)) | (refine And.intro (by assumption) ?_; (conv => whnf)) | (refine And.intro (by decide) ?_; (conv => whnf)) | (refine br_nself ?_; (conv => whnf)) | (refine br_self ?_; (conv => whnf)) | (refine brT (decide_eq_true (by assumption)) ?_; (conv => whnf)) | (refine brT (by assumption) ?_; (conv => whnf)) | (refine brF (by assumption) ?_; (conv => whnf))))
    refine ⟨ls, rfl, hl, hz, ?_⟩
    (conv => whnf); (repeat (first | (refine brT rfl ?_; (conv => whnf)) | (refine brF rfl ?_; (conv => whnf)) | (refine And.intro rfl ?_; (conv => whnf)) | (refine And.intro (Nat.le_of_ble_eq_true rfl) ?_; (conv => whnf)) | (refine And.intro (by assumption) ?_; (conv => whnf)) | (refine And.intro (by decide) ?_; (conv => whnf)) | (refine br_nself ?_; (conv => whnf)) | (refine br_self ?_; (conv => whnf)) | (refine brT (decide_eq_true (by assumption)) ?_; (conv => whnf)) | (refine brT (by assumption) ?_; (conv => whnf)) | (refine brF (by assumption) ?_; (conv => whnf))))
    refine brD (fun e => ?_) fun e => ?_
    · have h := brE_t (decide_eq_true e) h
      (conv => whnf); (repeat (first | (refine brT rfl ?_; (conv => whnf)) | (refine brF rfl ?_; (conv => whnf)) | (refine And.intro rfl ?_; (conv => whnf)) | (refine And.intro (Nat.le_of_ble_eq_true rfl) ?_; (conv => whnf)) | (refine And.intro (by assumption) ?_; (conv => whnf)) | (refine And.intro (by decide) ?_; (conv => whnf)) | (refine br_nself ?_; (conv => whnf)) | (refine br_self ?_; (conv => whnf)) | (refine brT (decide_eq_true (by assumption)) ?_; (conv => whnf)) | (refine brT (by assumption) ?_; (conv => whnf)) | (refine brF (by assumption) ?_; (conv => whnf))))
      exact h
    · have h := brE_f (decide_eq_false e) h
      have gd : GoodLn ls := badL_good ((badL_le ls).resolve_right e)
      match ls, hl, hz, h, gd with
      | [], hl, hz, h, gd =>
        have := gd.ne
        cases this
      | l0 :: ls, hl, hz, h, gd =>
      have l0s : l0.length ≤ sizeLine := by rw [sizeLine_eq]; have := hz l0 List.mem_cons_self; omega
      (conv => whnf); (repeat (first | (refine brT rfl ?_; (conv => whnf)) | (refine brF rfl ?_; (conv => whnf)) | (refine And.intro rfl ?_; (conv => whnf)) | (refine And.intro (Nat.le_of_ble_eq_true rfl) ?_; (conv => whnf)) | (refine And.intro (by assumption) ?_; (conv => whnf)) | (refine And.intro (by decide) ?_; (conv => whnf)) | (refine br_nself ?_; (conv => whnf)) | (refine br_self ?_; (conv => whnf)) | (refine brT (decide_eq_true (by assumption)) ?_; (conv => whnf)) | (refine brT (by assumption) ?_; (conv => whnf)) | (refine brF (by assumption) ?_; (conv => whnf))))
      rw [ey]
      (conv => whnf); (repeat (first | (refine brT rfl ?_; (conv => whnf)) | (refine brF rfl ?_; (conv => whnf)) | (refine And.intro rfl ?_; (conv => whnf)) | (refine And.intro (Nat.le_of_ble_eq_true rfl) ?_; (conv => whnf)) | (refine And.intro (by assumption) ?_; (conv => whnf)) | (refine And.intro (by decide) ?_; (conv => whnf)) | (refine br_nself ?_; (conv => whnf)) | (refine br_self ?_; (conv => whnf)) | (refine brT (decide_eq_true (by assumption)) ?_; (conv => whnf)) | (refine brT (by assumption) ?_; (conv => whnf)) | (refine brF (by assumption) ?_; (conv => whnf))))
      rw [show atI (List.map PV.str (l0 :: ls)) 0 = some (.str l0) from atI_nat (j := 0) rfl]
      (conv => whnf); (repeat (first | (refine brT rfl ?_; (conv => whnf)) | (refine brF rfl ?_; (conv => whnf)) | (refine And.intro rfl ?_; (conv => whnf)) | (refine And.intro (Nat.le_of_ble_eq_true rfl) ?_; (conv => whnf)) | (refine And.intro (by assumption) ?_; (conv => whnf)) | (refine And.intro (by decide) ?_; (conv => whnf)) | (refine br_nself ?_; (conv => whnf)) | (refine br_self ?_; (conv => whnf)) | (refine brT (decide_eq_true (by assumption)) ?_; (conv => whnf)) | (refine brT (by assumption) ?_; (conv => whnf)) | (refine brF (by assumption) ?_; (conv => whnf))))
      rw [Mu.put_same]
      (conv => whnf); (repeat (first | (refine brT rfl ?_; (conv => whnf)) | (refine brF rfl ?_; (conv => whnf)) | (refine And.intro rfl ?_; (conv => whnf)) | (refine And.intro (Nat.le_of_ble_eq_true rfl) ?_; (conv => whnf)) | (refine And.intro (by assumption) ?_; (conv => whnf)) | (refine And.intro (by decide) ?_; (conv => whnf)) | (refine br_nself ?_; (conv => whnf)) | (refine br_self ?_; (conv => whnf)) | (refine brT (decide_eq_true (by assumption)) ?_; (conv => whnf)) | (refine brT (by assumption) ?_; (conv => whnf)) | (refine brF (by assumption) ?_; (conv => whnf))))
      rw [Mu.put_same]
      (conv => whnf); (repeat (first | (refine brT rfl ?_; (conv => whnf)) | (refine brF rfl ?_; (conv => whnf)) | (refine And.intro rfl ?_; (conv => whnf)) | (refine And.intro (Nat.le_of_ble_eq_true rfl) ?_; (conv => whnf)) | (refine And.intro (by assumption) ?_; (conv => whnf)) | (refine And.intro (by decide) ?_; (conv => whnf)) | (refine br_nself ?_; (conv => whnf)) | (refine br_self ?_; (conv => whnf)) | (refine brT (decide_eq_true (by assumption)) ?_; (conv => whnf)) | (refine brT (by assumption) ?_; (conv => whnf)) | (refine brF (by assumption) ?_; (conv => whnf))))
      rw [Mu.put_put, Mu.put_put]
      rw [List.length_map]
      exact h.2
  · exact h.elim
end Px

namespace Px
open PySem PySem.Spec PyProof.Rows L2
/-! ### Shape_of -/
def t_Shape_of_0 : ZB := bOne (sRet (zMkVS .Shape true (zVar 0) (zVar 1)))
def c_Shape_of : Ct := fun as μ q x => match as with
  | [.cls .Shape, p] => (match seqOf μ p with
    | some (_, xs) => xs.length ≤ 1000 ∧ mkK .Shape kShape [.tup xs] μ q x
    | none => False)
  | _ => False
theorem len_Shape_of : ∀ as μ q z, c_Shape_of as μ q z → as.length = 2 := fun as μ q z h => by
  unfold c_Shape_of at h
  split at h <;> first | rfl | exact h.elim
def L_Shape_of : Tbl := [(.k .Shape true [], k_Shape)]
def H_Shape_of : Tbl := []
def Q_Shape_of : Qt := []
def R_Shape_of : Rt := { L := L_Shape_of, LH := H_Shape_of, Q := Q_Shape_of }
theorem pure_Shape_of : ∀ as μ q z, c_Shape_of as μ q z → t_Shape_of_0.d R_Shape_of (endsOf q z) (startE 2 as) μ := fun as μ q z h => by
  unfold c_Shape_of at h
  split at h
  · rename_i p
    split at h
    · rename_i b xs es
      obtain ⟨hl, h⟩ := h
      (conv => whnf); (repeat (first | (refine brT rfl ?_; (conv => whnf)) | (refine brF rfl ?_; (conv => whnf)) | (refine And.intro rfl ?_; (conv => whnf)) | (refine And.intro (Nat.le_of_ble_eq_true rfl) ?_; (conv => whnf)) | (refine And.intro (by assumption) ?_; (conv => whnf)) | (refine And.intro (by decide) ?_; (conv => whnf))))
      rw [es]
      (conv => whnf); (repeat (first | (refine brT rfl ?_; (conv => whnf)) | (refine brF rfl ?_; (conv => whnf)) | (refine And.intro rfl ?_; (conv => whnf)) | (refine And.intro (Nat.le_of_ble_eq_true rfl) ?_; (conv => whnf)) | (refine And.intro (by assumption) ?_; (conv => whnf)) | (refine And.intro (by decide) ?_; (conv => whnf))))
      refine ⟨?_, ?_⟩
      · rw [List.append_nil, sizeLine_eq]
        omega
      · rw [List.append_nil]
        exact h
    · exact h.elim
  · exact h.elim
end Px

namespace Px
open PySem PySem.Spec PyProof.Rows L2
/-! ### _law_same_text -/
def t__law_same_text_0 : ZB := bOne (sRet (zAnd [(zBlt .isi (zCons (zVar 0) (zCons (zTy "str") zNil))), (zCmp .Eq (zVar 0) (zVar 1))]))
def c__law_same_text : Ct := fun as μ q _ => match as with
  | [.str i, .str n] => q (.bl (decide (i = n))) μ
  | _ => False
theorem len__law_same_text : ∀ as μ q z, c__law_same_text as μ q z → as.length = 2 := fun as μ q z h => by
  unfold c__law_same_text at h
  split at h <;> first | rfl | exact h.elim
def L__law_same_text : Tbl := []
def H__law_same_text : Tbl := []
def Q__law_same_text : Qt := []
def R__law_same_text : Rt := { L := L__law_same_text, LH := H__law_same_text, Q := Q__law_same_text }
theorem pure__law_same_text : ∀ as μ q z, c__law_same_text as μ q z → t__law_same_text_0.d R__law_same_text (endsOf q z) (startE 2 as) μ := fun as μ q z h => by
  unfold c__law_same_text at h
  split at h
  · (conv => whnf); (repeat (first | (refine brT rfl ?_; (conv => whnf)) | (refine brF rfl ?_; (conv => whnf)) | (refine And.intro rfl ?_; (conv => whnf)) | (refine And.intro (Nat.le_of_ble_eq_true rfl) ?_; (conv => whnf)) | (refine And.intro (by assumption) ?_; (conv => whnf)) | (refine And.intro (by decide) ?_; (conv => whnf))))
    exact h
  · exact h.elim
end Px

namespace Px
open PySem PySem.Spec PyProof.Rows L2
/-! ### _law_same_names -/
def t__law_same_names_1 : ZB := bOne (sRet (zBlt .all (zCons (zLst (zComp (.one 2) [2] (iRg1 (zBlt .len (zCons (zVar 1) zNil))) tsNil (zCall 181 (zCons (zIdx (zVar 0) (zVar 2)) (zCons (zIdx (zVar 1) (zVar 2)) zNil))))) zNil)))
def t__law_same_names_0 : ZB := bCons (sIf (tOr [(tNot (tTr (zBlt .isi (zCons (zVar 0) (zCons (zTy "tuple") zNil))))), (tCmp .NotEq (zBlt .len (zCons (zVar 0) zNil)) (zBlt .len (zCons (zVar 1) zNil)))]) (bOne (sRet (zBl false))) bNil) t__law_same_names_1
/-- texts of a list or tuple -/
def txtP : List PV → Option (List Str)
  | [] => some []
  | p :: ps => (match p with
    | .str z => (match txtP ps with
      | some zs => some (z :: zs)
      | none => none)
    | _ => none)
theorem txtP_map : ∀ (zs : List Str), txtP (zs.map .str) = some zs
  | [] => rfl
  | z :: zs => by
    show (match txtP (zs.map .str) with
      | some zs => some (z :: zs)
      | none => none) = _
    rw [txtP_map zs]
theorem txtP_inv : ∀ {ps : List PV} {zs : List Str}, txtP ps = some zs → ps = zs.map .str
  | [], zs, h => by cases h; rfl
  | p :: ps, zs, h => by
    unfold txtP at h
    split at h
    · split at h
      · rename_i z ys e
        cases h
        rw [txtP_inv e] <;> rfl
      · cases h
    · cases h
def c__law_same_names : Ct := fun as μ q _ => match as with
  | [.tup xs, .lst ys] => ∃ as bs : List Str, xs = as.map .str ∧ ys = bs.map .str ∧ bs.length ≤ 1000 ∧ q (.bl (decide (as = bs))) μ
  | _ => False
theorem len__law_same_names : ∀ as μ q z, c__law_same_names as μ q z → as.length = 2 := fun as μ q z h => by
  unfold c__law_same_names at h
  split at h <;> first | rfl | exact h.elim
def L__law_same_names : Tbl := [(.g 181 [], c__law_same_text)]
def H__law_same_names : Tbl := []
def Q__law_same_names : Qt := []
def R__law_same_names : Rt := { L := L__law_same_names, LH := H__law_same_names, Q := Q__law_same_names }
theorem zip_eq {as bs : List Str} (h : as.length = bs.length) : (((List.range bs.length).map fun j => decide (as[j]? = bs[j]?)).all fun b => b) = decide (as = bs) := by
  rw [Bool.eq_iff_iff, List.all_map, List.all_eq_true, decide_eq_true_iff]
  constructor
  · intro z
    refine List.ext_getElem? fun j => ?_
    by_cases hj : j < bs.length
    · exact of_decide_eq_true (z j (List.mem_range.mpr hj))
    · rw [List.getElem?_eq_none (by omega), List.getElem?_eq_none (by omega)]
  · rintro rfl j _
    exact decide_eq_true rfl
theorem pure__law_same_names : ∀ as μ q z, c__law_same_names as μ q z → t__law_same_names_0.d R__law_same_names (endsOf q z) (startE 3 as) μ := fun as μ q z h => by
  unfold c__law_same_names at h
  split at h
  · obtain ⟨as, bs, rfl, rfl, hl, h⟩ := h
    (conv => whnf); (repeat (first | (refine brT rfl ?_; (conv => whnf)) | (refine brF rfl ?_; (conv => whnf)) | (refine And.intro rfl ?_; (conv => whnf)) | (refine And.intro (Nat.le_of_ble_eq_true rfl) ?_; (conv => whnf)) | (refine And.intro (by assumption) ?_; (conv => whnf)) | (refine And.intro (by decide) ?_; (conv => whnf))))
    refine br_of (fun e => ?_) fun e => ?_
    · have e : ¬ as.length = bs.length := by
        intro z
        simp [sgn, z] at e
      rw [decide_eq_false fun z => e (by rw [z])] at h
      exact h
    · have e : as.length = bs.length := by
        have : sgn true (decide (((as.map PV.str).length : Int) = ((bs.map PV.str).length : Int))) = false := e
        rw [List.length_map, List.length_map] at this
        simp only [sgn, Bool.not_eq_false', decide_eq_true_eq] at this
        omega
      (conv => whnf); (repeat (first | (refine brT rfl ?_; (conv => whnf)) | (refine brF rfl ?_; (conv => whnf)) | (refine And.intro rfl ?_; (conv => whnf)) | (refine And.intro (Nat.le_of_ble_eq_true rfl) ?_; (conv => whnf)) | (refine And.intro (by assumption) ?_; (conv => whnf)) | (refine And.intro (by decide) ?_; (conv => whnf))))
      refine ⟨by omega, by rw [List.length_map]; omega, ?_⟩
      have lr : (rangeP 0 (((bs.map PV.str).length : Nat) : Int).toNat).length = bs.length := by
        unfold rangeP
        rw [List.length_map, List.length_range, List.length_map]
        omega
      refine ⟨by rw [lr, sizeLine_eq]; omega, ?_⟩
      refine lcD_map (fun p => match p with | .int i => .bl (decide (as[i.toNat]? = bs[i.toNat]?)) | _ => .non) _ _ (fun x hx k hk => ?_) ?_
      · obtain ⟨j, hj, rfl⟩ := List.mem_map.mp hx
        have hj : j < bs.length := by
          have := List.mem_range.mp hj
          rw [List.length_map] at this
          omega
        have hj2 : j < as.length := by omega
        have a1 : atI (as.map PV.str) (0 + (j : Nat)) = some (.str as[j]) := by
          rw [Int.zero_add]
          exact atI_nat (by rw [List.getElem?_map, List.getElem?_eq_getElem hj2] <;> rfl)
        have a2 : atI (bs.map PV.str) (0 + (j : Nat)) = some (.str bs[j]) := by
          rw [Int.zero_add]
          exact atI_nat (by rw [List.getElem?_map, List.getElem?_eq_getElem hj] <;> rfl)
        (conv => whnf); (repeat (first | (refine brT rfl ?_; (conv => whnf)) | (refine brF rfl ?_; (conv => whnf)) | (refine And.intro rfl ?_; (conv => whnf)) | (refine And.intro (Nat.le_of_ble_eq_true rfl) ?_; (conv => whnf)) | (refine And.intro (by assumption) ?_; (conv => whnf)) | (refine And.intro (by decide) ?_; (conv => whnf))))
        rw [a1]
        (conv => whnf); (repeat (first | (refine brT rfl ?_; (conv => whnf)) | (refine brF rfl ?_; (conv => whnf)) | (refine And.intro rfl ?_; (conv => whnf)) | (refine And.intro (Nat.le_of_ble_eq_true rfl) ?_; (conv => whnf)) | (refine And.intro (by assumption) ?_; (conv => whnf)) | (refine And.intro (by decide) ?_; (conv => whnf))))
        rw [a2]
        have e0 : (0 + ((j : Nat) : Int)).toNat = j := by omega
        have hk : k (.bl (decide (as[(0 + ((j : Nat) : Int)).toNat]? = bs[(0 + ((j : Nat) : Int)).toNat]?))) μ := hk
        rw [e0, List.getElem?_eq_getElem hj, List.getElem?_eq_getElem hj2] at hk
        have : decide (some as[j] = some bs[j]) = decide (as[j] = bs[j]) := decide_eq_decide.mpr (by simp)
        rw [this] at hk
        exact hk
      · (conv => whnf); (repeat (first | (refine brT rfl ?_; (conv => whnf)) | (refine brF rfl ?_; (conv => whnf)) | (refine And.intro rfl ?_; (conv => whnf)) | (refine And.intro (Nat.le_of_ble_eq_true rfl) ?_; (conv => whnf)) | (refine And.intro (by assumption) ?_; (conv => whnf)) | (refine And.intro (by decide) ?_; (conv => whnf))))
        refine ⟨(List.range bs.length).map fun j => decide (as[j]? = bs[j]?), ?_, ?_⟩
        · have e1 : (((bs.map PV.str).length : Nat) : Int).toNat = bs.length := by rw [List.length_map]; omega
          unfold rangeP
          rw [List.nil_append, e1, List.map_map, List.map_map]
          refine List.map_congr_left fun j _ => ?_
          show PV.bl (decide (as[(0 + ((j : Nat) : Int)).toNat]? = bs[(0 + ((j : Nat) : Int)).toNat]?)) = _
          have e0 : (0 + ((j : Nat) : Int)).toNat = j := by omega
          rw [e0] <;> rfl
        · rw [zip_eq e]
          exact h
  · exact h.elim
end Px

namespace Px
open PySem PySem.Spec PyProof.Rows L2
/-! ### _law_int -/
def t__law_int_0 : ZB := bOne (sRet (zAnd [(zBlt .isi (zCons (zVar 0) (zCons (zTy "int") zNil))), (zNot (zBlt .isi (zCons (zVar 0) (zCons (zTy "bool") zNil)))), (zCmp .Eq (zVar 0) (zVar 1))]))
def c__law_int : Ct := fun as μ q _ => match as with
  | [.int i, .int n] => q (.bl (decide (i = n))) μ
  | _ => False
theorem len__law_int : ∀ as μ q z, c__law_int as μ q z → as.length = 2 := fun as μ q z h => by
  unfold c__law_int at h
  split at h <;> first | rfl | exact h.elim
def L__law_int : Tbl := []
def H__law_int : Tbl := []
def Q__law_int : Qt := []
def R__law_int : Rt := { L := L__law_int, LH := H__law_int, Q := Q__law_int }
theorem pure__law_int : ∀ as μ q z, c__law_int as μ q z → t__law_int_0.d R__law_int (endsOf q z) (startE 2 as) μ := fun as μ q z h => by
  unfold c__law_int at h
  split at h
  · (conv => whnf); (repeat (first | (refine brT rfl ?_; (conv => whnf)) | (refine brF rfl ?_; (conv => whnf)) | (refine And.intro rfl ?_; (conv => whnf)) | (refine And.intro (Nat.le_of_ble_eq_true rfl) ?_; (conv => whnf)) | (refine And.intro (by assumption) ?_; (conv => whnf)) | (refine And.intro (by decide) ?_; (conv => whnf))))
    exact h
  · exact h.elim
end Px

namespace Px
open PySem PySem.Spec PyProof.Rows L2
/-! ### _law_same_shape -/
def t__law_same_shape_1 : ZB := bOne (sRet (zAnd [(zCall 80 (zCons (zAtt "width" (zVar 0)) (zCons (zBlt .len (zCons (zIdx (zVar 1) (zInt 0)) zNil)) zNil))), (zCall 80 (zCons (zAtt "height" (zVar 0)) (zCons (zBlt .len (zCons (zVar 1) zNil)) zNil)))]))
def t__law_same_shape_0 : ZB := bCons (sIf (tOr [(tNot (tTr (zBlt .isi (zCons (zVar 0) (zCons (zCls .Shape) zNil))))), (tNot (tTr (zCall 166 (zCons (zAtt "lines" (zVar 0)) (zCons (zVar 1) zNil)))))]) (bOne (sRet (zBl false))) bNil) t__law_same_shape_1
def c__law_same_shape : Ct := fun as μ q _ => match as with
  | [p, .lst ys] => ∃ ls : List Str, p = shapeP ls ∧ ys = ls.map .str ∧ GoodLn ls ∧ q (.bl true) μ
  | _ => False
theorem len__law_same_shape : ∀ as μ q z, c__law_same_shape as μ q z → as.length = 2 := fun as μ q z h => by
  unfold c__law_same_shape at h
  split at h <;> first | rfl | exact h.elim
def L__law_same_shape : Tbl := [(.g 166 [], c__law_same_names), (.g 80 [], c__law_int)]
def H__law_same_shape : Tbl := []
def Q__law_same_shape : Qt := []
def R__law_same_shape : Rt := { L := L__law_same_shape, LH := H__law_same_shape, Q := Q__law_same_shape }
theorem pure__law_same_shape : ∀ as μ q z, c__law_same_shape as μ q z → t__law_same_shape_0.d R__law_same_shape (endsOf q z) (startE 2 as) μ := fun as μ q z h => by
  unfold c__law_same_shape at h
  split at h
  · obtain ⟨ls, rfl, rfl, g, h⟩ := h
    have hl := g.le
    have g1 := g.ne
    have g2 := g.w2
    unfold shapeP
    match ls, hl, g, h with
    | [], hl, g, h => exact absurd g.ne (by decide)
    | l0 :: ls, hl, g, h =>
      have l0s : l0.length ≤ sizeLine := by rw [sizeLine_eq]; have : wideL (l0 :: ls) = l0.length := rfl; omega
      (conv => whnf); (repeat (first | (refine brT rfl ?_; (conv => whnf)) | (refine brF rfl ?_; (conv => whnf)) | (refine And.intro rfl ?_; (conv => whnf)) | (refine And.intro (Nat.le_of_ble_eq_true rfl) ?_; (conv => whnf)) | (refine And.intro (by assumption) ?_; (conv => whnf)) | (refine And.intro (by decide) ?_; (conv => whnf)) | (refine br_nself ?_; (conv => whnf)) | (refine br_self ?_; (conv => whnf)) | (refine brT (decide_eq_true (by assumption)) ?_; (conv => whnf)) | (refine brT (by assumption) ?_; (conv => whnf)) | (refine brF (by assumption) ?_; (conv => whnf))))
      refine ⟨_, _, rfl, rfl, by omega, ?_⟩
      rw [decide_eq_true rfl]
      (conv => whnf); (repeat (first | (refine brT rfl ?_; (conv => whnf)) | (refine brF rfl ?_; (conv => whnf)) | (refine And.intro rfl ?_; (conv => whnf)) | (refine And.intro (Nat.le_of_ble_eq_true rfl) ?_; (conv => whnf)) | (refine And.intro (by assumption) ?_; (conv => whnf)) | (refine And.intro (by decide) ?_; (conv => whnf)) | (refine br_nself ?_; (conv => whnf)) | (refine br_self ?_; (conv => whnf)) | (refine brT (decide_eq_true (by assumption)) ?_; (conv => whnf)) | (refine brT (by assumption) ?_; (conv => whnf)) | (refine brF (by assumption) ?_; (conv => whnf))))
      rw [show atI (List.map PV.str (l0 :: ls)) 0 = some (.str l0) from atI_nat (j := 0) rfl]
      (conv => whnf); (repeat (first | (refine brT rfl ?_; (conv => whnf)) | (refine brF rfl ?_; (conv => whnf)) | (refine And.intro rfl ?_; (conv => whnf)) | (refine And.intro (Nat.le_of_ble_eq_true rfl) ?_; (conv => whnf)) | (refine And.intro (by assumption) ?_; (conv => whnf)) | (refine And.intro (by decide) ?_; (conv => whnf)) | (refine br_nself ?_; (conv => whnf)) | (refine br_self ?_; (conv => whnf)) | (refine brT (decide_eq_true (by assumption)) ?_; (conv => whnf)) | (refine brT (by assumption) ?_; (conv => whnf)) | (refine brF (by assumption) ?_; (conv => whnf))))
      rw [List.length_map, decide_eq_true rfl]
      exact h
  · exact h.elim
end Px

namespace Px
open PySem PySem.Spec PyProof.Rows L2
/-! ## turned, tiled, blank -/
def sizeB (w h : Int) : Option Int := if h < 1 ∨ w < 1 ∨ 40 < w then some 0 else if 40 < h then some 40 else none
theorem sizeB_none {w h : Int} (e : sizeB w h = none) : 1 ≤ w ∧ w ≤ 40 ∧ 1 ≤ h ∧ h ≤ 40 := by
  unfold sizeB at e
  split at e
  · cases e
  · split at e
    · cases e
    · omega
theorem sizeB_ok {w h : Int} (e : 1 ≤ w ∧ w ≤ 40 ∧ 1 ≤ h ∧ h ≤ 40) : sizeB w h = none := by
  unfold sizeB
  rw [if_neg (by omega), if_neg (by omega)]
theorem good_bad {ls : List Str} (g : GoodLn ls) : badL ls = -1 := by
  have go : ∀ (zs : List Str) (i : Nat), (∀ z ∈ zs, z ∈ ls) → i + zs.length ≤ 40 → badFrom (wideL ls) i zs = -1 := by
    intro zs
    induction zs with
    | nil => intro i _ _; rfl
    | cons z zs ih =>
      intro i h hl
      rw [List.length_cons] at hl
      have hz := h z List.mem_cons_self
      have l := g.len z hz
      have s := g.sg z hz
      have w1 := g.w1
      have w2 := g.w2
      unfold badFrom
      have : (lineB (wideL ls) z && decide (i < 40)) = true := by
        simp only [lineB, s, Bool.and_eq_true, decide_eq_true_eq]
        refine ⟨⟨?_, ?_, ?_, ?_⟩, ?_⟩ <;> first | trivial | rfl | omega
      rw [if_pos this]
      exact ih (i + 1) (fun y hy => h y (List.mem_cons_of_mem _ hy)) (by omega)
  unfold badL
  split
  · exact absurd g.ne (by decide)
  · rename_i h
    have := g.le
    exact go ls 0 (fun _ h => h) (by omega)
/-- lines of one width and good signs -/
theorem good_of {ls : List Str} {n : Nat} (l1 : 1 ≤ ls.length) (l2 : ls.length ≤ 40) (n1 : 1 ≤ n) (n2 : n ≤ 40) (h : ∀ z ∈ ls, z.length = n ∧ z.cps.toList.all sgB = true) : GoodLn ls ∧ wideL ls = n := by
  have w : wideL ls = n := by
    cases ls with
    | nil => cases l1
    | cons a b => exact (h a List.mem_cons_self).1
  exact ⟨⟨l1, l2, by omega, by omega, fun z hz => by rw [w]; exact (h z hz).1, fun z hz => (h z hz).2⟩, w⟩
theorem good_rev {ls : List Str} (g : GoodLn ls) : GoodLn (ls.map revS) := (good_of (n := wideL ls) (by rw [List.length_map]; exact g.ne) (by rw [List.length_map]; exact g.le) g.w1 g.w2 fun z hz => by
  obtain ⟨y, hy, rfl⟩ := List.mem_map.mp hz
  refine ⟨by rw [revS_len]; exact g.len y hy, ?_⟩
  have := g.sg y hy
  rw [List.all_eq_true] at this ⊢
  intro c hc
  exact this c (by simpa [revS] using hc)).1
theorem revS_revS (z : Str) : revS (revS z) = z := by
  unfold revS
  simp
def tileS (z : Str) (n w : Nat) : Str := ⟨((List.range n).map fun x => (z.cps.toList[x % w]?).getD 0).toArray⟩
def tileL (ls : List Str) (n m : Nat) : List Str := (List.range m).map fun y => tileS ((ls[y % ls.length]?).getD "") n (wideL ls)
theorem good_tile {ls : List Str} (g : GoodLn ls) {n m : Nat} (n1 : 1 ≤ n) (n2 : n ≤ 40) (m1 : 1 ≤ m) (m2 : m ≤ 40) : GoodLn (tileL ls n m) := (good_of (n := n) (by unfold tileL; rw [List.length_map, List.length_range]; exact m1) (by unfold tileL; rw [List.length_map, List.length_range]; exact m2) n1 n2 fun z hz => by
  obtain ⟨y, _, rfl⟩ := List.mem_map.mp hz
  have hy : y % ls.length < ls.length := Nat.mod_lt _ g.ne
  rw [List.getElem?_eq_getElem hy]
  have hz := List.getElem_mem hy
  generalize ls[y % ls.length] = z at hz
  refine ⟨by show ((List.range n).map _).toArray.size = n; rw [List.size_toArray, List.length_map, List.length_range], ?_⟩
  show ((List.range n).map _).toArray.toList.all sgB = true
  rw [List.all_eq_true]
  intro c hc
  obtain ⟨x, _, rfl⟩ := List.mem_map.mp hc
  have hl : z.cps.toList.length = wideL ls := by rw [Array.length_toList]; exact g.len z hz
  have hx : x % wideL ls < z.cps.toList.length := by rw [hl]; exact Nat.mod_lt _ g.w1
  show sgB ((z.cps.toList[x % wideL ls]?).getD 0) = true
  rw [List.getElem?_eq_getElem hx]
  exact List.all_eq_true.mp (g.sg z hz) _ (List.getElem_mem hx)).1
/-- blank -/
def blankL (o : Bool) (n m : Nat) : List Str := List.replicate m (repS (if o then "#" else ".") n)
theorem repS_all {a : Str} (ha : a.cps.toList.all sgB = true) (n : Nat) : (repS a n).cps.toList.all sgB = true := by
  unfold repS
  have go : ∀ (n : Nat) (acc : Array Nat), acc.toList.all sgB = true → ((List.replicate n a.cps).foldl (· ++ ·) acc).toList.all sgB = true := by
    intro n
    induction n with
    | zero => intro acc h; exact h
    | succ n ih =>
      intro acc h
      rw [List.replicate_succ, List.foldl_cons]
      refine ih _ ?_
      rw [Array.toList_append, List.all_append, h, ha]
      rfl
  exact go n #[] rfl
theorem good_blank (o : Bool) {n m : Nat} (n1 : 1 ≤ n) (n2 : n ≤ 40) (m1 : 1 ≤ m) (m2 : m ≤ 40) : GoodLn (blankL o n m) := (good_of (n := n) (by unfold blankL; rw [List.length_replicate]; exact m1) (by unfold blankL; rw [List.length_replicate]; exact m2) n1 n2 fun z hz => by
  rw [(List.mem_replicate.mp hz).2]
  refine ⟨?_, repS_all (by cases o <;> decide +kernel) n⟩
  rw [repS_len]
  cases o
  · show n * 1 = n; omega
  · show n * 1 = n; omega).1
end Px

namespace Px
open PySem PySem.Spec PyProof.Rows L2
/-! ### Shape_mirrored_v2 -/
def t_Shape_mirrored_v2_0 : ZB := bOne (sRet (zCm .Shape 295 (zCls .Shape) (zCons (zLst (zComp (.one 1) [1] (iSq (zAtt "lines" (zVar 0))) tsNil (zRevS (zVar 1)))) zNil)))
def c_Shape_mirrored_v2 : Ct := fun as μ q _ => match as with
  | [p] => ∃ ls : List Str, p = shapeP ls ∧ GoodLn ls ∧ q (shapeP (ls.map revS)) μ
  | _ => False
theorem len_Shape_mirrored_v2 : ∀ as μ q z, c_Shape_mirrored_v2 as μ q z → as.length = 1 := fun as μ q z h => by
  unfold c_Shape_mirrored_v2 at h
  split at h <;> first | rfl | exact h.elim
def L_Shape_mirrored_v2 : Tbl := [(.cm .Shape 295 [], c_Shape_of)]
def H_Shape_mirrored_v2 : Tbl := []
def Q_Shape_mirrored_v2 : Qt := []
def R_Shape_mirrored_v2 : Rt := { L := L_Shape_mirrored_v2, LH := H_Shape_mirrored_v2, Q := Q_Shape_mirrored_v2 }
theorem pure_Shape_mirrored_v2 : ∀ as μ q z, c_Shape_mirrored_v2 as μ q z → t_Shape_mirrored_v2_0.d R_Shape_mirrored_v2 (endsOf q z) (startE 2 as) μ := fun as μ q z h => by
  unfold c_Shape_mirrored_v2 at h
  split at h
  · obtain ⟨ls, rfl, g, h⟩ := h
    unfold shapeP
    have l1 := g.le
    have l2 := g.w2
    (conv => whnf); (repeat (first | (refine brT rfl ?_; (conv => whnf)) | (refine brF rfl ?_; (conv => whnf)) | (refine And.intro rfl ?_; (conv => whnf)) | (refine And.intro (Nat.le_of_ble_eq_true rfl) ?_; (conv => whnf)) | (refine And.intro (by assumption) ?_; (conv => whnf)) | (refine And.intro (by decide) ?_; (conv => whnf)) | (refine br_nself ?_; (conv => whnf)) | (refine br_self ?_; (conv => whnf)) | (refine brT (decide_eq_true (by assumption)) ?_; (conv => whnf)) | (refine brT (by assumption) ?_; (conv => whnf)) | (refine brF (by assumption) ?_; (conv => whnf))))
    refine ⟨by rw [List.length_map, sizeLine_eq]; omega, ?_⟩
    refine lcM1 PV.str (fun z => .str (revS z)) ls [] (fun z hz k hk => ?_) ?_
    · have := g.len z hz
      (conv => whnf); (repeat (first | (refine brT rfl ?_; (conv => whnf)) | (refine brF rfl ?_; (conv => whnf)) | (refine And.intro rfl ?_; (conv => whnf)) | (refine And.intro (Nat.le_of_ble_eq_true rfl) ?_; (conv => whnf)) | (refine And.intro (by assumption) ?_; (conv => whnf)) | (refine And.intro (by decide) ?_; (conv => whnf)) | (refine br_nself ?_; (conv => whnf)) | (refine br_self ?_; (conv => whnf)) | (refine brT (decide_eq_true (by assumption)) ?_; (conv => whnf)) | (refine brT (by assumption) ?_; (conv => whnf)) | (refine brF (by assumption) ?_; (conv => whnf))))
      refine ⟨by rw [sizeLine_eq]; omega, hk⟩
    · have gr := good_rev g
      have e1 : ls.map (fun z => PV.str (revS z)) = (ls.map revS).map .str := by rw [List.map_map] <;> rfl
      rw [List.nil_append, e1]
      (conv => whnf); (repeat (first | (refine brT rfl ?_; (conv => whnf)) | (refine brF rfl ?_; (conv => whnf)) | (refine And.intro rfl ?_; (conv => whnf)) | (refine And.intro (Nat.le_of_ble_eq_true rfl) ?_; (conv => whnf)) | (refine And.intro (by assumption) ?_; (conv => whnf)) | (refine And.intro (by decide) ?_; (conv => whnf)) | (refine br_nself ?_; (conv => whnf)) | (refine br_self ?_; (conv => whnf)) | (refine brT (decide_eq_true (by assumption)) ?_; (conv => whnf)) | (refine brT (by assumption) ?_; (conv => whnf)) | (refine brF (by assumption) ?_; (conv => whnf))))
      refine ⟨by rw [List.length_map, List.length_map]; omega, ls.map revS, rfl, by rw [List.length_map]; omega, fun z hz => by have := gr.len z hz; have := gr.w2; omega, ?_⟩
      rw [good_bad gr]
      refine brF (by decide) ⟨rfl, ?_⟩
      exact h
  · exact h.elim
end Px

namespace Px
open PySem PySem.Spec PyProof.Rows L2
/-! ### check_size -/
def t_check_size_1 : ZB := bOne (sIf (tCmp .Gt (zVar 1) (zGc "MOST_PLACES" (.int 40))) (bOne (sRaise .InvalidShape "line" (zCons (zGc "MOST_PLACES" (.int 40)) zNil))) bNil)
def t_check_size_0 : ZB := bCons (sIf (tOr [(tCmp .Lt (zVar 1) (zInt 1)), (tNot (tChain .LtE .LtE (zInt 1) (zVar 0) (zGc "MOST_PLACES" (.int 40))))]) (bOne (sRaise .InvalidShape "line" (zCons (zInt 0) zNil))) bNil) t_check_size_1
def c_check_size : Ct := fun as μ q x => match as with
  | [.int w, .int h] => (match sizeB w h with
    | none => q .non μ
    | some i => x (.InvalidShape, [.int i]) μ)
  | _ => False
theorem len_check_size : ∀ as μ q z, c_check_size as μ q z → as.length = 2 := fun as μ q z h => by
  unfold c_check_size at h
  split at h <;> first | rfl | exact h.elim
def L_check_size : Tbl := []
def H_check_size : Tbl := []
def Q_check_size : Qt := []
def R_check_size : Rt := { L := L_check_size, LH := H_check_size, Q := Q_check_size }
theorem pure_check_size : ∀ as μ q z, c_check_size as μ q z → t_check_size_0.d R_check_size (endsOf q z) (startE 2 as) μ := fun as μ q z h => by
  unfold c_check_size at h
  split at h
  · rename_i w h0
    unfold sizeB at h
    (conv => whnf); (repeat (first | (refine brT rfl ?_; (conv => whnf)) | (refine brF rfl ?_; (conv => whnf)) | (refine And.intro rfl ?_; (conv => whnf)) | (refine And.intro (Nat.le_of_ble_eq_true rfl) ?_; (conv => whnf)) | (refine And.intro (by assumption) ?_; (conv => whnf)) | (refine And.intro (by decide) ?_; (conv => whnf)) | (refine br_nself ?_; (conv => whnf)) | (refine br_self ?_; (conv => whnf)) | (refine brT (decide_eq_true (by assumption)) ?_; (conv => whnf)) | (refine brT (by assumption) ?_; (conv => whnf)) | (refine brF (by assumption) ?_; (conv => whnf))))
    refine brD (fun e1 => ?_) fun e1 => ?_
    · rw [if_pos (.inl e1)] at h
      (conv => whnf); (repeat (first | (refine brT rfl ?_; (conv => whnf)) | (refine brF rfl ?_; (conv => whnf)) | (refine And.intro rfl ?_; (conv => whnf)) | (refine And.intro (Nat.le_of_ble_eq_true rfl) ?_; (conv => whnf)) | (refine And.intro (by assumption) ?_; (conv => whnf)) | (refine And.intro (by decide) ?_; (conv => whnf)) | (refine br_nself ?_; (conv => whnf)) | (refine br_self ?_; (conv => whnf)) | (refine brT (decide_eq_true (by assumption)) ?_; (conv => whnf)) | (refine brT (by assumption) ?_; (conv => whnf)) | (refine brF (by assumption) ?_; (conv => whnf))))
      exact h
    · (conv => whnf); (repeat (first | (refine brT rfl ?_; (conv => whnf)) | (refine brF rfl ?_; (conv => whnf)) | (refine And.intro rfl ?_; (conv => whnf)) | (refine And.intro (Nat.le_of_ble_eq_true rfl) ?_; (conv => whnf)) | (refine And.intro (by assumption) ?_; (conv => whnf)) | (refine And.intro (by decide) ?_; (conv => whnf)) | (refine br_nself ?_; (conv => whnf)) | (refine br_self ?_; (conv => whnf)) | (refine brT (decide_eq_true (by assumption)) ?_; (conv => whnf)) | (refine brT (by assumption) ?_; (conv => whnf)) | (refine brF (by assumption) ?_; (conv => whnf))))
      refine brD (fun e2 => ?_) fun e2 => ?_
      · (conv => whnf); (repeat (first | (refine brT rfl ?_; (conv => whnf)) | (refine brF rfl ?_; (conv => whnf)) | (refine And.intro rfl ?_; (conv => whnf)) | (refine And.intro (Nat.le_of_ble_eq_true rfl) ?_; (conv => whnf)) | (refine And.intro (by assumption) ?_; (conv => whnf)) | (refine And.intro (by decide) ?_; (conv => whnf)) | (refine br_nself ?_; (conv => whnf)) | (refine br_self ?_; (conv => whnf)) | (refine brT (decide_eq_true (by assumption)) ?_; (conv => whnf)) | (refine brT (by assumption) ?_; (conv => whnf)) | (refine brF (by assumption) ?_; (conv => whnf))))
        refine brN (fun e3 => ?_) fun e3 => ?_
        · rw [if_pos (by omega)] at h
          (conv => whnf); (repeat (first | (refine brT rfl ?_; (conv => whnf)) | (refine brF rfl ?_; (conv => whnf)) | (refine And.intro rfl ?_; (conv => whnf)) | (refine And.intro (Nat.le_of_ble_eq_true rfl) ?_; (conv => whnf)) | (refine And.intro (by assumption) ?_; (conv => whnf)) | (refine And.intro (by decide) ?_; (conv => whnf)) | (refine br_nself ?_; (conv => whnf)) | (refine br_self ?_; (conv => whnf)) | (refine brT (decide_eq_true (by assumption)) ?_; (conv => whnf)) | (refine brT (by assumption) ?_; (conv => whnf)) | (refine brF (by assumption) ?_; (conv => whnf))))
          exact h
        · rw [if_neg (by omega)] at h
          (conv => whnf); (repeat (first | (refine brT rfl ?_; (conv => whnf)) | (refine brF rfl ?_; (conv => whnf)) | (refine And.intro rfl ?_; (conv => whnf)) | (refine And.intro (Nat.le_of_ble_eq_true rfl) ?_; (conv => whnf)) | (refine And.intro (by assumption) ?_; (conv => whnf)) | (refine And.intro (by decide) ?_; (conv => whnf)) | (refine br_nself ?_; (conv => whnf)) | (refine br_self ?_; (conv => whnf)) | (refine brT (decide_eq_true (by assumption)) ?_; (conv => whnf)) | (refine brT (by assumption) ?_; (conv => whnf)) | (refine brF (by assumption) ?_; (conv => whnf))))
          refine brD (fun e4 => ?_) fun e4 => ?_
          · rw [if_pos e4] at h
            (conv => whnf); (repeat (first | (refine brT rfl ?_; (conv => whnf)) | (refine brF rfl ?_; (conv => whnf)) | (refine And.intro rfl ?_; (conv => whnf)) | (refine And.intro (Nat.le_of_ble_eq_true rfl) ?_; (conv => whnf)) | (refine And.intro (by assumption) ?_; (conv => whnf)) | (refine And.intro (by decide) ?_; (conv => whnf)) | (refine br_nself ?_; (conv => whnf)) | (refine br_self ?_; (conv => whnf)) | (refine brT (decide_eq_true (by assumption)) ?_; (conv => whnf)) | (refine brT (by assumption) ?_; (conv => whnf)) | (refine brF (by assumption) ?_; (conv => whnf))))
            exact h
          · rw [if_neg e4] at h
            (conv => whnf); (repeat (first | (refine brT rfl ?_; (conv => whnf)) | (refine brF rfl ?_; (conv => whnf)) | (refine And.intro rfl ?_; (conv => whnf)) | (refine And.intro (Nat.le_of_ble_eq_true rfl) ?_; (conv => whnf)) | (refine And.intro (by assumption) ?_; (conv => whnf)) | (refine And.intro (by decide) ?_; (conv => whnf)) | (refine br_nself ?_; (conv => whnf)) | (refine br_self ?_; (conv => whnf)) | (refine brT (decide_eq_true (by assumption)) ?_; (conv => whnf)) | (refine brT (by assumption) ?_; (conv => whnf)) | (refine brF (by assumption) ?_; (conv => whnf))))
            exact h
      · rw [if_pos (by omega)] at h
        (conv => whnf); (repeat (first | (refine brT rfl ?_; (conv => whnf)) | (refine brF rfl ?_; (conv => whnf)) | (refine And.intro rfl ?_; (conv => whnf)) | (refine And.intro (Nat.le_of_ble_eq_true rfl) ?_; (conv => whnf)) | (refine And.intro (by assumption) ?_; (conv => whnf)) | (refine And.intro (by decide) ?_; (conv => whnf)) | (refine br_nself ?_; (conv => whnf)) | (refine br_self ?_; (conv => whnf)) | (refine brT (decide_eq_true (by assumption)) ?_; (conv => whnf)) | (refine brT (by assumption) ?_; (conv => whnf)) | (refine brF (by assumption) ?_; (conv => whnf))))
        exact h
  · exact h.elim
end Px

namespace Px
open PySem PySem.Spec PyProof.Rows L2
/-! ### Shape_tiled_v2 -/
def f_Shape_tiled_v2_0 : ZB := (bCons (sSet 5 (zIdx (zAtt "lines" (zVar 0)) (zBin .Mod (zVar 4) (zAtt "height" (zVar 0)))))
  (bOne (sExpr (zApp (zVar 3) (zJoin (zStr "") (zLst (zComp (.one 6) [6] (iRg1 (zVar 1)) tsNil (zIdx (zVar 5) (zBin .Mod (zVar 6) (zAtt "width" (zVar 0)))))))))))
def t_Shape_tiled_v2_3 : ZB := bOne (sFz 3 (sRet (zCm .Shape 295 (zCls .Shape) (zCons (zVar 3) zNil))))
def t_Shape_tiled_v2_2 : ZB := bCons (sFor (.one 4) (iRg1 (zVar 2)) f_Shape_tiled_v2_0) t_Shape_tiled_v2_3
def t_Shape_tiled_v2_1 : ZB := bCons (sSet 3 (zNew (zDisp zNil))) t_Shape_tiled_v2_2
def t_Shape_tiled_v2_0 : ZB := bCons (sExpr (zCall 241 (zCons (zVar 1) (zCons (zVar 2) zNil)))) t_Shape_tiled_v2_1
def c_Shape_tiled_v2 : Ct := fun as μ q x => match as with
  | [p, .int w, .int h] => ∃ ls : List Str, p = shapeP ls ∧ GoodLn ls ∧ (match sizeB w h with
    | none => q (shapeP (tileL ls w.toNat h.toNat)) μ
    | some i => x (.InvalidShape, [.int i]) μ)
  | _ => False
theorem len_Shape_tiled_v2 : ∀ as μ q z, c_Shape_tiled_v2 as μ q z → as.length = 3 := fun as μ q z h => by
  unfold c_Shape_tiled_v2 at h
  split at h <;> first | rfl | exact h.elim
def L_Shape_tiled_v2 : Tbl := [(.g 241 [], c_check_size), (.cm .Shape 295 [], c_Shape_of)]
def H_Shape_tiled_v2 : Tbl := []
def Q_Shape_tiled_v2 : Qt := []
def R_Shape_tiled_v2 : Rt := { L := L_Shape_tiled_v2, LH := H_Shape_tiled_v2, Q := Q_Shape_tiled_v2 }
theorem tile_loop {P : DEn} {ls : List Str} (g : GoodLn ls) {w h0 : Int} (w1 : 1 ≤ w) (w2 : w ≤ 40) {μ : Mu} {a : Addr} {s6 : Option PV} : ∀ (m i : Nat) (s4 s5 : Option PV), i + m ≤ 40 → (∀ s4 s5, P.nx [some (shapeP ls), some (.int w), some (.int h0), some (.cell a), s4, s5, s6] (μ.put a (.lst ((tileL ls w.toNat (i + m)).map .str)))) →
    Lk (forD (.one 4) (f_Shape_tiled_v2_0.d R_Shape_tiled_v2) (rangeP (i : Nat) m) P [some (shapeP ls), some (.int w), some (.int h0), some (.cell a), s4, s5, s6] (μ.put a (.lst ((tileL ls w.toNat i).map .str))))
  | 0, i, s4, s5, hm, h => forD_n rfl (h s4 s5)
  | m + 1, i, s4, s5, hm, h => by
    have ih := fun s5 => tile_loop (P := P) (h0 := h0) g w1 w2 (μ := μ) (a := a) (s6 := s6) m (i + 1) (some (.int (i : Nat))) s5 (by omega) (fun s4 s5 => by rw [show i + 1 + m = i + (m + 1) by omega]; exact h s4 s5)
    rw [rangeP_cons]
    have l1 := g.ne
    have l2 := g.le
    have l3 := g.w1
    have l4 := g.w2
    refine forD_c rfl ?_
    unfold shapeP
    (conv => whnf); (repeat (first | (refine brT rfl ?_; (conv => whnf)) | (refine brF rfl ?_; (conv => whnf)) | (refine And.intro rfl ?_; (conv => whnf)) | (refine And.intro (Nat.le_of_ble_eq_true rfl) ?_; (conv => whnf)) | (refine And.intro (by assumption) ?_; (conv => whnf)) | (refine And.intro (by decide) ?_; (conv => whnf)) | (refine br_nself ?_; (conv => whnf)) | (refine br_self ?_; (conv => whnf)) | (refine brT (decide_eq_true (by assumption)) ?_; (conv => whnf)) | (refine brT (by assumption) ?_; (conv => whnf)) | (refine brF (by assumption) ?_; (conv => whnf))))
    refine ⟨by omega, ?_⟩
    (conv => whnf); (repeat (first | (refine brT rfl ?_; (conv => whnf)) | (refine brF rfl ?_; (conv => whnf)) | (refine And.intro rfl ?_; (conv => whnf)) | (refine And.intro (Nat.le_of_ble_eq_true rfl) ?_; (conv => whnf)) | (refine And.intro (by assumption) ?_; (conv => whnf)) | (refine And.intro (by decide) ?_; (conv => whnf)) | (refine br_nself ?_; (conv => whnf)) | (refine br_self ?_; (conv => whnf)) | (refine brT (decide_eq_true (by assumption)) ?_; (conv => whnf)) | (refine brT (by assumption) ?_; (conv => whnf)) | (refine brF (by assumption) ?_; (conv => whnf))))
    have hy : i % ls.length < ls.length := Nat.mod_lt _ l1
    have at1 : atI (ls.map PV.str) ((i : Int) % (ls.length : Int)) = some (.str ls[i % ls.length]) := atI_nat (j := i % ls.length) (by rw [List.getElem?_map, List.getElem?_eq_getElem hy] <;> rfl)
    have hz := List.getElem_mem hy
    have et : tileL ls w.toNat (i + 1) = tileL ls w.toNat i ++ [tileS ls[i % ls.length] w.toNat (wideL ls)] := by
      unfold tileL
      rw [List.range_succ, List.map_append, List.map_cons, List.map_nil, List.getElem?_eq_getElem hy]
      rfl
    have lt : (tileL ls w.toNat i).length = i := by unfold tileL; rw [List.length_map, List.length_range]
    rw [at1]
    rw [et] at ih
    generalize ls[i % ls.length] = z at hz ih
    have lz := g.len z hz
    have lzc : z.cps.toList.length = wideL ls := by rw [Array.length_toList]; exact lz
    (conv => whnf); (repeat (first | (refine brT rfl ?_; (conv => whnf)) | (refine brF rfl ?_; (conv => whnf)) | (refine And.intro rfl ?_; (conv => whnf)) | (refine And.intro (Nat.le_of_ble_eq_true rfl) ?_; (conv => whnf)) | (refine And.intro (by assumption) ?_; (conv => whnf)) | (refine And.intro (by decide) ?_; (conv => whnf)) | (refine br_nself ?_; (conv => whnf)) | (refine br_self ?_; (conv => whnf)) | (refine brT (decide_eq_true (by assumption)) ?_; (conv => whnf)) | (refine brT (by assumption) ?_; (conv => whnf)) | (refine brF (by assumption) ?_; (conv => whnf))))
    refine brT (isLC_cell (Mu.put_same _ _ _)) ?_
    (conv => whnf); (repeat (first | (refine brT rfl ?_; (conv => whnf)) | (refine brF rfl ?_; (conv => whnf)) | (refine And.intro rfl ?_; (conv => whnf)) | (refine And.intro (Nat.le_of_ble_eq_true rfl) ?_; (conv => whnf)) | (refine And.intro (by assumption) ?_; (conv => whnf)) | (refine And.intro (by decide) ?_; (conv => whnf)) | (refine br_nself ?_; (conv => whnf)) | (refine br_self ?_; (conv => whnf)) | (refine brT (decide_eq_true (by assumption)) ?_; (conv => whnf)) | (refine brT (by assumption) ?_; (conv => whnf)) | (refine brF (by assumption) ?_; (conv => whnf))))
    refine ⟨by omega, by omega, ?_⟩
    refine ⟨by rw [rangeP_len, sizeLine_eq]; omega, ?_⟩
    unfold rangeP
    refine lcM1 (fun j : Nat => .int (0 + (j : Nat))) (fun j => .str (sg ((z.cps.toList[j % wideL ls]?).getD 0))) (List.range w.toNat) [] (fun j hj k hk => ?_) ?_
    · have hx : j % wideL ls < z.cps.toList.length := by rw [lzc]; exact Nat.mod_lt _ l3
      rw [List.getElem?_eq_getElem hx] at hk
      have at2 : atI z.cps.toList ((0 + (j : Int)) % (wideL ls : Int)) = some z.cps.toList[j % wideL ls] := by
        rw [Int.zero_add]
        exact atI_nat (j := j % wideL ls) (List.getElem?_eq_getElem hx)
      (conv => whnf); (repeat (first | (refine brT rfl ?_; (conv => whnf)) | (refine brF rfl ?_; (conv => whnf)) | (refine And.intro rfl ?_; (conv => whnf)) | (refine And.intro (Nat.le_of_ble_eq_true rfl) ?_; (conv => whnf)) | (refine And.intro (by assumption) ?_; (conv => whnf)) | (refine And.intro (by decide) ?_; (conv => whnf)) | (refine br_nself ?_; (conv => whnf)) | (refine br_self ?_; (conv => whnf)) | (refine brT (decide_eq_true (by assumption)) ?_; (conv => whnf)) | (refine brT (by assumption) ?_; (conv => whnf)) | (refine brF (by assumption) ?_; (conv => whnf))))
      refine ⟨by omega, ?_⟩
      (conv => whnf); (repeat (first | (refine brT rfl ?_; (conv => whnf)) | (refine brF rfl ?_; (conv => whnf)) | (refine And.intro rfl ?_; (conv => whnf)) | (refine And.intro (Nat.le_of_ble_eq_true rfl) ?_; (conv => whnf)) | (refine And.intro (by assumption) ?_; (conv => whnf)) | (refine And.intro (by decide) ?_; (conv => whnf)) | (refine br_nself ?_; (conv => whnf)) | (refine br_self ?_; (conv => whnf)) | (refine brT (decide_eq_true (by assumption)) ?_; (conv => whnf)) | (refine brT (by assumption) ?_; (conv => whnf)) | (refine brF (by assumption) ?_; (conv => whnf))))
      refine ⟨by rw [sizeLine_eq]; omega, ?_⟩
      rw [at2]
      exact hk
    · (conv => whnf); (repeat (first | (refine brT rfl ?_; (conv => whnf)) | (refine brF rfl ?_; (conv => whnf)) | (refine And.intro rfl ?_; (conv => whnf)) | (refine And.intro (Nat.le_of_ble_eq_true rfl) ?_; (conv => whnf)) | (refine And.intro (by assumption) ?_; (conv => whnf)) | (refine And.intro (by decide) ?_; (conv => whnf)) | (refine br_nself ?_; (conv => whnf)) | (refine br_self ?_; (conv => whnf)) | (refine brT (decide_eq_true (by assumption)) ?_; (conv => whnf)) | (refine brT (by assumption) ?_; (conv => whnf)) | (refine brF (by assumption) ?_; (conv => whnf))))
      have em : (List.range w.toNat).map (fun j => PV.str (sg ((z.cps.toList[j % wideL ls]?).getD 0))) = ((((List.range w.toNat).map fun j => (z.cps.toList[j % wideL ls]?).getD 0)).map sg).map .str := by rw [List.map_map, List.map_map] <;> rfl
      rw [List.nil_append, em]
      refine ⟨_, rfl, ?_, ?_⟩
      · rw [sg_sum, List.length_map, List.length_range]
        have : (Str.ofString "").length = 0 := rfl
        rw [this]
        omega
      · rw [join_sg]
        (conv => whnf); (repeat (first | (refine brT rfl ?_; (conv => whnf)) | (refine brF rfl ?_; (conv => whnf)) | (refine And.intro rfl ?_; (conv => whnf)) | (refine And.intro (Nat.le_of_ble_eq_true rfl) ?_; (conv => whnf)) | (refine And.intro (by assumption) ?_; (conv => whnf)) | (refine And.intro (by decide) ?_; (conv => whnf)) | (refine br_nself ?_; (conv => whnf)) | (refine br_self ?_; (conv => whnf)) | (refine brT (decide_eq_true (by assumption)) ?_; (conv => whnf)) | (refine brT (by assumption) ?_; (conv => whnf)) | (refine brF (by assumption) ?_; (conv => whnf))))
        rw [Mu.put_same]
        refine ⟨by rw [List.length_map, lt, sizeLine_eq]; omega, ?_⟩
        (conv => whnf); (repeat (first | (refine brT rfl ?_; (conv => whnf)) | (refine brF rfl ?_; (conv => whnf)) | (refine And.intro rfl ?_; (conv => whnf)) | (refine And.intro (Nat.le_of_ble_eq_true rfl) ?_; (conv => whnf)) | (refine And.intro (by assumption) ?_; (conv => whnf)) | (refine And.intro (by decide) ?_; (conv => whnf)) | (refine br_nself ?_; (conv => whnf)) | (refine br_self ?_; (conv => whnf)) | (refine brT (decide_eq_true (by assumption)) ?_; (conv => whnf)) | (refine brT (by assumption) ?_; (conv => whnf)) | (refine brF (by assumption) ?_; (conv => whnf))))
        rw [Mu.put_put]
        have e2 : (tileL ls w.toNat i).map PV.str ++ [.str ⟨((List.range w.toNat).map fun j => (z.cps.toList[j % wideL ls]?).getD 0).toArray⟩] = (tileL ls w.toNat i ++ [tileS z w.toNat (wideL ls)]).map .str := by rw [List.map_append] <;> rfl
        rw [e2]
        exact ih _
theorem pure_Shape_tiled_v2 : ∀ as μ q z, c_Shape_tiled_v2 as μ q z → t_Shape_tiled_v2_0.d R_Shape_tiled_v2 (endsOf q z) (startE 7 as) μ := fun as μ q z h => by
  unfold c_Shape_tiled_v2 at h
  split at h
  · rename_i p w h0
    obtain ⟨ls, rfl, g, h⟩ := h
    (conv => whnf); (repeat (first | (refine brT rfl ?_; (conv => whnf)) | (refine brF rfl ?_; (conv => whnf)) | (refine And.intro rfl ?_; (conv => whnf)) | (refine And.intro (Nat.le_of_ble_eq_true rfl) ?_; (conv => whnf)) | (refine And.intro (by assumption) ?_; (conv => whnf)) | (refine And.intro (by decide) ?_; (conv => whnf)) | (refine br_nself ?_; (conv => whnf)) | (refine br_self ?_; (conv => whnf)) | (refine brT (decide_eq_true (by assumption)) ?_; (conv => whnf)) | (refine brT (by assumption) ?_; (conv => whnf)) | (refine brF (by assumption) ?_; (conv => whnf))))
    cases e : sizeB w h0 with
    | some i =>
      rw [e] at h
      (conv => whnf); (repeat (first | (refine brT rfl ?_; (conv => whnf)) | (refine brF rfl ?_; (conv => whnf)) | (refine And.intro rfl ?_; (conv => whnf)) | (refine And.intro (Nat.le_of_ble_eq_true rfl) ?_; (conv => whnf)) | (refine And.intro (by assumption) ?_; (conv => whnf)) | (refine And.intro (by decide) ?_; (conv => whnf)) | (refine br_nself ?_; (conv => whnf)) | (refine br_self ?_; (conv => whnf)) | (refine brT (decide_eq_true (by assumption)) ?_; (conv => whnf)) | (refine brT (by assumption) ?_; (conv => whnf)) | (refine brF (by assumption) ?_; (conv => whnf))))
      exact h
    | none =>
      rw [e] at h
      have hs := sizeB_none e
      (conv => whnf); (repeat (first | (refine brT rfl ?_; (conv => whnf)) | (refine brF rfl ?_; (conv => whnf)) | (refine And.intro rfl ?_; (conv => whnf)) | (refine And.intro (Nat.le_of_ble_eq_true rfl) ?_; (conv => whnf)) | (refine And.intro (by assumption) ?_; (conv => whnf)) | (refine And.intro (by decide) ?_; (conv => whnf)) | (refine br_nself ?_; (conv => whnf)) | (refine br_self ?_; (conv => whnf)) | (refine brT (decide_eq_true (by assumption)) ?_; (conv => whnf)) | (refine brT (by assumption) ?_; (conv => whnf)) | (refine brF (by assumption) ?_; (conv => whnf))))
      intro a ha
      (conv => whnf); (repeat (first | (refine brT rfl ?_; (conv => whnf)) | (refine brF rfl ?_; (conv => whnf)) | (refine And.intro rfl ?_; (conv => whnf)) | (refine And.intro (Nat.le_of_ble_eq_true rfl) ?_; (conv => whnf)) | (refine And.intro (by assumption) ?_; (conv => whnf)) | (refine And.intro (by decide) ?_; (conv => whnf)) | (refine br_nself ?_; (conv => whnf)) | (refine br_self ?_; (conv => whnf)) | (refine brT (decide_eq_true (by assumption)) ?_; (conv => whnf)) | (refine brT (by assumption) ?_; (conv => whnf)) | (refine brF (by assumption) ?_; (conv => whnf))))
      refine ⟨by omega, by omega, ?_⟩
      refine tile_loop (ls := ls) g (h0 := h0) hs.1 hs.2.1 (μ := μ) (a := a) (s6 := none) h0.toNat 0 none none (by omega) fun s4 s5 => ?_
      (conv => whnf); (repeat (first | (refine brT rfl ?_; (conv => whnf)) | (refine brF rfl ?_; (conv => whnf)) | (refine And.intro rfl ?_; (conv => whnf)) | (refine And.intro (Nat.le_of_ble_eq_true rfl) ?_; (conv => whnf)) | (refine And.intro (by assumption) ?_; (conv => whnf)) | (refine And.intro (by decide) ?_; (conv => whnf)) | (refine br_nself ?_; (conv => whnf)) | (refine br_self ?_; (conv => whnf)) | (refine brT (decide_eq_true (by assumption)) ?_; (conv => whnf)) | (refine brT (by assumption) ?_; (conv => whnf)) | (refine brF (by assumption) ?_; (conv => whnf))))
      rw [Mu.put_same]
      (conv => whnf); (repeat (first | (refine brT rfl ?_; (conv => whnf)) | (refine brF rfl ?_; (conv => whnf)) | (refine And.intro rfl ?_; (conv => whnf)) | (refine And.intro (Nat.le_of_ble_eq_true rfl) ?_; (conv => whnf)) | (refine And.intro (by assumption) ?_; (conv => whnf)) | (refine And.intro (by decide) ?_; (conv => whnf)) | (refine br_nself ?_; (conv => whnf)) | (refine br_self ?_; (conv => whnf)) | (refine brT (decide_eq_true (by assumption)) ?_; (conv => whnf)) | (refine brT (by assumption) ?_; (conv => whnf)) | (refine brF (by assumption) ?_; (conv => whnf))))
      rw [Mu.del_put, Mu.del_none ha, Nat.zero_add]
      have gt := good_tile g (n := w.toNat) (m := h0.toNat) (by omega) (by omega) (by omega) (by omega)
      refine ⟨by rw [List.length_map]; have := gt.le; omega, _, rfl, by have := gt.le; omega, fun z hz => by have := gt.len z hz; have := gt.w2; omega, ?_⟩
      rw [good_bad gt]
      exact brF (by decide) ⟨rfl, h⟩
  · exact h.elim
end Px

namespace Px
open PySem PySem.Spec PyProof.Rows L2
/-! ### Shape_blank_v2 -/
def t_Shape_blank_v2_2 : ZB := bOne (sRet (zCm .Shape 295 (zVar 0) (zCons (zBin .Mult (zLst (zDisp (zCons (zVar 4) zNil))) (zVar 2)) zNil)))
def t_Shape_blank_v2_1 : ZB := bCons (sSet 4 (zMulS (zIf (tTr (zVar 3)) (zStr "#") (zStr ".")) (zVar 1))) t_Shape_blank_v2_2
def t_Shape_blank_v2_0 : ZB := bCons (sExpr (zCall 241 (zCons (zVar 1) (zCons (zVar 2) zNil)))) t_Shape_blank_v2_1
def c_Shape_blank_v2 : Ct := fun as μ q x => match as with
  | [.cls .Shape, .int w, .int h, .bl o] => (match sizeB w h with
    | none => q (shapeP (blankL o w.toNat h.toNat)) μ
    | some i => x (.InvalidShape, [.int i]) μ)
  | _ => False
theorem len_Shape_blank_v2 : ∀ as μ q z, c_Shape_blank_v2 as μ q z → as.length = 4 := fun as μ q z h => by
  unfold c_Shape_blank_v2 at h
  split at h <;> first | rfl | exact h.elim
def L_Shape_blank_v2 : Tbl := [(.g 241 [], c_check_size), (.cm .Shape 295 [], c_Shape_of)]
def H_Shape_blank_v2 : Tbl := []
def Q_Shape_blank_v2 : Qt := []
def R_Shape_blank_v2 : Rt := { L := L_Shape_blank_v2, LH := H_Shape_blank_v2, Q := Q_Shape_blank_v2 }
theorem pure_Shape_blank_v2 : ∀ as μ q z, c_Shape_blank_v2 as μ q z → t_Shape_blank_v2_0.d R_Shape_blank_v2 (endsOf q z) (startE 5 as) μ := fun as μ q z h => by
  unfold c_Shape_blank_v2 at h
  split at h
  · rename_i w h0 o
    (conv => whnf); (repeat (first | (refine brT rfl ?_; (conv => whnf)) | (refine brF rfl ?_; (conv => whnf)) | (refine And.intro rfl ?_; (conv => whnf)) | (refine And.intro (Nat.le_of_ble_eq_true rfl) ?_; (conv => whnf)) | (refine And.intro (by assumption) ?_; (conv => whnf)) | (refine And.intro (by decide) ?_; (conv => whnf)) | (refine br_nself ?_; (conv => whnf)) | (refine br_self ?_; (conv => whnf)) | (refine brT (decide_eq_true (by assumption)) ?_; (conv => whnf)) | (refine brT (by assumption) ?_; (conv => whnf)) | (refine brF (by assumption) ?_; (conv => whnf))))
    cases e : sizeB w h0 with
    | some i =>
      rw [e] at h
      (conv => whnf); (repeat (first | (refine brT rfl ?_; (conv => whnf)) | (refine brF rfl ?_; (conv => whnf)) | (refine And.intro rfl ?_; (conv => whnf)) | (refine And.intro (Nat.le_of_ble_eq_true rfl) ?_; (conv => whnf)) | (refine And.intro (by assumption) ?_; (conv => whnf)) | (refine And.intro (by decide) ?_; (conv => whnf)) | (refine br_nself ?_; (conv => whnf)) | (refine br_self ?_; (conv => whnf)) | (refine brT (decide_eq_true (by assumption)) ?_; (conv => whnf)) | (refine brT (by assumption) ?_; (conv => whnf)) | (refine brF (by assumption) ?_; (conv => whnf))))
      exact h
    | none =>
      rw [e] at h
      have hs := sizeB_none e
      (conv => whnf); (repeat (first | (refine brT rfl ?_; (conv => whnf)) | (refine brF rfl ?_; (conv => whnf)) | (refine And.intro rfl ?_; (conv => whnf)) | (refine And.intro (Nat.le_of_ble_eq_true rfl) ?_; (conv => whnf)) | (refine And.intro (by assumption) ?_; (conv => whnf)) | (refine And.intro (by decide) ?_; (conv => whnf)) | (refine br_nself ?_; (conv => whnf)) | (refine br_self ?_; (conv => whnf)) | (refine brT (decide_eq_true (by assumption)) ?_; (conv => whnf)) | (refine brT (by assumption) ?_; (conv => whnf)) | (refine brF (by assumption) ?_; (conv => whnf))))
      have gb := good_blank o (n := w.toNat) (m := h0.toNat) (by omega) (by omega) (by omega) (by omega)
      have fin : mkK .Shape kShape [.tup ((blankL o w.toNat h0.toNat).map .str)] μ q z := by
        refine ⟨_, rfl, by have := gb.le; omega, fun z hz => by have := gb.len z hz; have := gb.w2; omega, ?_⟩
        rw [good_bad gb]
        exact brF (by decide) ⟨rfl, h⟩
      unfold blankL at fin
      rw [List.map_replicate] at fin
      cases o
      all_goals
        (conv => whnf); (repeat (first | (refine brT rfl ?_; (conv => whnf)) | (refine brF rfl ?_; (conv => whnf)) | (refine And.intro rfl ?_; (conv => whnf)) | (refine And.intro (Nat.le_of_ble_eq_true rfl) ?_; (conv => whnf)) | (refine And.intro (by assumption) ?_; (conv => whnf)) | (refine And.intro (by decide) ?_; (conv => whnf)) | (refine br_nself ?_; (conv => whnf)) | (refine br_self ?_; (conv => whnf)) | (refine brT (decide_eq_true (by assumption)) ?_; (conv => whnf)) | (refine brT (by assumption) ?_; (conv => whnf)) | (refine brF (by assumption) ?_; (conv => whnf))))
        refine ⟨by omega, ?_⟩
        (conv => whnf); (repeat (first | (refine brT rfl ?_; (conv => whnf)) | (refine brF rfl ?_; (conv => whnf)) | (refine And.intro rfl ?_; (conv => whnf)) | (refine And.intro (Nat.le_of_ble_eq_true rfl) ?_; (conv => whnf)) | (refine And.intro (by assumption) ?_; (conv => whnf)) | (refine And.intro (by decide) ?_; (conv => whnf)) | (refine br_nself ?_; (conv => whnf)) | (refine br_self ?_; (conv => whnf)) | (refine brT (decide_eq_true (by assumption)) ?_; (conv => whnf)) | (refine brT (by assumption) ?_; (conv => whnf)) | (refine brF (by assumption) ?_; (conv => whnf))))
        refine ⟨by omega, by omega, by rw [sizeLine_eq]; show 1 * h0.toNat ≤ _; omega, ?_⟩
        rw [List.flatten_replicate_singleton]
        (conv => whnf); (repeat (first | (refine brT rfl ?_; (conv => whnf)) | (refine brF rfl ?_; (conv => whnf)) | (refine And.intro rfl ?_; (conv => whnf)) | (refine And.intro (Nat.le_of_ble_eq_true rfl) ?_; (conv => whnf)) | (refine And.intro (by assumption) ?_; (conv => whnf)) | (refine And.intro (by decide) ?_; (conv => whnf)) | (refine br_nself ?_; (conv => whnf)) | (refine br_self ?_; (conv => whnf)) | (refine brT (decide_eq_true (by assumption)) ?_; (conv => whnf)) | (refine brT (by assumption) ?_; (conv => whnf)) | (refine brF (by assumption) ?_; (conv => whnf))))
        refine ⟨by rw [List.length_replicate]; omega, ?_⟩
        exact fin
  · exact h.elim
end Px

namespace Px
open PySem PySem.Spec PyProof.Rows L2
/-! ### _law_refused_v6 -/
def f__law_refused_v6_0 : ZB := (bOne (sTry .InvalidShape 6 (bCons (sIf (tCmp .Eq (zVar 5) (zInt 0)) (bOne (sExpr (zMeth 334 (zVar 1) (zCons (zIdx (zVar 2) (zInt 0)) (zCons (zIdx (zVar 2) (zInt 1)) zNil))))) bNil)
  (bCons (sIf (tCmp .Eq (zVar 5) (zInt 1)) (bOne (sExpr (zCm .Shape 236 (zCls .Shape) (zCons (zIdx (zVar 2) (zInt 0)) (zCons (zIdx (zVar 2) (zInt 1)) zNil))))) bNil)
  (bOne (sIf (tCmp .Eq (zVar 5) (zInt 2)) (bOne (sExpr (zCmK .Shape 236 (zCls .Shape) (zCons (zIdx (zVar 2) (zInt 0)) (zCons (zIdx (zVar 2) (zInt 1)) zNil)) [298] (zKcons (zBl true) zKnil)))) bNil))))
  (bOne (sSet 4 (zBin .Add (zVar 4) (zBlt .int (zCons (zCall 80 (zCons (zXat "line" (zVar 6)) (zCons (zVar 3) zNil))) zNil)))))))
def t__law_refused_v6_5 : ZB := bOne (sRet (zCmp .Eq (zVar 4) (zInt 3)))
def t__law_refused_v6_4 : ZB := bCons (sFor (.one 5) (iRg1 (zInt 3)) f__law_refused_v6_0) t__law_refused_v6_5
def t__law_refused_v6_3 : ZB := bCons (sSet 4 (zInt 0)) t__law_refused_v6_4
def t__law_refused_v6_2 : ZB := bCons (sIf (tOr [(tCmp .Lt (zIdx (zVar 2) (zInt 1)) (zInt 1)), (tCmp .Lt (zIdx (zVar 2) (zInt 0)) (zInt 1)), (tCmp .Gt (zIdx (zVar 2) (zInt 0)) (zInt 40))]) (bOne (sSet 3 (zInt 0))) bNil) t__law_refused_v6_3
def t__law_refused_v6_1 : ZB := bCons (sSet 3 (zInt 40)) t__law_refused_v6_2
def t__law_refused_v6_0 : ZB := bCons (sSet 2 (zIdx (zLst (zDisp (zCons (zTup (zCons (zInt 41) (zCons (zInt 2) zNil))) (zCons (zTup (zCons (zInt 2) (zCons (zInt 41) zNil))) (zCons (zTup (zCons (zInt 0) (zCons (zInt 3) zNil))) (zCons (zTup (zCons (zInt 3) (zCons (zInt 0) zNil))) (zCons (zTup (zCons (zInt 43) (zCons (zInt 45) zNil))) (zCons (zTup (zCons (zInt 40) (zCons (zInt 41) zNil))) (zCons (zTup (zCons (zNeg (zInt 1)) (zCons (zInt 2) zNil))) (zCons (zTup (zCons (zInt 0) (zCons (zInt 0) zNil))) zNil)))))))))) (zCall 48 (zCons (zVar 0) (zCons (zInt 8) zNil))))) t__law_refused_v6_1
def c__law_refused_v6 : Ct := fun as μ q _ => match as with
  | [.box, p] => ∃ ls : List Str, p = shapeP ls ∧ GoodLn ls ∧ q (.bl true) μ
  | _ => False
theorem len__law_refused_v6 : ∀ as μ q z, c__law_refused_v6 as μ q z → as.length = 2 := fun as μ q z h => by
  unfold c__law_refused_v6 at h
  split at h <;> first | rfl | exact h.elim
def L__law_refused_v6 : Tbl := [(.g 48 [], cDraw), (.m .Shape 334 [], c_Shape_tiled_v2), (.cm .Shape 236 [], (dfl [.bl false] c_Shape_blank_v2)), (.cm .Shape 236 [298], c_Shape_blank_v2)]
def H__law_refused_v6 : Tbl := [(.g 80 [], c__law_int)]
def Q__law_refused_v6 : Qt := []
def R__law_refused_v6 : Rt := { L := L__law_refused_v6, LH := H__law_refused_v6, Q := Q__law_refused_v6 }
theorem ref_step {P : DEn} {ls : List Str} (g : GoodLn ls) {w h line : Int} (e : sizeB w h = some line) {t : Int} (ht : t = 0 ∨ t = 1 ∨ t = 2) {m : Int} {rest : List PV} {s5 : Option PV} {μ : Mu} (k : ∀ s5, Lk (forD (.one 5) (f__law_refused_v6_0.d R__law_refused_v6) rest P [some .box, some (shapeP ls), some (.tup [.int w, .int h]), some (.int line), some (.int (m + 1)), s5, none] μ)) :
    Lk (forD (.one 5) (f__law_refused_v6_0.d R__law_refused_v6) (.int t :: rest) P [some .box, some (shapeP ls), some (.tup [.int w, .int h]), some (.int line), some (.int m), s5, none] μ) := by
  refine forD_c rfl ?_
  rcases ht with rfl | rfl | rfl
  · (conv => whnf); (repeat (first | (refine brT rfl ?_; (conv => whnf)) | (refine brF rfl ?_; (conv => whnf)) | (refine And.intro rfl ?_; (conv => whnf)) | (refine And.intro (Nat.le_of_ble_eq_true rfl) ?_; (conv => whnf)) | (refine And.intro (by assumption) ?_; (conv => whnf)) | (refine And.intro (by decide) ?_; (conv => whnf)) | (refine br_nself ?_; (conv => whnf)) | (refine br_self ?_; (conv => whnf)) | (refine brT (decide_eq_true (by assumption)) ?_; (conv => whnf)) | (refine brT (by assumption) ?_; (conv => whnf)) | (refine brF (by assumption) ?_; (conv => whnf))))
    refine ⟨ls, rfl, g, ?_⟩
    rw [e]
    (conv => whnf); (repeat (first | (refine brT rfl ?_; (conv => whnf)) | (refine brF rfl ?_; (conv => whnf)) | (refine And.intro rfl ?_; (conv => whnf)) | (refine And.intro (Nat.le_of_ble_eq_true rfl) ?_; (conv => whnf)) | (refine And.intro (by assumption) ?_; (conv => whnf)) | (refine And.intro (by decide) ?_; (conv => whnf)) | (refine br_nself ?_; (conv => whnf)) | (refine br_self ?_; (conv => whnf)) | (refine brT (decide_eq_true (by assumption)) ?_; (conv => whnf)) | (refine brT (by assumption) ?_; (conv => whnf)) | (refine brF (by assumption) ?_; (conv => whnf))))
    intro a dd
    (conv => whnf); (repeat (first | (refine brT rfl ?_; (conv => whnf)) | (refine brF rfl ?_; (conv => whnf)) | (refine And.intro rfl ?_; (conv => whnf)) | (refine And.intro (Nat.le_of_ble_eq_true rfl) ?_; (conv => whnf)) | (refine And.intro (by assumption) ?_; (conv => whnf)) | (refine And.intro (by decide) ?_; (conv => whnf)) | (refine br_nself ?_; (conv => whnf)) | (refine br_self ?_; (conv => whnf)) | (refine brT (decide_eq_true (by assumption)) ?_; (conv => whnf)) | (refine brT (by assumption) ?_; (conv => whnf)) | (refine brF (by assumption) ?_; (conv => whnf))))
    rw [decide_eq_true rfl]
    exact k _
  · (conv => whnf); (repeat (first | (refine brT rfl ?_; (conv => whnf)) | (refine brF rfl ?_; (conv => whnf)) | (refine And.intro rfl ?_; (conv => whnf)) | (refine And.intro (Nat.le_of_ble_eq_true rfl) ?_; (conv => whnf)) | (refine And.intro (by assumption) ?_; (conv => whnf)) | (refine And.intro (by decide) ?_; (conv => whnf)) | (refine br_nself ?_; (conv => whnf)) | (refine br_self ?_; (conv => whnf)) | (refine brT (decide_eq_true (by assumption)) ?_; (conv => whnf)) | (refine brT (by assumption) ?_; (conv => whnf)) | (refine brF (by assumption) ?_; (conv => whnf))))
    rw [e]
    (conv => whnf); (repeat (first | (refine brT rfl ?_; (conv => whnf)) | (refine brF rfl ?_; (conv => whnf)) | (refine And.intro rfl ?_; (conv => whnf)) | (refine And.intro (Nat.le_of_ble_eq_true rfl) ?_; (conv => whnf)) | (refine And.intro (by assumption) ?_; (conv => whnf)) | (refine And.intro (by decide) ?_; (conv => whnf)) | (refine br_nself ?_; (conv => whnf)) | (refine br_self ?_; (conv => whnf)) | (refine brT (decide_eq_true (by assumption)) ?_; (conv => whnf)) | (refine brT (by assumption) ?_; (conv => whnf)) | (refine brF (by assumption) ?_; (conv => whnf))))
    intro a dd
    (conv => whnf); (repeat (first | (refine brT rfl ?_; (conv => whnf)) | (refine brF rfl ?_; (conv => whnf)) | (refine And.intro rfl ?_; (conv => whnf)) | (refine And.intro (Nat.le_of_ble_eq_true rfl) ?_; (conv => whnf)) | (refine And.intro (by assumption) ?_; (conv => whnf)) | (refine And.intro (by decide) ?_; (conv => whnf)) | (refine br_nself ?_; (conv => whnf)) | (refine br_self ?_; (conv => whnf)) | (refine brT (decide_eq_true (by assumption)) ?_; (conv => whnf)) | (refine brT (by assumption) ?_; (conv => whnf)) | (refine brF (by assumption) ?_; (conv => whnf))))
    rw [decide_eq_true rfl]
    exact k _
  · (conv => whnf); (repeat (first | (refine brT rfl ?_; (conv => whnf)) | (refine brF rfl ?_; (conv => whnf)) | (refine And.intro rfl ?_; (conv => whnf)) | (refine And.intro (Nat.le_of_ble_eq_true rfl) ?_; (conv => whnf)) | (refine And.intro (by assumption) ?_; (conv => whnf)) | (refine And.intro (by decide) ?_; (conv => whnf)) | (refine br_nself ?_; (conv => whnf)) | (refine br_self ?_; (conv => whnf)) | (refine brT (decide_eq_true (by assumption)) ?_; (conv => whnf)) | (refine brT (by assumption) ?_; (conv => whnf)) | (refine brF (by assumption) ?_; (conv => whnf))))
    rw [e]
    (conv => whnf); (repeat (first | (refine brT rfl ?_; (conv => whnf)) | (refine brF rfl ?_; (conv => whnf)) | (refine And.intro rfl ?_; (conv => whnf)) | (refine And.intro (Nat.le_of_ble_eq_true rfl) ?_; (conv => whnf)) | (refine And.intro (by assumption) ?_; (conv => whnf)) | (refine And.intro (by decide) ?_; (conv => whnf)) | (refine br_nself ?_; (conv => whnf)) | (refine br_self ?_; (conv => whnf)) | (refine brT (decide_eq_true (by assumption)) ?_; (conv => whnf)) | (refine brT (by assumption) ?_; (conv => whnf)) | (refine brF (by assumption) ?_; (conv => whnf))))
    intro a dd
    (conv => whnf); (repeat (first | (refine brT rfl ?_; (conv => whnf)) | (refine brF rfl ?_; (conv => whnf)) | (refine And.intro rfl ?_; (conv => whnf)) | (refine And.intro (Nat.le_of_ble_eq_true rfl) ?_; (conv => whnf)) | (refine And.intro (by assumption) ?_; (conv => whnf)) | (refine And.intro (by decide) ?_; (conv => whnf)) | (refine br_nself ?_; (conv => whnf)) | (refine br_self ?_; (conv => whnf)) | (refine brT (decide_eq_true (by assumption)) ?_; (conv => whnf)) | (refine brT (by assumption) ?_; (conv => whnf)) | (refine brF (by assumption) ?_; (conv => whnf))))
    rw [decide_eq_true rfl]
    exact k _
theorem ref_end {ls : List Str} (g : GoodLn ls) {w h line : Int} (e : sizeB w h = some line) {q : QV} {z : QX} {μ : Mu} (hq : q (.bl true) μ) : t__law_refused_v6_4.d R__law_refused_v6 (endsOf q z) [some .box, some (shapeP ls), some (.tup [.int w, .int h]), some (.int line), some (.int 0), none, none] μ := by
  (conv => whnf); (repeat (first | (refine brT rfl ?_; (conv => whnf)) | (refine brF rfl ?_; (conv => whnf)) | (refine And.intro rfl ?_; (conv => whnf)) | (refine And.intro (Nat.le_of_ble_eq_true rfl) ?_; (conv => whnf)) | (refine And.intro (by assumption) ?_; (conv => whnf)) | (refine And.intro (by decide) ?_; (conv => whnf))))
  refine ref_step g e (.inl rfl) fun s5 => ?_
  refine ref_step g e (.inr (.inl rfl)) fun s5 => ?_
  refine ref_step g e (.inr (.inr rfl)) fun s5 => ?_
  refine forD_n rfl ?_
  (conv => whnf); (repeat (first | (refine brT rfl ?_; (conv => whnf)) | (refine brF rfl ?_; (conv => whnf)) | (refine And.intro rfl ?_; (conv => whnf)) | (refine And.intro (Nat.le_of_ble_eq_true rfl) ?_; (conv => whnf)) | (refine And.intro (by assumption) ?_; (conv => whnf)) | (refine And.intro (by decide) ?_; (conv => whnf))))
  exact hq
theorem pure__law_refused_v6 : ∀ as μ q z, c__law_refused_v6 as μ q z → t__law_refused_v6_0.d R__law_refused_v6 (endsOf q z) (startE 7 as) μ := fun as μ q z h => by
  unfold c__law_refused_v6 at h
  split at h
  · rename_i p
    obtain ⟨ls, rfl, g, h⟩ := h
    have tail := fun w h0 line e => @ref_end ls g w h0 line e q z μ h
    unfold t__law_refused_v6_0 t__law_refused_v6_1 t__law_refused_v6_2 t__law_refused_v6_3
    generalize t__law_refused_v6_4 = T at tail ⊢
    (conv => whnf); (repeat (first | (refine brT rfl ?_; (conv => whnf)) | (refine brF rfl ?_; (conv => whnf)) | (refine And.intro rfl ?_; (conv => whnf)) | (refine And.intro (Nat.le_of_ble_eq_true rfl) ?_; (conv => whnf)) | (refine And.intro (by assumption) ?_; (conv => whnf)) | (refine And.intro (by decide) ?_; (conv => whnf)) | (refine br_nself ?_; (conv => whnf)) | (refine br_self ?_; (conv => whnf)) | (refine brT (decide_eq_true (by assumption)) ?_; (conv => whnf)) | (refine brT (by assumption) ?_; (conv => whnf)) | (refine brF (by assumption) ?_; (conv => whnf))))
    refine draw_of (by omega) (by omega) fun r r0 r1 => ?_
    have : r = 0 ∨ r = 1 ∨ r = 2 ∨ r = 3 ∨ r = 4 ∨ r = 5 ∨ r = 6 ∨ r = 7 := by omega
    rcases this with rfl | rfl | rfl | rfl | rfl | rfl | rfl | rfl
    all_goals
      (conv => whnf); (repeat (first | (refine brT rfl ?_; (conv => whnf)) | (refine brF rfl ?_; (conv => whnf)) | (refine And.intro rfl ?_; (conv => whnf)) | (refine And.intro (Nat.le_of_ble_eq_true rfl) ?_; (conv => whnf)) | (refine And.intro (by assumption) ?_; (conv => whnf)) | (refine And.intro (by decide) ?_; (conv => whnf)) | (refine br_nself ?_; (conv => whnf)) | (refine br_self ?_; (conv => whnf)) | (refine brT (decide_eq_true (by assumption)) ?_; (conv => whnf)) | (refine brT (by assumption) ?_; (conv => whnf)) | (refine brF (by assumption) ?_; (conv => whnf))))
      exact tail _ _ _ (by decide)
  · exact h.elim
end Px

namespace Px
open PySem PySem.Spec PyProof.Rows L2
/-! ### law_k60 -/
def f_law_k60_0 : ZB := (bOne (sExpr (zApp (zVar 12) (zJoin (zStr "") (zLst (zComp (.one 10) [10] (iRg1 (zVar 7)) tsNil (zIdx (zIdx (zVar 4) (zBin .Mod (zVar 13) (zVar 3))) (zBin .Mod (zVar 10) (zVar 2)))))))))
def f_law_k60_1 : ZB := (bOne (sExpr (zApp (zVar 12) (zJoin (zStr "") (zLst (zComp (.one 10) [10] (iRg1 (zVar 14)) tsNil (zIdx (zIdx (zVar 4) (zBin .Mod (zVar 13) (zVar 3))) (zBin .Mod (zVar 10) (zVar 2)))))))))
def t_law_k60_20 : ZB := bOne (sRet (zAnd [(zCall 144 (zCons (zVar 1) (zCons (zVar 5) zNil))), (zCall 175 (zCons (zVar 5) (zCons (zVar 4) zNil)))]))
def t_law_k60_19 : ZB := bCons (sIf (tNot (tTr (zCall 175 (zCons (zCmK .Shape 236 (zCls .Shape) (zCons (zVar 7) (zCons (zVar 8) zNil)) [298] (zKcons (zBl true) zKnil)) (zCons (zBin .Mult (zLst (zDisp (zCons (zMulS (zStr "#") (zVar 7)) zNil))) (zVar 8)) zNil))))) (bOne (sRet (zBl false))) bNil) t_law_k60_20
def t_law_k60_18 : ZB := bCons (sIf (tNot (tTr (zCall 175 (zCons (zCmK .Shape 236 (zCls .Shape) (zCons (zVar 7) (zCons (zVar 8) zNil)) [298] (zKcons (zBl false) zKnil)) (zCons (zBin .Mult (zLst (zDisp (zCons (zMulS (zStr ".") (zVar 7)) zNil))) (zVar 8)) zNil))))) (bOne (sRet (zBl false))) bNil) t_law_k60_19
def t_law_k60_17 : ZB := bCons (sIf (tNot (tTr (zCall 175 (zCons (zCm .Shape 236 (zCls .Shape) (zCons (zVar 7) (zCons (zVar 8) zNil))) (zCons (zBin .Mult (zLst (zDisp (zCons (zMulS (zStr ".") (zVar 7)) zNil))) (zVar 8)) zNil))))) (bOne (sRet (zBl false))) bNil) t_law_k60_18
def t_law_k60_16 : ZB := bCons (sFz 12 (sIf (tOr [(tNot (tTr (zCall 175 (zCons (zMeth 334 (zVar 5) (zCons (zVar 14) (zCons (zInt 4) zNil))) (zCons (zVar 12) zNil))))), (tNot (tTr (zCall 175 (zCons (zMeth0 287 (zVar 5)) (zCons (zVar 9) zNil)))))]) (bOne (sRet (zBl false))) bNil)) t_law_k60_17
def t_law_k60_15 : ZB := bCons (sFor (.one 13) (iRg1 (zInt 4)) f_law_k60_1) t_law_k60_16
def t_law_k60_14 : ZB := bCons (sSet 12 (zNew (zDisp zNil))) t_law_k60_15
def t_law_k60_13 : ZB := bCons (sSet 14 (zBin .Add (zInt 1) (zCall 48 (zCons (zVar 1) (zCons (zInt 9) zNil))))) t_law_k60_14
def t_law_k60_12 : ZB := bCons (sFz 12 (sIf (tOr [(tNot (tTr (zCall 175 (zCons (zMeth 334 (zVar 5) (zCons (zVar 7) (zCons (zVar 8) zNil))) (zCons (zVar 12) zNil))))), (tNot (tTr (zCall 175 (zCons (zVar 5) (zCons (zVar 4) zNil)))))]) (bOne (sRet (zBl false))) bNil)) t_law_k60_13
def t_law_k60_11 : ZB := bCons (sFor (.one 13) (iRg1 (zVar 8)) f_law_k60_0) t_law_k60_12
def t_law_k60_10 : ZB := bCons (sSet 12 (zNew (zDisp zNil))) t_law_k60_11
def t_law_k60_9 : ZB := bCons (sIf (tOr [(tNot (tTr (zCall 175 (zCons (zMeth0 287 (zVar 5)) (zCons (zVar 9) zNil))))), (tNot (tTr (zCall 175 (zCons (zMeth0 287 (zMeth0 287 (zVar 5))) (zCons (zVar 4) zNil)))))]) (bOne (sRet (zBl false))) bNil) t_law_k60_10
def t_law_k60_8 : ZB := bCons (sSetL 9 true (.one 11) [11] (iSq (zVar 4)) tsNil (zJoin (zStr "") (zLst (zComp (.one 10) [10] (iRg1 (zVar 2)) tsNil (zIdx (zVar 11) (zBin .Sub (zBin .Sub (zVar 2) (zInt 1)) (zVar 10))))))) t_law_k60_9
def t_law_k60_7 : ZB := bCons (sSet 8 (zBin .Add (zInt 1) (zCall 48 (zCons (zVar 1) (zCons (zVar 6) zNil))))) t_law_k60_8
def t_law_k60_6 : ZB := bCons (sSet 7 (zBin .Add (zInt 1) (zCall 48 (zCons (zVar 1) (zCons (zVar 6) zNil))))) t_law_k60_7
def t_law_k60_5 : ZB := bCons (sIf (tCmp .Eq (zCall 48 (zCons (zVar 1) (zCons (zInt 8) zNil))) (zInt 7)) (bOne (sSet 6 (zInt 40))) bNil) t_law_k60_6
def t_law_k60_4 : ZB := bCons (sSet 6 (zInt 14)) t_law_k60_5
def t_law_k60_3 : ZB := bCons (sFz 4 (sSet 5 (zCm .Shape 295 (zCls .Shape) (zCons (zVar 4) zNil)))) t_law_k60_4
def t_law_k60_2 : ZB := bCons (sSet 4 (zCall 99 (zCons (zVar 1) (zCons (zVar 2) (zCons (zVar 3) zNil))))) t_law_k60_3
def t_law_k60_1 : ZB := bCons (sSet 3 (zBin .Add (zInt 1) (zCall 48 (zCons (zVar 1) (zCons (zInt 5) zNil))))) t_law_k60_2
def t_law_k60_0 : ZB := bCons (sSet 2 (zBin .Add (zInt 1) (zCall 48 (zCons (zVar 1) (zCons (zInt 6) zNil))))) t_law_k60_1

def L_law_k60 : Tbl := [(.g 48 [], cDraw), (.g 99 [], c__law_lines), (.cm .Shape 295 [], c_Shape_of), (.g 175 [], c__law_same_shape), (.m .Shape 287 [], c_Shape_mirrored_v2), (.m .Shape 334 [], c_Shape_tiled_v2), (.cm .Shape 236 [], (dfl [.bl false] c_Shape_blank_v2)), (.cm .Shape 236 [298], c_Shape_blank_v2), (.g 144 [], c__law_refused_v6)]
def H_law_k60 : Tbl := []
def Q_law_k60 : Qt := []
def R_law_k60 : Rt := { L := L_law_k60, LH := H_law_k60, Q := Q_law_k60 }
theorem k60_t0 {P : DEn} {ls : List Str} (g : GoodLn ls) {w : Int} (w1 : 1 ≤ w) (w2 : w ≤ 40) {μ : Mu} {a : Addr} {s5 s6 s8 s9 s10 s11 s14 : Option PV} : ∀ (m i : Nat) (s13 : Option PV), i + m ≤ 40 → (∀ s13, P.nx [none, some .box, some (.int (wideL ls : Nat)), some (.int (ls.length : Nat)), some (.lst (ls.map .str)), s5, s6, some (.int w), s8, s9, s10, s11, some (.cell a), s13, s14] (μ.put a (.lst ((tileL ls w.toNat (i + m)).map .str)))) →
    Lk (forD (.one 13) (f_law_k60_0.d R_law_k60) (rangeP (i : Nat) m) P [none, some .box, some (.int (wideL ls : Nat)), some (.int (ls.length : Nat)), some (.lst (ls.map .str)), s5, s6, some (.int w), s8, s9, s10, s11, some (.cell a), s13, s14] (μ.put a (.lst ((tileL ls w.toNat i).map .str))))
  | 0, i, s13, hm, h => forD_n rfl (h s13)
  | m + 1, i, s13, hm, h => by
    have ih := k60_t0 (P := P) g w1 w2 (μ := μ) (a := a) (s5 := s5) (s6 := s6) (s8 := s8) (s9 := s9) (s10 := s10) (s11 := s11) (s14 := s14) m (i + 1) (some (.int (i : Nat))) (by omega) (fun s13 => by rw [show i + 1 + m = i + (m + 1) by omega]; exact h s13)
    rw [rangeP_cons]
    have l1 := g.ne
    have l2 := g.le
    have l3 := g.w1
    have l4 := g.w2
    have hy : i % ls.length < ls.length := Nat.mod_lt _ l1
    have at1 : atI (ls.map PV.str) ((i : Int) % (ls.length : Int)) = some (.str ls[i % ls.length]) := atI_nat (j := i % ls.length) (by rw [List.getElem?_map, List.getElem?_eq_getElem hy] <;> rfl)
    have hz := List.getElem_mem hy
    have et : tileL ls w.toNat (i + 1) = tileL ls w.toNat i ++ [tileS ls[i % ls.length] w.toNat (wideL ls)] := by
      unfold tileL
      rw [List.range_succ, List.map_append, List.map_cons, List.map_nil, List.getElem?_eq_getElem hy]
      rfl
    have lt : (tileL ls w.toNat i).length = i := by unfold tileL; rw [List.length_map, List.length_range]
    rw [et] at ih
    generalize ls[i % ls.length] = z at hz ih at1
    have lz := g.len z hz
    have lzc : z.cps.toList.length = wideL ls := by rw [Array.length_toList]; exact lz
    refine forD_c rfl ?_
    (conv => whnf); (repeat (first | (refine brT rfl ?_; (conv => whnf)) | (refine brF rfl ?_; (conv => whnf)) | (refine And.intro rfl ?_; (conv => whnf)) | (refine And.intro (Nat.le_of_ble_eq_true rfl) ?_; (conv => whnf)) | (refine And.intro (by assumption) ?_; (conv => whnf)) | (refine And.intro (by decide) ?_; (conv => whnf)) | (refine br_nself ?_; (conv => whnf)) | (refine br_self ?_; (conv => whnf)) | (refine brT (decide_eq_true (by assumption)) ?_; (conv => whnf)) | (refine brT (by assumption) ?_; (conv => whnf)) | (refine brF (by assumption) ?_; (conv => whnf))))
    refine brT (isLC_cell (Mu.put_same _ _ _)) ?_
    (conv => whnf); (repeat (first | (refine brT rfl ?_; (conv => whnf)) | (refine brF rfl ?_; (conv => whnf)) | (refine And.intro rfl ?_; (conv => whnf)) | (refine And.intro (Nat.le_of_ble_eq_true rfl) ?_; (conv => whnf)) | (refine And.intro (by assumption) ?_; (conv => whnf)) | (refine And.intro (by decide) ?_; (conv => whnf)) | (refine br_nself ?_; (conv => whnf)) | (refine br_self ?_; (conv => whnf)) | (refine brT (decide_eq_true (by assumption)) ?_; (conv => whnf)) | (refine brT (by assumption) ?_; (conv => whnf)) | (refine brF (by assumption) ?_; (conv => whnf))))
    refine ⟨by omega, by omega, ?_⟩
    refine ⟨by rw [rangeP_len, sizeLine_eq]; omega, ?_⟩
    unfold rangeP
    refine lcM1 (fun j : Nat => .int (0 + (j : Nat))) (fun j => .str (sg ((z.cps.toList[j % wideL ls]?).getD 0))) (List.range w.toNat) [] (fun j hj k hk => ?_) ?_
    · have hx : j % wideL ls < z.cps.toList.length := by rw [lzc]; exact Nat.mod_lt _ l3
      rw [List.getElem?_eq_getElem hx] at hk
      have at2 : atI z.cps.toList ((0 + (j : Int)) % (wideL ls : Int)) = some z.cps.toList[j % wideL ls] := by
        rw [Int.zero_add]
        exact atI_nat (j := j % wideL ls) (List.getElem?_eq_getElem hx)
      (conv => whnf); (repeat (first | (refine brT rfl ?_; (conv => whnf)) | (refine brF rfl ?_; (conv => whnf)) | (refine And.intro rfl ?_; (conv => whnf)) | (refine And.intro (Nat.le_of_ble_eq_true rfl) ?_; (conv => whnf)) | (refine And.intro (by assumption) ?_; (conv => whnf)) | (refine And.intro (by decide) ?_; (conv => whnf)) | (refine br_nself ?_; (conv => whnf)) | (refine br_self ?_; (conv => whnf)) | (refine brT (decide_eq_true (by assumption)) ?_; (conv => whnf)) | (refine brT (by assumption) ?_; (conv => whnf)) | (refine brF (by assumption) ?_; (conv => whnf))))
      refine ⟨by omega, ?_⟩
      (conv => whnf); (repeat (first | (refine brT rfl ?_; (conv => whnf)) | (refine brF rfl ?_; (conv => whnf)) | (refine And.intro rfl ?_; (conv => whnf)) | (refine And.intro (Nat.le_of_ble_eq_true rfl) ?_; (conv => whnf)) | (refine And.intro (by assumption) ?_; (conv => whnf)) | (refine And.intro (by decide) ?_; (conv => whnf)) | (refine br_nself ?_; (conv => whnf)) | (refine br_self ?_; (conv => whnf)) | (refine brT (decide_eq_true (by assumption)) ?_; (conv => whnf)) | (refine brT (by assumption) ?_; (conv => whnf)) | (refine brF (by assumption) ?_; (conv => whnf))))
      rw [at1]
      (conv => whnf); (repeat (first | (refine brT rfl ?_; (conv => whnf)) | (refine brF rfl ?_; (conv => whnf)) | (refine And.intro rfl ?_; (conv => whnf)) | (refine And.intro (Nat.le_of_ble_eq_true rfl) ?_; (conv => whnf)) | (refine And.intro (by assumption) ?_; (conv => whnf)) | (refine And.intro (by decide) ?_; (conv => whnf)) | (refine br_nself ?_; (conv => whnf)) | (refine br_self ?_; (conv => whnf)) | (refine brT (decide_eq_true (by assumption)) ?_; (conv => whnf)) | (refine brT (by assumption) ?_; (conv => whnf)) | (refine brF (by assumption) ?_; (conv => whnf))))
      refine ⟨by omega, ?_⟩
      (conv => whnf); (repeat (first | (refine brT rfl ?_; (conv => whnf)) | (refine brF rfl ?_; (conv => whnf)) | (refine And.intro rfl ?_; (conv => whnf)) | (refine And.intro (Nat.le_of_ble_eq_true rfl) ?_; (conv => whnf)) | (refine And.intro (by assumption) ?_; (conv => whnf)) | (refine And.intro (by decide) ?_; (conv => whnf)) | (refine br_nself ?_; (conv => whnf)) | (refine br_self ?_; (conv => whnf)) | (refine brT (decide_eq_true (by assumption)) ?_; (conv => whnf)) | (refine brT (by assumption) ?_; (conv => whnf)) | (refine brF (by assumption) ?_; (conv => whnf))))
      refine ⟨by rw [sizeLine_eq]; omega, ?_⟩
      rw [at2]
      exact hk
    · (conv => whnf); (repeat (first | (refine brT rfl ?_; (conv => whnf)) | (refine brF rfl ?_; (conv => whnf)) | (refine And.intro rfl ?_; (conv => whnf)) | (refine And.intro (Nat.le_of_ble_eq_true rfl) ?_; (conv => whnf)) | (refine And.intro (by assumption) ?_; (conv => whnf)) | (refine And.intro (by decide) ?_; (conv => whnf)) | (refine br_nself ?_; (conv => whnf)) | (refine br_self ?_; (conv => whnf)) | (refine brT (decide_eq_true (by assumption)) ?_; (conv => whnf)) | (refine brT (by assumption) ?_; (conv => whnf)) | (refine brF (by assumption) ?_; (conv => whnf))))
      have em : (List.range w.toNat).map (fun j => PV.str (sg ((z.cps.toList[j % wideL ls]?).getD 0))) = ((((List.range w.toNat).map fun j => (z.cps.toList[j % wideL ls]?).getD 0)).map sg).map .str := by rw [List.map_map, List.map_map] <;> rfl
      rw [List.nil_append, em]
      refine ⟨_, rfl, ?_, ?_⟩
      · rw [sg_sum, List.length_map, List.length_range]
        have : (Str.ofString "").length = 0 := rfl
        rw [this]
        omega
      · rw [join_sg]
        (conv => whnf); (repeat (first | (refine brT rfl ?_; (conv => whnf)) | (refine brF rfl ?_; (conv => whnf)) | (refine And.intro rfl ?_; (conv => whnf)) | (refine And.intro (Nat.le_of_ble_eq_true rfl) ?_; (conv => whnf)) | (refine And.intro (by assumption) ?_; (conv => whnf)) | (refine And.intro (by decide) ?_; (conv => whnf)) | (refine br_nself ?_; (conv => whnf)) | (refine br_self ?_; (conv => whnf)) | (refine brT (decide_eq_true (by assumption)) ?_; (conv => whnf)) | (refine brT (by assumption) ?_; (conv => whnf)) | (refine brF (by assumption) ?_; (conv => whnf))))
        rw [Mu.put_same]
        refine ⟨by rw [List.length_map, lt, sizeLine_eq]; omega, ?_⟩
        (conv => whnf); (repeat (first | (refine brT rfl ?_; (conv => whnf)) | (refine brF rfl ?_; (conv => whnf)) | (refine And.intro rfl ?_; (conv => whnf)) | (refine And.intro (Nat.le_of_ble_eq_true rfl) ?_; (conv => whnf)) | (refine And.intro (by assumption) ?_; (conv => whnf)) | (refine And.intro (by decide) ?_; (conv => whnf)) | (refine br_nself ?_; (conv => whnf)) | (refine br_self ?_; (conv => whnf)) | (refine brT (decide_eq_true (by assumption)) ?_; (conv => whnf)) | (refine brT (by assumption) ?_; (conv => whnf)) | (refine brF (by assumption) ?_; (conv => whnf))))
        rw [Mu.put_put]
        have e2 : (tileL ls w.toNat i).map PV.str ++ [.str ⟨((List.range w.toNat).map fun j => (z.cps.toList[j % wideL ls]?).getD 0).toArray⟩] = (tileL ls w.toNat i ++ [tileS z w.toNat (wideL ls)]).map .str := by rw [List.map_append] <;> rfl
        rw [e2]
        exact ih
theorem k60_t1 {P : DEn} {ls : List Str} (g : GoodLn ls) {w : Int} (w1 : 1 ≤ w) (w2 : w ≤ 40) {μ : Mu} {a : Addr} {s5 s6 s7 s8 s9 s10 s11 : Option PV} : ∀ (m i : Nat) (s13 : Option PV), i + m ≤ 40 → (∀ s13, P.nx [none, some .box, some (.int (wideL ls : Nat)), some (.int (ls.length : Nat)), some (.lst (ls.map .str)), s5, s6, s7, s8, s9, s10, s11, some (.cell a), s13, some (.int w)] (μ.put a (.lst ((tileL ls w.toNat (i + m)).map .str)))) →
    Lk (forD (.one 13) (f_law_k60_1.d R_law_k60) (rangeP (i : Nat) m) P [none, some .box, some (.int (wideL ls : Nat)), some (.int (ls.length : Nat)), some (.lst (ls.map .str)), s5, s6, s7, s8, s9, s10, s11, some (.cell a), s13, some (.int w)] (μ.put a (.lst ((tileL ls w.toNat i).map .str))))
  | 0, i, s13, hm, h => forD_n rfl (h s13)
  | m + 1, i, s13, hm, h => by
    have ih := k60_t1 (P := P) g w1 w2 (μ := μ) (a := a) (s5 := s5) (s6 := s6) (s8 := s8) (s9 := s9) (s10 := s10) (s11 := s11) (s7 := s7) m (i + 1) (some (.int (i : Nat))) (by omega) (fun s13 => by rw [show i + 1 + m = i + (m + 1) by omega]; exact h s13)
    rw [rangeP_cons]
    have l1 := g.ne
    have l2 := g.le
    have l3 := g.w1
    have l4 := g.w2
    have hy : i % ls.length < ls.length := Nat.mod_lt _ l1
    have at1 : atI (ls.map PV.str) ((i : Int) % (ls.length : Int)) = some (.str ls[i % ls.length]) := atI_nat (j := i % ls.length) (by rw [List.getElem?_map, List.getElem?_eq_getElem hy] <;> rfl)
    have hz := List.getElem_mem hy
    have et : tileL ls w.toNat (i + 1) = tileL ls w.toNat i ++ [tileS ls[i % ls.length] w.toNat (wideL ls)] := by
      unfold tileL
      rw [List.range_succ, List.map_append, List.map_cons, List.map_nil, List.getElem?_eq_getElem hy]
      rfl
    have lt : (tileL ls w.toNat i).length = i := by unfold tileL; rw [List.length_map, List.length_range]
    rw [et] at ih
    generalize ls[i % ls.length] = z at hz ih at1
    have lz := g.len z hz
    have lzc : z.cps.toList.length = wideL ls := by rw [Array.length_toList]; exact lz
    refine forD_c rfl ?_
    (conv => whnf); (repeat (first | (refine brT rfl ?_; (conv => whnf)) | (refine brF rfl ?_; (conv => whnf)) | (refine And.intro rfl ?_; (conv => whnf)) | (refine And.intro (Nat.le_of_ble_eq_true rfl) ?_; (conv => whnf)) | (refine And.intro (by assumption) ?_; (conv => whnf)) | (refine And.intro (by decide) ?_; (conv => whnf)) | (refine br_nself ?_; (conv => whnf)) | (refine br_self ?_; (conv => whnf)) | (refine brT (decide_eq_true (by assumption)) ?_; (conv => whnf)) | (refine brT (by assumption) ?_; (conv => whnf)) | (refine brF (by assumption) ?_; (conv => whnf))))
    refine brT (isLC_cell (Mu.put_same _ _ _)) ?_
    (conv => whnf); (repeat (first | (refine brT rfl ?_; (conv => whnf)) | (refine brF rfl ?_; (conv => whnf)) | (refine And.intro rfl ?_; (conv => whnf)) | (refine And.intro (Nat.le_of_ble_eq_true rfl) ?_; (conv => whnf)) | (refine And.intro (by assumption) ?_; (conv => whnf)) | (refine And.intro (by decide) ?_; (conv => whnf)) | (refine br_nself ?_; (conv => whnf)) | (refine br_self ?_; (conv => whnf)) | (refine brT (decide_eq_true (by assumption)) ?_; (conv => whnf)) | (refine brT (by assumption) ?_; (conv => whnf)) | (refine brF (by assumption) ?_; (conv => whnf))))
    refine ⟨by omega, by omega, ?_⟩
    refine ⟨by rw [rangeP_len, sizeLine_eq]; omega, ?_⟩
    unfold rangeP
    refine lcM1 (fun j : Nat => .int (0 + (j : Nat))) (fun j => .str (sg ((z.cps.toList[j % wideL ls]?).getD 0))) (List.range w.toNat) [] (fun j hj k hk => ?_) ?_
    · have hx : j % wideL ls < z.cps.toList.length := by rw [lzc]; exact Nat.mod_lt _ l3
      rw [List.getElem?_eq_getElem hx] at hk
      have at2 : atI z.cps.toList ((0 + (j : Int)) % (wideL ls : Int)) = some z.cps.toList[j % wideL ls] := by
        rw [Int.zero_add]
        exact atI_nat (j := j % wideL ls) (List.getElem?_eq_getElem hx)
      (conv => whnf); (repeat (first | (refine brT rfl ?_; (conv => whnf)) | (refine brF rfl ?_; (conv => whnf)) | (refine And.intro rfl ?_; (conv => whnf)) | (refine And.intro (Nat.le_of_ble_eq_true rfl) ?_; (conv => whnf)) | (refine And.intro (by assumption) ?_; (conv => whnf)) | (refine And.intro (by decide) ?_; (conv => whnf)) | (refine br_nself ?_; (conv => whnf)) | (refine br_self ?_; (conv => whnf)) | (refine brT (decide_eq_true (by assumption)) ?_; (conv => whnf)) | (refine brT (by assumption) ?_; (conv => whnf)) | (refine brF (by assumption) ?_; (conv => whnf))))
      refine ⟨by omega, ?_⟩
      (conv => whnf); (repeat (first | (refine brT rfl ?_; (conv => whnf)) | (refine brF rfl ?_; (conv => whnf)) | (refine And.intro rfl ?_; (conv => whnf)) | (refine And.intro (Nat.le_of_ble_eq_true rfl) ?_; (conv => whnf)) | (refine And.intro (by assumption) ?_; (conv => whnf)) | (refine And.intro (by decide) ?_; (conv => whnf)) | (refine br_nself ?_; (conv => whnf)) | (refine br_self ?_; (conv => whnf)) | (refine brT (decide_eq_true (by assumption)) ?_; (conv => whnf)) | (refine brT (by assumption) ?_; (conv => whnf)) | (refine brF (by assumption) ?_; (conv => whnf))))
      rw [at1]
      (conv => whnf); (repeat (first | (refine brT rfl ?_; (conv => whnf)) | (refine brF rfl ?_; (conv => whnf)) | (refine And.intro rfl ?_; (conv => whnf)) | (refine And.intro (Nat.le_of_ble_eq_true rfl) ?_; (conv => whnf)) | (refine And.intro (by assumption) ?_; (conv => whnf)) | (refine And.intro (by decide) ?_; (conv => whnf)) | (refine br_nself ?_; (conv => whnf)) | (refine br_self ?_; (conv => whnf)) | (refine brT (decide_eq_true (by assumption)) ?_; (conv => whnf)) | (refine brT (by assumption) ?_; (conv => whnf)) | (refine brF (by assumption) ?_; (conv => whnf))))
      refine ⟨by omega, ?_⟩
      (conv => whnf); (repeat (first | (refine brT rfl ?_; (conv => whnf)) | (refine brF rfl ?_; (conv => whnf)) | (refine And.intro rfl ?_; (conv => whnf)) | (refine And.intro (Nat.le_of_ble_eq_true rfl) ?_; (conv => whnf)) | (refine And.intro (by assumption) ?_; (conv => whnf)) | (refine And.intro (by decide) ?_; (conv => whnf)) | (refine br_nself ?_; (conv => whnf)) | (refine br_self ?_; (conv => whnf)) | (refine brT (decide_eq_true (by assumption)) ?_; (conv => whnf)) | (refine brT (by assumption) ?_; (conv => whnf)) | (refine brF (by assumption) ?_; (conv => whnf))))
      refine ⟨by rw [sizeLine_eq]; omega, ?_⟩
      rw [at2]
      exact hk
    · (conv => whnf); (repeat (first | (refine brT rfl ?_; (conv => whnf)) | (refine brF rfl ?_; (conv => whnf)) | (refine And.intro rfl ?_; (conv => whnf)) | (refine And.intro (Nat.le_of_ble_eq_true rfl) ?_; (conv => whnf)) | (refine And.intro (by assumption) ?_; (conv => whnf)) | (refine And.intro (by decide) ?_; (conv => whnf)) | (refine br_nself ?_; (conv => whnf)) | (refine br_self ?_; (conv => whnf)) | (refine brT (decide_eq_true (by assumption)) ?_; (conv => whnf)) | (refine brT (by assumption) ?_; (conv => whnf)) | (refine brF (by assumption) ?_; (conv => whnf))))
      have em : (List.range w.toNat).map (fun j => PV.str (sg ((z.cps.toList[j % wideL ls]?).getD 0))) = ((((List.range w.toNat).map fun j => (z.cps.toList[j % wideL ls]?).getD 0)).map sg).map .str := by rw [List.map_map, List.map_map] <;> rfl
      rw [List.nil_append, em]
      refine ⟨_, rfl, ?_, ?_⟩
      · rw [sg_sum, List.length_map, List.length_range]
        have : (Str.ofString "").length = 0 := rfl
        rw [this]
        omega
      · rw [join_sg]
        (conv => whnf); (repeat (first | (refine brT rfl ?_; (conv => whnf)) | (refine brF rfl ?_; (conv => whnf)) | (refine And.intro rfl ?_; (conv => whnf)) | (refine And.intro (Nat.le_of_ble_eq_true rfl) ?_; (conv => whnf)) | (refine And.intro (by assumption) ?_; (conv => whnf)) | (refine And.intro (by decide) ?_; (conv => whnf)) | (refine br_nself ?_; (conv => whnf)) | (refine br_self ?_; (conv => whnf)) | (refine brT (decide_eq_true (by assumption)) ?_; (conv => whnf)) | (refine brT (by assumption) ?_; (conv => whnf)) | (refine brF (by assumption) ?_; (conv => whnf))))
        rw [Mu.put_same]
        refine ⟨by rw [List.length_map, lt, sizeLine_eq]; omega, ?_⟩
        (conv => whnf); (repeat (first | (refine brT rfl ?_; (conv => whnf)) | (refine brF rfl ?_; (conv => whnf)) | (refine And.intro rfl ?_; (conv => whnf)) | (refine And.intro (Nat.le_of_ble_eq_true rfl) ?_; (conv => whnf)) | (refine And.intro (by assumption) ?_; (conv => whnf)) | (refine And.intro (by decide) ?_; (conv => whnf)) | (refine br_nself ?_; (conv => whnf)) | (refine br_self ?_; (conv => whnf)) | (refine brT (decide_eq_true (by assumption)) ?_; (conv => whnf)) | (refine brT (by assumption) ?_; (conv => whnf)) | (refine brF (by assumption) ?_; (conv => whnf))))
        rw [Mu.put_put]
        have e2 : (tileL ls w.toNat i).map PV.str ++ [.str ⟨((List.range w.toNat).map fun j => (z.cps.toList[j % wideL ls]?).getD 0).toArray⟩] = (tileL ls w.toNat i ++ [tileS z w.toNat (wideL ls)]).map .str := by rw [List.map_append] <;> rfl
        rw [e2]
        exact ih
theorem k60_turn (z : Str) : ⟨((List.range z.length).map fun j => (z.cps.toList[z.length - 1 - j]?).getD 0).toArray⟩ = revS z := by
  unfold revS
  congr 2
  refine List.ext_getElem? fun j => ?_
  rw [List.getElem?_map]
  have e : z.length = z.cps.toList.length := by rw [Array.length_toList]; rfl
  by_cases hj : j < z.length
  · rw [List.getElem?_range hj, List.getElem?_reverse (by omega), ← e]
    show some ((z.cps.toList[z.length - 1 - j]?).getD 0) = _
    rw [List.getElem?_eq_getElem (by omega)]
    rfl
  · rw [List.getElem?_eq_none (by rw [List.length_range]; omega), List.getElem?_eq_none (by rw [List.length_reverse]; omega)]
    rfl
theorem k60_8 {ls : List Str} (g : GoodLn ls) {w h : Int} (w1 : 1 ≤ w) (w2 : w ≤ 40) (h1 : 1 ≤ h) (h2 : h ≤ 40) {s6 : Option PV} {μ : Mu} : t_law_k60_8.d R_law_k60 lawEnds [none, some .box, some (.int (wideL ls : Nat)), some (.int (ls.length : Nat)), some (.lst (ls.map .str)), some (shapeP ls), s6, some (.int w), some (.int h), none, none, none, none, none, none] μ := by
  have g1 := g.ne
  have g2 := g.le
  have g3 := g.w1
  have g4 := g.w2
  (conv => whnf); (repeat (first | (refine brT rfl ?_; (conv => whnf)) | (refine brF rfl ?_; (conv => whnf)) | (refine And.intro rfl ?_; (conv => whnf)) | (refine And.intro (Nat.le_of_ble_eq_true rfl) ?_; (conv => whnf)) | (refine And.intro (by assumption) ?_; (conv => whnf)) | (refine And.intro (by decide) ?_; (conv => whnf))))
  refine ⟨by rw [List.length_map, sizeLine_eq]; omega, ?_⟩
  refine lcM1 PV.str (fun z => .str (revS z)) ls [] (fun z hz k hk => ?_) ?_
  · have lz := g.len z hz
    (conv => whnf); (repeat (first | (refine brT rfl ?_; (conv => whnf)) | (refine brF rfl ?_; (conv => whnf)) | (refine And.intro rfl ?_; (conv => whnf)) | (refine And.intro (Nat.le_of_ble_eq_true rfl) ?_; (conv => whnf)) | (refine And.intro (by assumption) ?_; (conv => whnf)) | (refine And.intro (by decide) ?_; (conv => whnf))))
    refine ⟨by omega, by omega, ?_⟩
    refine ⟨by rw [rangeP_len, sizeLine_eq]; omega, ?_⟩
    rw [Int.toNat_natCast]
    unfold rangeP
    refine lcM1 (fun j : Nat => .int (0 + (j : Nat))) (fun j => .str (sg ((z.cps.toList[z.length - 1 - j]?).getD 0))) (List.range (wideL ls)) [] (fun j hj k hk => ?_) ?_
    · have hj := List.mem_range.mp hj
      have e : z.length = z.cps.toList.length := by rw [Array.length_toList]; rfl
      have hx : z.length - 1 - j < z.cps.toList.length := by omega
      rw [List.getElem?_eq_getElem hx] at hk
      have at2 : atI z.cps.toList (((wideL ls : Nat) : Int) - 1 - (0 + (j : Nat))) = some z.cps.toList[z.length - 1 - j] := by
        rw [show ((wideL ls : Nat) : Int) - 1 - (0 + (j : Nat)) = ((z.length - 1 - j : Nat) : Int) by omega]
        exact atI_nat (List.getElem?_eq_getElem hx)
      (conv => whnf); (repeat (first | (refine brT rfl ?_; (conv => whnf)) | (refine brF rfl ?_; (conv => whnf)) | (refine And.intro rfl ?_; (conv => whnf)) | (refine And.intro (Nat.le_of_ble_eq_true rfl) ?_; (conv => whnf)) | (refine And.intro (by assumption) ?_; (conv => whnf)) | (refine And.intro (by decide) ?_; (conv => whnf))))
      refine ⟨by rw [sizeLine_eq]; omega, ?_⟩
      rw [at2]
      exact hk
    · (conv => whnf); (repeat (first | (refine brT rfl ?_; (conv => whnf)) | (refine brF rfl ?_; (conv => whnf)) | (refine And.intro rfl ?_; (conv => whnf)) | (refine And.intro (Nat.le_of_ble_eq_true rfl) ?_; (conv => whnf)) | (refine And.intro (by assumption) ?_; (conv => whnf)) | (refine And.intro (by decide) ?_; (conv => whnf))))
      rw [← lz]
      have em : (List.range z.length).map (fun j => PV.str (sg ((z.cps.toList[z.length - 1 - j]?).getD 0))) = ((((List.range z.length).map fun j => (z.cps.toList[z.length - 1 - j]?).getD 0)).map sg).map .str := by rw [List.map_map, List.map_map] <;> rfl
      rw [List.nil_append, em]
      refine ⟨_, rfl, ?_, ?_⟩
      · rw [sg_sum, List.length_map, List.length_range]
        have : (Str.ofString "").length = 0 := rfl
        rw [this]
        omega
      · rw [join_sg, k60_turn]
        exact hk
  have e1 : ls.map (fun z => PV.str (revS z)) = (ls.map revS).map .str := by rw [List.map_map] <;> rfl
  rw [List.nil_append, e1]
  have gr := good_rev g
  have rr : (ls.map revS).map revS = ls := by
    rw [List.map_map]
    refine (List.map_congr_left fun z _ => revS_revS z).trans ?_
    exact List.map_id _
  (conv => whnf); (repeat (first | (refine brT rfl ?_; (conv => whnf)) | (refine brF rfl ?_; (conv => whnf)) | (refine And.intro rfl ?_; (conv => whnf)) | (refine And.intro (Nat.le_of_ble_eq_true rfl) ?_; (conv => whnf)) | (refine And.intro (by assumption) ?_; (conv => whnf)) | (refine And.intro (by decide) ?_; (conv => whnf))))
  refine ⟨ls, rfl, g, ?_⟩
  (conv => whnf); (repeat (first | (refine brT rfl ?_; (conv => whnf)) | (refine brF rfl ?_; (conv => whnf)) | (refine And.intro rfl ?_; (conv => whnf)) | (refine And.intro (Nat.le_of_ble_eq_true rfl) ?_; (conv => whnf)) | (refine And.intro (by assumption) ?_; (conv => whnf)) | (refine And.intro (by decide) ?_; (conv => whnf))))
  refine ⟨ls.map revS, rfl, rfl, gr, ?_⟩
  (conv => whnf); (repeat (first | (refine brT rfl ?_; (conv => whnf)) | (refine brF rfl ?_; (conv => whnf)) | (refine And.intro rfl ?_; (conv => whnf)) | (refine And.intro (Nat.le_of_ble_eq_true rfl) ?_; (conv => whnf)) | (refine And.intro (by assumption) ?_; (conv => whnf)) | (refine And.intro (by decide) ?_; (conv => whnf))))
  refine ⟨ls, rfl, g, ?_⟩
  (conv => whnf); (repeat (first | (refine brT rfl ?_; (conv => whnf)) | (refine brF rfl ?_; (conv => whnf)) | (refine And.intro rfl ?_; (conv => whnf)) | (refine And.intro (Nat.le_of_ble_eq_true rfl) ?_; (conv => whnf)) | (refine And.intro (by assumption) ?_; (conv => whnf)) | (refine And.intro (by decide) ?_; (conv => whnf))))
  refine ⟨ls.map revS, rfl, gr, ?_⟩
  rw [rr]
  (conv => whnf); (repeat (first | (refine brT rfl ?_; (conv => whnf)) | (refine brF rfl ?_; (conv => whnf)) | (refine And.intro rfl ?_; (conv => whnf)) | (refine And.intro (Nat.le_of_ble_eq_true rfl) ?_; (conv => whnf)) | (refine And.intro (by assumption) ?_; (conv => whnf)) | (refine And.intro (by decide) ?_; (conv => whnf))))
  refine ⟨ls, rfl, rfl, g, ?_⟩
  (conv => whnf); (repeat (first | (refine brT rfl ?_; (conv => whnf)) | (refine brF rfl ?_; (conv => whnf)) | (refine And.intro rfl ?_; (conv => whnf)) | (refine And.intro (Nat.le_of_ble_eq_true rfl) ?_; (conv => whnf)) | (refine And.intro (by assumption) ?_; (conv => whnf)) | (refine And.intro (by decide) ?_; (conv => whnf))))
  intro a ha
  (conv => whnf); (repeat (first | (refine brT rfl ?_; (conv => whnf)) | (refine brF rfl ?_; (conv => whnf)) | (refine And.intro rfl ?_; (conv => whnf)) | (refine And.intro (Nat.le_of_ble_eq_true rfl) ?_; (conv => whnf)) | (refine And.intro (by assumption) ?_; (conv => whnf)) | (refine And.intro (by decide) ?_; (conv => whnf))))
  refine ⟨by omega, by omega, ?_⟩
  refine k60_t0 g w1 w2 h.toNat 0 none (by omega) fun s13 => ?_
  rw [Nat.zero_add]
  have gt := good_tile g (n := w.toNat) (m := h.toNat) (by omega) (by omega) (by omega) (by omega)
  have sh : sizeB w h = none := sizeB_ok ⟨w1, w2, h1, h2⟩
  (conv => whnf); (repeat (first | (refine brT rfl ?_; (conv => whnf)) | (refine brF rfl ?_; (conv => whnf)) | (refine And.intro rfl ?_; (conv => whnf)) | (refine And.intro (Nat.le_of_ble_eq_true rfl) ?_; (conv => whnf)) | (refine And.intro (by assumption) ?_; (conv => whnf)) | (refine And.intro (by decide) ?_; (conv => whnf))))
  rw [Mu.put_same]
  (conv => whnf); (repeat (first | (refine brT rfl ?_; (conv => whnf)) | (refine brF rfl ?_; (conv => whnf)) | (refine And.intro rfl ?_; (conv => whnf)) | (refine And.intro (Nat.le_of_ble_eq_true rfl) ?_; (conv => whnf)) | (refine And.intro (by assumption) ?_; (conv => whnf)) | (refine And.intro (by decide) ?_; (conv => whnf))))
  rw [Mu.del_put, Mu.del_none ha]
  refine ⟨ls, rfl, g, ?_⟩
  rw [sh]
  (conv => whnf); (repeat (first | (refine brT rfl ?_; (conv => whnf)) | (refine brF rfl ?_; (conv => whnf)) | (refine And.intro rfl ?_; (conv => whnf)) | (refine And.intro (Nat.le_of_ble_eq_true rfl) ?_; (conv => whnf)) | (refine And.intro (by assumption) ?_; (conv => whnf)) | (refine And.intro (by decide) ?_; (conv => whnf))))
  refine ⟨tileL ls w.toNat h.toNat, rfl, rfl, gt, ?_⟩
  (conv => whnf); (repeat (first | (refine brT rfl ?_; (conv => whnf)) | (refine brF rfl ?_; (conv => whnf)) | (refine And.intro rfl ?_; (conv => whnf)) | (refine And.intro (Nat.le_of_ble_eq_true rfl) ?_; (conv => whnf)) | (refine And.intro (by assumption) ?_; (conv => whnf)) | (refine And.intro (by decide) ?_; (conv => whnf))))
  refine ⟨ls, rfl, rfl, g, ?_⟩
  (conv => whnf); (repeat (first | (refine brT rfl ?_; (conv => whnf)) | (refine brF rfl ?_; (conv => whnf)) | (refine And.intro rfl ?_; (conv => whnf)) | (refine And.intro (Nat.le_of_ble_eq_true rfl) ?_; (conv => whnf)) | (refine And.intro (by assumption) ?_; (conv => whnf)) | (refine And.intro (by decide) ?_; (conv => whnf))))
  refine draw_of (by omega) (by omega) fun v v0 v1 => ?_
  (conv => whnf); (repeat (first | (refine brT rfl ?_; (conv => whnf)) | (refine brF rfl ?_; (conv => whnf)) | (refine And.intro rfl ?_; (conv => whnf)) | (refine And.intro (Nat.le_of_ble_eq_true rfl) ?_; (conv => whnf)) | (refine And.intro (by assumption) ?_; (conv => whnf)) | (refine And.intro (by decide) ?_; (conv => whnf))))
  intro a2 ha2
  (conv => whnf); (repeat (first | (refine brT rfl ?_; (conv => whnf)) | (refine brF rfl ?_; (conv => whnf)) | (refine And.intro rfl ?_; (conv => whnf)) | (refine And.intro (Nat.le_of_ble_eq_true rfl) ?_; (conv => whnf)) | (refine And.intro (by assumption) ?_; (conv => whnf)) | (refine And.intro (by decide) ?_; (conv => whnf))))
  have gt2 := good_tile g (n := (1 + v).toNat) (m := 4) (by omega) (by omega) (by omega) (by omega)
  have sh2 : sizeB (1 + v) 4 = none := sizeB_ok ⟨by omega, by omega, by omega, by omega⟩
  refine k60_t1 g (w := 1 + v) (by omega) (by omega) 4 0 none (by omega) fun s13 => ?_
  rw [Nat.zero_add]
  (conv => whnf); (repeat (first | (refine brT rfl ?_; (conv => whnf)) | (refine brF rfl ?_; (conv => whnf)) | (refine And.intro rfl ?_; (conv => whnf)) | (refine And.intro (Nat.le_of_ble_eq_true rfl) ?_; (conv => whnf)) | (refine And.intro (by assumption) ?_; (conv => whnf)) | (refine And.intro (by decide) ?_; (conv => whnf))))
  rw [Mu.put_same]
  (conv => whnf); (repeat (first | (refine brT rfl ?_; (conv => whnf)) | (refine brF rfl ?_; (conv => whnf)) | (refine And.intro rfl ?_; (conv => whnf)) | (refine And.intro (Nat.le_of_ble_eq_true rfl) ?_; (conv => whnf)) | (refine And.intro (by assumption) ?_; (conv => whnf)) | (refine And.intro (by decide) ?_; (conv => whnf))))
  rw [Mu.del_put, Mu.del_none ha2]
  refine ⟨ls, rfl, g, ?_⟩
  rw [sh2]
  (conv => whnf); (repeat (first | (refine brT rfl ?_; (conv => whnf)) | (refine brF rfl ?_; (conv => whnf)) | (refine And.intro rfl ?_; (conv => whnf)) | (refine And.intro (Nat.le_of_ble_eq_true rfl) ?_; (conv => whnf)) | (refine And.intro (by assumption) ?_; (conv => whnf)) | (refine And.intro (by decide) ?_; (conv => whnf))))
  refine ⟨tileL ls (1 + v).toNat 4, rfl, rfl, gt2, ?_⟩
  (conv => whnf); (repeat (first | (refine brT rfl ?_; (conv => whnf)) | (refine brF rfl ?_; (conv => whnf)) | (refine And.intro rfl ?_; (conv => whnf)) | (refine And.intro (Nat.le_of_ble_eq_true rfl) ?_; (conv => whnf)) | (refine And.intro (by assumption) ?_; (conv => whnf)) | (refine And.intro (by decide) ?_; (conv => whnf))))
  refine ⟨ls, rfl, g, ?_⟩
  (conv => whnf); (repeat (first | (refine brT rfl ?_; (conv => whnf)) | (refine brF rfl ?_; (conv => whnf)) | (refine And.intro rfl ?_; (conv => whnf)) | (refine And.intro (Nat.le_of_ble_eq_true rfl) ?_; (conv => whnf)) | (refine And.intro (by assumption) ?_; (conv => whnf)) | (refine And.intro (by decide) ?_; (conv => whnf))))
  refine ⟨ls.map revS, rfl, rfl, gr, ?_⟩
  (conv => whnf); (repeat (first | (refine brT rfl ?_; (conv => whnf)) | (refine brF rfl ?_; (conv => whnf)) | (refine And.intro rfl ?_; (conv => whnf)) | (refine And.intro (Nat.le_of_ble_eq_true rfl) ?_; (conv => whnf)) | (refine And.intro (by assumption) ?_; (conv => whnf)) | (refine And.intro (by decide) ?_; (conv => whnf))))
  rw [sh]
  (conv => whnf); (repeat (first | (refine brT rfl ?_; (conv => whnf)) | (refine brF rfl ?_; (conv => whnf)) | (refine And.intro rfl ?_; (conv => whnf)) | (refine And.intro (Nat.le_of_ble_eq_true rfl) ?_; (conv => whnf)) | (refine And.intro (by assumption) ?_; (conv => whnf)) | (refine And.intro (by decide) ?_; (conv => whnf))))
  refine ⟨by omega, ?_⟩
  (conv => whnf); (repeat (first | (refine brT rfl ?_; (conv => whnf)) | (refine brF rfl ?_; (conv => whnf)) | (refine And.intro rfl ?_; (conv => whnf)) | (refine And.intro (Nat.le_of_ble_eq_true rfl) ?_; (conv => whnf)) | (refine And.intro (by assumption) ?_; (conv => whnf)) | (refine And.intro (by decide) ?_; (conv => whnf))))
  refine ⟨by omega, by omega, by rw [sizeLine_eq]; show 1 * h.toNat ≤ _; omega, ?_⟩
  rw [List.flatten_replicate_singleton]
  (conv => whnf); (repeat (first | (refine brT rfl ?_; (conv => whnf)) | (refine brF rfl ?_; (conv => whnf)) | (refine And.intro rfl ?_; (conv => whnf)) | (refine And.intro (Nat.le_of_ble_eq_true rfl) ?_; (conv => whnf)) | (refine And.intro (by assumption) ?_; (conv => whnf)) | (refine And.intro (by decide) ?_; (conv => whnf))))
  refine ⟨blankL false w.toNat h.toNat, rfl, by unfold blankL; rw [List.map_replicate] <;> rfl, good_blank false (by omega) (by omega) (by omega) (by omega), ?_⟩
  (conv => whnf); (repeat (first | (refine brT rfl ?_; (conv => whnf)) | (refine brF rfl ?_; (conv => whnf)) | (refine And.intro rfl ?_; (conv => whnf)) | (refine And.intro (Nat.le_of_ble_eq_true rfl) ?_; (conv => whnf)) | (refine And.intro (by assumption) ?_; (conv => whnf)) | (refine And.intro (by decide) ?_; (conv => whnf))))
  rw [sh]
  (conv => whnf); (repeat (first | (refine brT rfl ?_; (conv => whnf)) | (refine brF rfl ?_; (conv => whnf)) | (refine And.intro rfl ?_; (conv => whnf)) | (refine And.intro (Nat.le_of_ble_eq_true rfl) ?_; (conv => whnf)) | (refine And.intro (by assumption) ?_; (conv => whnf)) | (refine And.intro (by decide) ?_; (conv => whnf))))
  refine ⟨by omega, ?_⟩
  (conv => whnf); (repeat (first | (refine brT rfl ?_; (conv => whnf)) | (refine brF rfl ?_; (conv => whnf)) | (refine And.intro rfl ?_; (conv => whnf)) | (refine And.intro (Nat.le_of_ble_eq_true rfl) ?_; (conv => whnf)) | (refine And.intro (by assumption) ?_; (conv => whnf)) | (refine And.intro (by decide) ?_; (conv => whnf))))
  refine ⟨by omega, by omega, by rw [sizeLine_eq]; show 1 * h.toNat ≤ _; omega, ?_⟩
  rw [List.flatten_replicate_singleton]
  (conv => whnf); (repeat (first | (refine brT rfl ?_; (conv => whnf)) | (refine brF rfl ?_; (conv => whnf)) | (refine And.intro rfl ?_; (conv => whnf)) | (refine And.intro (Nat.le_of_ble_eq_true rfl) ?_; (conv => whnf)) | (refine And.intro (by assumption) ?_; (conv => whnf)) | (refine And.intro (by decide) ?_; (conv => whnf))))
  refine ⟨blankL false w.toNat h.toNat, rfl, by unfold blankL; rw [List.map_replicate] <;> rfl, good_blank false (by omega) (by omega) (by omega) (by omega), ?_⟩
  (conv => whnf); (repeat (first | (refine brT rfl ?_; (conv => whnf)) | (refine brF rfl ?_; (conv => whnf)) | (refine And.intro rfl ?_; (conv => whnf)) | (refine And.intro (Nat.le_of_ble_eq_true rfl) ?_; (conv => whnf)) | (refine And.intro (by assumption) ?_; (conv => whnf)) | (refine And.intro (by decide) ?_; (conv => whnf))))
  rw [sh]
  (conv => whnf); (repeat (first | (refine brT rfl ?_; (conv => whnf)) | (refine brF rfl ?_; (conv => whnf)) | (refine And.intro rfl ?_; (conv => whnf)) | (refine And.intro (Nat.le_of_ble_eq_true rfl) ?_; (conv => whnf)) | (refine And.intro (by assumption) ?_; (conv => whnf)) | (refine And.intro (by decide) ?_; (conv => whnf))))
  refine ⟨by omega, ?_⟩
  (conv => whnf); (repeat (first | (refine brT rfl ?_; (conv => whnf)) | (refine brF rfl ?_; (conv => whnf)) | (refine And.intro rfl ?_; (conv => whnf)) | (refine And.intro (Nat.le_of_ble_eq_true rfl) ?_; (conv => whnf)) | (refine And.intro (by assumption) ?_; (conv => whnf)) | (refine And.intro (by decide) ?_; (conv => whnf))))
  refine ⟨by omega, by omega, by rw [sizeLine_eq]; show 1 * h.toNat ≤ _; omega, ?_⟩
  rw [List.flatten_replicate_singleton]
  (conv => whnf); (repeat (first | (refine brT rfl ?_; (conv => whnf)) | (refine brF rfl ?_; (conv => whnf)) | (refine And.intro rfl ?_; (conv => whnf)) | (refine And.intro (Nat.le_of_ble_eq_true rfl) ?_; (conv => whnf)) | (refine And.intro (by assumption) ?_; (conv => whnf)) | (refine And.intro (by decide) ?_; (conv => whnf))))
  refine ⟨blankL true w.toNat h.toNat, rfl, by unfold blankL; rw [List.map_replicate] <;> rfl, good_blank true (by omega) (by omega) (by omega) (by omega), ?_⟩
  (conv => whnf); (repeat (first | (refine brT rfl ?_; (conv => whnf)) | (refine brF rfl ?_; (conv => whnf)) | (refine And.intro rfl ?_; (conv => whnf)) | (refine And.intro (Nat.le_of_ble_eq_true rfl) ?_; (conv => whnf)) | (refine And.intro (by assumption) ?_; (conv => whnf)) | (refine And.intro (by decide) ?_; (conv => whnf))))
  refine ⟨ls, rfl, g, ?_⟩
  (conv => whnf); (repeat (first | (refine brT rfl ?_; (conv => whnf)) | (refine brF rfl ?_; (conv => whnf)) | (refine And.intro rfl ?_; (conv => whnf)) | (refine And.intro (Nat.le_of_ble_eq_true rfl) ?_; (conv => whnf)) | (refine And.intro (by assumption) ?_; (conv => whnf)) | (refine And.intro (by decide) ?_; (conv => whnf))))
  refine ⟨ls, rfl, rfl, g, ?_⟩
  rfl
theorem pure_law_k60 : t_law_k60_0.d R_law_k60 lawEnds (lawE 13) mu0 := by
  (conv => whnf); (repeat (first | (refine brT rfl ?_; (conv => whnf)) | (refine brF rfl ?_; (conv => whnf)) | (refine And.intro rfl ?_; (conv => whnf)) | (refine And.intro (Nat.le_of_ble_eq_true rfl) ?_; (conv => whnf)) | (refine And.intro (by assumption) ?_; (conv => whnf)) | (refine And.intro (by decide) ?_; (conv => whnf))))
  refine draw_of (by omega) (by omega) fun w w0 w1 => ?_
  (conv => whnf); (repeat (first | (refine brT rfl ?_; (conv => whnf)) | (refine brF rfl ?_; (conv => whnf)) | (refine And.intro rfl ?_; (conv => whnf)) | (refine And.intro (Nat.le_of_ble_eq_true rfl) ?_; (conv => whnf)) | (refine And.intro (by assumption) ?_; (conv => whnf)) | (refine And.intro (by decide) ?_; (conv => whnf))))
  refine draw_of (by omega) (by omega) fun h h0 h1 => ?_
  (conv => whnf); (repeat (first | (refine brT rfl ?_; (conv => whnf)) | (refine brF rfl ?_; (conv => whnf)) | (refine And.intro rfl ?_; (conv => whnf)) | (refine And.intro (Nat.le_of_ble_eq_true rfl) ?_; (conv => whnf)) | (refine And.intro (by assumption) ?_; (conv => whnf)) | (refine And.intro (by decide) ?_; (conv => whnf))))
  refine ⟨by omega, by omega, by omega, by omega, fun ls hl hz a ha => ?_⟩
  have gw := good_of (ls := ls) (n := (1 + w).toNat) (by omega) (by omega) (by omega) (by omega) fun z hz' => ⟨by have := (hz z hz').1; omega, (hz z hz').2⟩
  obtain ⟨g, hw⟩ := gw
  rw [show 1 + w = ((wideL ls : Nat) : Int) by omega, show 1 + h = ((ls.length : Nat) : Int) by omega]
  have g1 := g.ne
  have g2 := g.le
  have g3 := g.w1
  have g4 := g.w2
  clear hz hl hw w0 w1 h0 h1
  (conv => whnf); (repeat (first | (refine brT rfl ?_; (conv => whnf)) | (refine brF rfl ?_; (conv => whnf)) | (refine And.intro rfl ?_; (conv => whnf)) | (refine And.intro (Nat.le_of_ble_eq_true rfl) ?_; (conv => whnf)) | (refine And.intro (by assumption) ?_; (conv => whnf)) | (refine And.intro (by decide) ?_; (conv => whnf))))
  rw [Mu.put_same]
  (conv => whnf); (repeat (first | (refine brT rfl ?_; (conv => whnf)) | (refine brF rfl ?_; (conv => whnf)) | (refine And.intro rfl ?_; (conv => whnf)) | (refine And.intro (Nat.le_of_ble_eq_true rfl) ?_; (conv => whnf)) | (refine And.intro (by assumption) ?_; (conv => whnf)) | (refine And.intro (by decide) ?_; (conv => whnf))))
  rw [Mu.del_put, Mu.del_none ha]
  refine ⟨by rw [List.length_map]; omega, ls, rfl, by omega, fun z hz => by have := g.len z hz; omega, ?_⟩
  rw [good_bad g]
  refine brF (by decide) ⟨rfl, ?_⟩
  have tail := @k60_8 ls g
  unfold t_law_k60_4 t_law_k60_5 t_law_k60_6 t_law_k60_7
  generalize t_law_k60_8 = T at tail ⊢
  (conv => whnf); (repeat (first | (refine brT rfl ?_; (conv => whnf)) | (refine brF rfl ?_; (conv => whnf)) | (refine And.intro rfl ?_; (conv => whnf)) | (refine And.intro (Nat.le_of_ble_eq_true rfl) ?_; (conv => whnf)) | (refine And.intro (by assumption) ?_; (conv => whnf)) | (refine And.intro (by decide) ?_; (conv => whnf))))
  refine draw_of (by omega) (by omega) fun y y0 y1 => ?_
  (conv => whnf); (repeat (first | (refine brT rfl ?_; (conv => whnf)) | (refine brF rfl ?_; (conv => whnf)) | (refine And.intro rfl ?_; (conv => whnf)) | (refine And.intro (Nat.le_of_ble_eq_true rfl) ?_; (conv => whnf)) | (refine And.intro (by assumption) ?_; (conv => whnf)) | (refine And.intro (by decide) ?_; (conv => whnf))))
  refine brD (fun e => ?_) fun e => ?_
  all_goals
    (conv => whnf); (repeat (first | (refine brT rfl ?_; (conv => whnf)) | (refine brF rfl ?_; (conv => whnf)) | (refine And.intro rfl ?_; (conv => whnf)) | (refine And.intro (Nat.le_of_ble_eq_true rfl) ?_; (conv => whnf)) | (refine And.intro (by assumption) ?_; (conv => whnf)) | (refine And.intro (by decide) ?_; (conv => whnf))))
    refine draw_of (by omega) (by omega) fun w w0 w1 => ?_
    (conv => whnf); (repeat (first | (refine brT rfl ?_; (conv => whnf)) | (refine brF rfl ?_; (conv => whnf)) | (refine And.intro rfl ?_; (conv => whnf)) | (refine And.intro (Nat.le_of_ble_eq_true rfl) ?_; (conv => whnf)) | (refine And.intro (by assumption) ?_; (conv => whnf)) | (refine And.intro (by decide) ?_; (conv => whnf))))
    refine draw_of (by omega) (by omega) fun h h0 h1 => ?_
    (conv => whnf); (repeat (first | (refine brT rfl ?_; (conv => whnf)) | (refine brF rfl ?_; (conv => whnf)) | (refine And.intro rfl ?_; (conv => whnf)) | (refine And.intro (Nat.le_of_ble_eq_true rfl) ?_; (conv => whnf)) | (refine And.intro (by assumption) ?_; (conv => whnf)) | (refine And.intro (by decide) ?_; (conv => whnf))))
    exact tail (by omega) (by omega) (by omega) (by omega)
end Px

namespace K60
open PySem PySem.Spec PyProof.Rows L2 NdefX Px
structure Tt (K : Frg) (mg : Str → Option Value) (base : Heap) : Prop where
  says : Says want K
  kin : K.In base
  ns : base.Ns mainGlobals mg
section
variable {w : World} {K : Frg} {mg : Str → Option Value} {base : Heap}
theorem er_InvalidShape (T : Tt K mg base) : ErrF S.P K (ca K .InvalidShape) (errAd K de_InvalidShape) "line" := by
  obtain ⟨v, o⟩ := T.says.err 0 (d := de_InvalidShape) rfl
  exact ErrD.errF v o (by kernel_rfl) (by kernel_rfl) ⟨by decide, by decide, by decide, by decide⟩ ⟨_, _, _, _, _, _, _, _, _, _, _, _, _, _, rfl, rfl, rfl, fun _ _ _ _ _ _ _ _ _ => rfl, fun _ => ⟨_, rfl⟩⟩
theorem facts (T : Tt K mg base) : Facts S K mg := Says.facts (S := S) T.says T.kin T.ns (AllE.mem (l := S.er) (AllE.cons rfl (er_InvalidShape T) AllE.nil))
theorem fs__law_box (T : Tt K mg base) : FnS false TP w K mg base 1 (He.ga K (S.nm 36)) [] (spBox K) := by
  obtain ⟨fd, Fn⟩ := T.says.def_ 0 (d := dp__law_box) rfl
  refine (fn_box Fn sc__law_box rfl rfl fun pn cd A outer s H E => ?_).s (FunD.bindsN (ps := ["_law_script"]) Fn fun _ _ _ _ _ _ us hl => match us, hl with | [_], _ => rfl)
  exact pss_one (ps_ret (pe_lst (pa_cons (pe_lc (own := [("_law_cell", 1)]) (g := gName 1) (tt := tYes) rfl sc__law_box.nd (pi_list (pe_slice sl_list (pv 0) po_none (po_some pe_int))) (blkOk_by (N := n__law_box) (sc := defScope st__law_box) (by decide +kernel)) (fun _ _ _ _ _ => pg_name (i := 1) sc__law_box.nd rfl (Or.inl rfl)) (fun _ _ _ _ _ => pts_nil) (fun _ _ _ _ _ => pe_callTy call_int1 rfl ((facts T).fre "int" (by decide)) boot_int (pa_cons (pv 1) pa_nil))) (pa_cons pe_int (pa_cons pe_int pa_nil)))))
theorem fs__law_draw (T : Tt K mg base) : FnS false TP w K mg base 1 (He.ga K (S.nm 48)) [] (spP K cDraw) := by
  obtain ⟨fd, Fn⟩ := T.says.def_ 1 (d := dp__law_draw) rfl
  have f_int : mg "int" = none := (facts T).fre "int" (by decide)
  have f_len : mg "len" = none := (facts T).fre "len" (by decide)
  refine (fn_draw Fn sc__law_draw rfl rfl fun pn cd A outer s H E => ?_).s (FunD.bindsN (ps := ["_law_box_here", "_law_size"]) Fn fun _ _ _ _ _ _ us hl => match us, hl with | [_, _], _ => rfl)
  have len2 : ∀ {p0 p1 p2 : Pos}, PE (cxG true pn TP w K mg base n__law_draw dp__law_draw.qual dp__law_draw.scope (dp__law_draw.at_.ad K) cd A outer s H E) (.Call (.Name "len" p0) [.Name "_law_cells" p1] [] p2) (tLen K (tVar 2)) := fun {_ _ _} => pe_callB call_len rfl f_len boot_len (pa_cons (pv 2) pa_nil)
  have cel : ∀ {p0 p1 p2 : Pos}, PE (cxG true pn TP w K mg base n__law_draw dp__law_draw.qual dp__law_draw.scope (dp__law_draw.at_.ad K) cd A outer s H E) (.Subscript (.Name "_law_cells" p0) (.Name "_law_place" p1) p2) (tCel K) := fun {_ _ _} => pe_ix ix_seq (pv 2) (pv 3) fun _ _ => rfl
  exact pss_cons (ps_set (i := 2) sc__law_draw.nd rfl (Or.inl rfl) (pe_ix ix_seq (pv 0) pe_int fun _ _ => rfl))
    (pss_cons (ps_set (i := 3) sc__law_draw.nd rfl (Or.inl rfl) (pe_ix ix_seq (pv 0) pe_int fun _ _ => rfl))
    (pss_cons (ps_if (pt_cmpR op_eq len2 pe_int (nomark _)) (pss_one (ps_ret pe_int)) pss_nil)
    (pss_cons (ps_if (pw_and (pt_cmpR op_lt (pv 3) len2 (nomark _)) (pw_and1 (pt_cmpR op_ge cel (pe_op op_pow pe_int pe_int) (nomark _)))).pt
      (pss_cons (ps_set (i := 4) sc__law_draw.nd rfl (Or.inl rfl) cel) (pss_cons (ps_asg (pe_op op_fdivW (pv 4) (pv 1)) (pg_sub (pv 2) (pv 3) set_list)) (pss_one (ps_ret (pe_op op_mod (pe_callTy call_int1 rfl f_int boot_int (pa_cons (pv 4) pa_nil)) (pv 1)))))) pss_nil)
    (pss_cons (ps_set (i := 4) sc__law_draw.nd rfl (Or.inl rfl) pe_int)
    (pss_cons (ps_if (pt_cmpR op_lt (pv 3) len2 (nomark _)) (pss_one (ps_set (i := 4) sc__law_draw.nd rfl (Or.inl rfl) cel)) pss_nil)
    (pss_cons (ps_asg (pe_op op_add (pv 3) pe_int) (pg_sub (pv 0) pe_int set_list))
    (pss_cons (ps_set (i := 5) sc__law_draw.nd rfl (Or.inl rfl) (pe_op op_mod (pe_callTy call_int1 rfl f_int boot_int (pa_cons (pe_op op_add (pe_op op_add (pe_op op_add (pe_op op_mul (pe_ix ix_seq (pv 0) pe_int fun _ _ => rfl) pe_int) (pe_op op_mul (pe_op op_mod (pe_callTy call_int1 rfl f_int boot_int (pa_cons (pv 4) pa_nil)) pe_int) pe_int)) (pv 3)) pe_int) pa_nil)) pe_int))
    (pss_cons (ps_asg (pv 5) (pg_sub (pv 0) pe_int set_list))
    (pss_cons (ps_set (i := 6) sc__law_draw.nd rfl (Or.inl rfl) (pe_op op_mod (pe_callTy call_int1 rfl f_int boot_int (pa_cons (pe_op op_add (pe_op op_mul (pv 5) (pv 5)) (pe_op op_mul (pv 5) pe_int)) pa_nil)) pe_int))
    (pss_one (ps_ret (pe_op op_mod (pe_callTy call_int1 rfl f_int boot_int (pa_cons (pe_op op_fdivW (pv 6) pe_int) pa_nil)) (pv 1)))))))))))))
theorem fs__law_lines (T : Tt K mg base) : FnS false TP w K mg base 4 (He.ga K (S.nm 99)) [] (spP K c__law_lines) := by
  obtain ⟨fd, Fn⟩ := T.says.def_ 2 (d := dp__law_lines) rfl
  exact (fn_z (S := S) (w := w) (base := base) (k := 1) (b := t__law_lines_0) (L := L__law_lines) (LH := H__law_lines) (Q := Q__law_lines) false (facts T) Fn sc__law_lines (by kernel_rfl) (AllP.cons ((fs__law_draw T).up (by decide)) AllP.nil) AllP.nil (fun z => (by first | rfl | exact absurd rfl z)) AllQ.nil len__law_lines pure__law_lines).s (FunD.bindsN (ps := ["_law_box_here", "_law_wide", "_law_high"]) Fn fun _ _ _ _ _ _ us hl => match us, hl with | [_, _, _], _ => rfl)
theorem fs_first_bad_line (T : Tt K mg base) : FnS false TP w K mg base 3 (He.ga K (S.nm 257)) [] (spP K c_first_bad_line) := by
  obtain ⟨fd, Fn⟩ := T.says.def_ 3 (d := dp_first_bad_line) rfl
  exact (fn_z (S := S) (w := w) (base := base) (k := 0) (b := t_first_bad_line_0) (L := L_first_bad_line) (LH := H_first_bad_line) (Q := Q_first_bad_line) false (facts T) Fn sc_first_bad_line (by kernel_rfl) AllP.nil AllP.nil (fun z => (by first | rfl | exact absurd rfl z)) AllQ.nil len_first_bad_line pure_first_bad_line).s (FunD.bindsN (ps := ["lines"]) Fn fun _ _ _ _ _ _ us hl => match us, hl with | [_], _ => rfl)
theorem fs_Shape___init__ (T : Tt K mg base) : FnS false TP w K mg base 6 (He.ma K (ca K .Shape) (S.nm 13)) [] (spP K (starC 1 c_Shape___init__)) := by
  obtain ⟨fd, Fn⟩ := T.says.def_ 4 (d := dp_Shape___init__) rfl
  exact fn_zs (S := S) (k := 3) (b := t_Shape___init___0) (L := L_Shape___init__) (LH := H_Shape___init__) (Q := Q_Shape___init__) (qs := ["self"]) (facts T) Fn sc_Shape___init__ (by kernel_rfl) (AllP.cons ((fs_first_bad_line T).up (by decide)) AllP.nil) AllP.nil AllQ.nil (fun _ _ _ _ _ _ us rest h => match us, h with | [_], _ => (match rest with | [] => rfl | _ :: _ => rfl)) pure_Shape___init__
theorem fs_Shape_of (T : Tt K mg base) : FnS false TP w K mg base 9 (cmFn K (ca K .Shape) (S.nm 295)) [] (spP K c_Shape_of) := by
  obtain ⟨fd, Fn⟩ := T.says.def_ 5 (d := dp_Shape_of) rfl
  exact (fn_z (S := S) (w := w) (base := base) (k := 6) (b := t_Shape_of_0) (L := L_Shape_of) (LH := H_Shape_of) (Q := Q_Shape_of) false (facts T) Fn sc_Shape_of (by kernel_rfl) (AllP.cons ⟨_, kc_Shape, ((fs_Shape___init__ T).up (by decide))⟩ AllP.nil) AllP.nil (fun z => (by first | rfl | exact absurd rfl z)) AllQ.nil len_Shape_of pure_Shape_of).s (FunD.bindsN (ps := ["cls", "lines"]) Fn fun _ _ _ _ _ _ us hl => match us, hl with | [_, _], _ => rfl)
theorem fs__law_same_text (T : Tt K mg base) : FnS false TP w K mg base 3 (He.ga K (S.nm 181)) [] (spP K c__law_same_text) := by
  obtain ⟨fd, Fn⟩ := T.says.def_ 6 (d := dp__law_same_text) rfl
  exact (fn_z (S := S) (w := w) (base := base) (k := 0) (b := t__law_same_text_0) (L := L__law_same_text) (LH := H__law_same_text) (Q := Q__law_same_text) false (facts T) Fn sc__law_same_text (by kernel_rfl) AllP.nil AllP.nil (fun z => (by first | rfl | exact absurd rfl z)) AllQ.nil len__law_same_text pure__law_same_text).s (FunD.bindsN (ps := ["_law_actual", "_law_expected"]) Fn fun _ _ _ _ _ _ us hl => match us, hl with | [_, _], _ => rfl)
theorem fs__law_same_names (T : Tt K mg base) : FnS false TP w K mg base 6 (He.ga K (S.nm 166)) [] (spP K c__law_same_names) := by
  obtain ⟨fd, Fn⟩ := T.says.def_ 7 (d := dp__law_same_names) rfl
  exact (fn_z (S := S) (w := w) (base := base) (k := 3) (b := t__law_same_names_0) (L := L__law_same_names) (LH := H__law_same_names) (Q := Q__law_same_names) false (facts T) Fn sc__law_same_names (by kernel_rfl) (AllP.cons ((fs__law_same_text T).up (by decide)) AllP.nil) AllP.nil (fun z => (by first | rfl | exact absurd rfl z)) AllQ.nil len__law_same_names pure__law_same_names).s (FunD.bindsN (ps := ["_law_actual", "_law_names"]) Fn fun _ _ _ _ _ _ us hl => match us, hl with | [_, _], _ => rfl)
theorem fs__law_int (T : Tt K mg base) : FnS true TP w K mg base 3 (He.ga K (S.nm 80)) [] (spP K c__law_int) := by
  obtain ⟨fd, Fn⟩ := T.says.def_ 8 (d := dp__law_int) rfl
  exact (fn_z (S := S) (w := w) (base := base) (k := 0) (b := t__law_int_0) (L := L__law_int) (LH := H__law_int) (Q := Q__law_int) true (facts T) Fn sc__law_int (by kernel_rfl) AllP.nil AllP.nil (fun z => (by first | rfl | exact absurd rfl z)) AllQ.nil len__law_int pure__law_int).s (FunD.bindsN (ps := ["_law_actual", "_law_expected"]) Fn fun _ _ _ _ _ _ us hl => match us, hl with | [_, _], _ => rfl)
theorem fs__law_same_shape (T : Tt K mg base) : FnS false TP w K mg base 9 (He.ga K (S.nm 175)) [] (spP K c__law_same_shape) := by
  obtain ⟨fd, Fn⟩ := T.says.def_ 9 (d := dp__law_same_shape) rfl
  exact (fn_z (S := S) (w := w) (base := base) (k := 6) (b := t__law_same_shape_0) (L := L__law_same_shape) (LH := H__law_same_shape) (Q := Q__law_same_shape) false (facts T) Fn sc__law_same_shape (by kernel_rfl) (AllP.cons ((fs__law_same_names T).up (by decide)) (AllP.cons ((fs__law_int T).cool.up (by decide)) AllP.nil)) AllP.nil (fun z => (by first | rfl | exact absurd rfl z)) AllQ.nil len__law_same_shape pure__law_same_shape).s (FunD.bindsN (ps := ["_law_shape", "_law_lines_here"]) Fn fun _ _ _ _ _ _ us hl => match us, hl with | [_, _], _ => rfl)
theorem fs_Shape_mirrored_v2 (T : Tt K mg base) : FnS false TP w K mg base 12 (He.ma K (ca K .Shape) (S.nm 287)) [] (spP K c_Shape_mirrored_v2) := by
  obtain ⟨fd, Fn⟩ := T.says.def_ 10 (d := dp_Shape_mirrored_v2) rfl
  exact (fn_z (S := S) (w := w) (base := base) (k := 9) (b := t_Shape_mirrored_v2_0) (L := L_Shape_mirrored_v2) (LH := H_Shape_mirrored_v2) (Q := Q_Shape_mirrored_v2) false (facts T) Fn sc_Shape_mirrored_v2 (by kernel_rfl) (AllP.cons ((fs_Shape_of T).up (by decide)) AllP.nil) AllP.nil (fun z => (by first | rfl | exact absurd rfl z)) AllQ.nil len_Shape_mirrored_v2 pure_Shape_mirrored_v2).s (FunD.bindsN (ps := ["self"]) Fn fun _ _ _ _ _ _ us hl => match us, hl with | [_], _ => rfl)
theorem fs_check_size (T : Tt K mg base) : FnS false TP w K mg base 3 (He.ga K (S.nm 241)) [] (spP K c_check_size) := by
  obtain ⟨fd, Fn⟩ := T.says.def_ 11 (d := dp_check_size) rfl
  exact (fn_z (S := S) (w := w) (base := base) (k := 0) (b := t_check_size_0) (L := L_check_size) (LH := H_check_size) (Q := Q_check_size) false (facts T) Fn sc_check_size (by kernel_rfl) AllP.nil AllP.nil (fun z => (by first | rfl | exact absurd rfl z)) AllQ.nil len_check_size pure_check_size).s (FunD.bindsN (ps := ["width", "height"]) Fn fun _ _ _ _ _ _ us hl => match us, hl with | [_, _], _ => rfl)
theorem fs_Shape_tiled_v2 (T : Tt K mg base) : FnS false TP w K mg base 12 (He.ma K (ca K .Shape) (S.nm 334)) [] (spP K c_Shape_tiled_v2) := by
  obtain ⟨fd, Fn⟩ := T.says.def_ 12 (d := dp_Shape_tiled_v2) rfl
  exact (fn_z (S := S) (w := w) (base := base) (k := 9) (b := t_Shape_tiled_v2_0) (L := L_Shape_tiled_v2) (LH := H_Shape_tiled_v2) (Q := Q_Shape_tiled_v2) false (facts T) Fn sc_Shape_tiled_v2 (by kernel_rfl) (AllP.cons ((fs_check_size T).up (by decide)) (AllP.cons ((fs_Shape_of T).up (by decide)) AllP.nil)) AllP.nil (fun z => (by first | rfl | exact absurd rfl z)) AllQ.nil len_Shape_tiled_v2 pure_Shape_tiled_v2).s (FunD.bindsN (ps := ["self", "width", "height"]) Fn fun _ _ _ _ _ _ us hl => match us, hl with | [_, _, _], _ => rfl)
theorem fs_Shape_blank_v2 (T : Tt K mg base) : FnS false TP w K mg base 12 (cmFn K (ca K .Shape) (S.nm 236)) [] (spP K (dfl [.bl false] c_Shape_blank_v2)) := by
  obtain ⟨fd, Fn⟩ := T.says.def_ 13 (d := dp_Shape_blank_v2) rfl
  obtain ⟨ds, vd, b⟩ := FunD.binds0 (ps := ["cls", "width", "height", "opened"]) Fn 3 (List.cons_ne_nil _ _) rfl fun _ _ _ _ _ _ us ks h1 h2 => match us, ks, h1, h2 with | [_, _, _], [_], _, _ => ⟨_, _, _, _, _, _, rfl, rfl, rfl⟩
  exact (fn_z (S := S) (w := w) (base := base) (k := 9) (b := t_Shape_blank_v2_0) (L := L_Shape_blank_v2) (LH := H_Shape_blank_v2) (Q := Q_Shape_blank_v2) false (facts T) Fn sc_Shape_blank_v2 (by kernel_rfl) (AllP.cons ((fs_check_size T).up (by decide)) (AllP.cons ((fs_Shape_of T).up (by decide)) AllP.nil)) AllP.nil (fun z => (by first | rfl | exact absurd rfl z)) AllQ.nil len_Shape_blank_v2 pure_Shape_blank_v2).sD b vd fun _ _ => (.cons (by simp only [Rep]; rfl) .nil)
theorem fs_Shape_blank_v2_298 (T : Tt K mg base) : FnS false TP w K mg base 12 (cmFn K (ca K .Shape) (S.nm 236)) ([298].map S.nm) (spP K c_Shape_blank_v2) := by
  obtain ⟨fd, Fn⟩ := T.says.def_ 13 (d := dp_Shape_blank_v2) rfl
  exact (fn_z (S := S) (w := w) (base := base) (k := 9) (b := t_Shape_blank_v2_0) (L := L_Shape_blank_v2) (LH := H_Shape_blank_v2) (Q := Q_Shape_blank_v2) false (facts T) Fn sc_Shape_blank_v2 (by kernel_rfl) (AllP.cons ((fs_check_size T).up (by decide)) (AllP.cons ((fs_Shape_of T).up (by decide)) AllP.nil)) AllP.nil (fun z => (by first | rfl | exact absurd rfl z)) AllQ.nil len_Shape_blank_v2 pure_Shape_blank_v2).sK (bindsK_of (ps := ["cls", "width", "height", "opened"]) (ks := ["opened"]) Fn fun _ _ _ _ _ _ us ws h1 h2 => match us, ws, two_len (m := 3) (n := 1) h1 h2, h1 with | [_, _, _], [_], _, _ => rfl)
theorem fs__law_refused_v6 (T : Tt K mg base) : FnS false TP w K mg base 15 (He.ga K (S.nm 144)) [] (spP K c__law_refused_v6) := by
  obtain ⟨fd, Fn⟩ := T.says.def_ 14 (d := dp__law_refused_v6) rfl
  exact (fn_z (S := S) (w := w) (base := base) (k := 12) (b := t__law_refused_v6_0) (L := L__law_refused_v6) (LH := H__law_refused_v6) (Q := Q__law_refused_v6) false (facts T) Fn sc__law_refused_v6 (by kernel_rfl) (AllP.cons ((fs__law_draw T).up (by decide)) (AllP.cons (prom_m (facts T) (by decide) ((fs_Shape_tiled_v2 T).up (by decide))) (AllP.cons ((fs_Shape_blank_v2 T).up (by decide)) (AllP.cons ((fs_Shape_blank_v2_298 T).up (by decide)) AllP.nil)))) (AllP.cons ((fs__law_int T).up (by decide)) AllP.nil) (fun z => (by first | rfl | exact absurd rfl z)) AllQ.nil len__law_refused_v6 pure__law_refused_v6).s (FunD.bindsN (ps := ["_law_box_here", "_law_shape"]) Fn fun _ _ _ _ _ _ us hl => match us, hl with | [_, _], _ => rfl)
theorem fo_law (c : Says want K) : ∃ fd : FuncData, (∀ (s : Shared) (u : Value), BindsTo s fd ⟨[u], []⟩ [("_law_script", u)]) ∧ ∀ base : Heap, K.In base → base.Ns mainGlobals mg → FnOk TP w K mg base (L2N.CX TP w) 18 (He.ga K (S.nm 276)) fd ["_law_script"] (spLaw K) := by
  obtain ⟨fd, Fn⟩ := c.def_ 15 (d := dp_law_k60) rfl
  have b := FunD.bindsA (ps := ["_law_script"]) Fn fun _ _ _ _ _ _ us hl => match us, hl with | [_], _ => rfl
  refine ⟨fd, fun s v => b s [v] rfl, fun base kb nb => ?_⟩
  have T : Tt K mg base := ⟨c, kb, nb⟩
  have gb := (facts T).gl 36 (by decide)
  refine (fn_zlaw (S := S) (n := 13) (k := 15) (b := t_law_k60_0) (L := L_law_k60) (LH := H_law_k60) (Q := Q_law_k60) (facts T) Fn sc_law_k60 rfl rfl rfl (by kernel_rfl) (AllP.cons ((fs__law_draw T).up (by decide)) (AllP.cons ((fs__law_lines T).up (by decide)) (AllP.cons ((fs_Shape_of T).up (by decide)) (AllP.cons ((fs__law_same_shape T).up (by decide)) (AllP.cons (prom_m (facts T) (by decide) ((fs_Shape_mirrored_v2 T).up (by decide))) (AllP.cons (prom_m (facts T) (by decide) ((fs_Shape_tiled_v2 T).up (by decide))) (AllP.cons ((fs_Shape_blank_v2 T).up (by decide)) (AllP.cons ((fs_Shape_blank_v2_298 T).up (by decide)) (AllP.cons ((fs__law_refused_v6 T).up (by decide)) AllP.nil))))))))) AllP.nil AllQ.nil (fun pn cd A outer s H E he => ?_) pure_law_k60).calm
  exact ps_set (i := 1) sc_law_k60.nd rfl (by first | exact Or.inl rfl | exact Or.inr rfl | exact Or.inr (Or.inl rfl)) (pe_raw (fs__law_box T) (.inl rfl) (he.rm.mono (by decide)) he.tk gb.1 gb.2 (pa_cons (pv 0) pa_nil))
end
end K60
open PySem PySem.W PySem.Calls PyProof.Rows
theorem PySem.Challenge.cw_laidink_k60_shapes_turned_and_tiled_holds : PySem.Challenge.rw_laidink_k60_shapes_turned_and_tiled.Holds := by
  w_on; o_law
  refine HandSHeadRun.head_any (r := OpenLaw.row PySem.Challenge.rw_laidink_k60_shapes_turned_and_tiled) (q := view (OpenLaw.row PySem.Challenge.rw_laidink_k60_shapes_turned_and_tiled).prog [20]) (H := K60.hk) (ob := K60.ob) (M := 20000) (loose := ["_wall", "PrintError", "InvalidShape", "WrongSize", "first_bad_line", "check_size", "Shape", "joined_shapes", "_law_draw", "_law_int", "_law_box", "_law_lines", "_law_same_text", "_law_same_names", "_law_same_shape", "_law_refused", "MOST_PLACES"]) (d := HandSHeadRun.topDef (OpenLaw.row PySem.Challenge.rw_laidink_k60_shapes_turned_and_tiled).prog 20) (kwd := []) K60.ob_eq
    (by kernel_rfl) (fun s => by kernel_rfl) K60.run (by kernel_rfl) (by kernel_rfl) (by kernel_rfl) (by rfl) (by first | assumption | decide +kernel) (by decide +kernel) ⟨rfl, rfl, rfl, rfl, rfl, by decide +kernel⟩ ?hw ?hc
  case hw => w_witness2
  case hc =>
    refine Px.law_end (l := PySem.Challenge.rw_laidink_k60_shapes_turned_and_tiled) (t := K60.want) (k := 18) (x := "_law_script") (sp := Px.spLaw) rfl (by kernel_rfl) ⟨rfl, by decide, by decide⟩ (fun w mg fa h K KX c G hmg0 => ?_) (fun K H a ns hl _ _ hS => ⟨a, ns, rfl, hl, hS, fun _ => rfl⟩)
    have hmg : mg ("law" : PySem.Str) = some (.ref fa) := by
      have e : (HandSHeadRun.topDef (OpenLaw.row PySem.Challenge.rw_laidink_k60_shapes_turned_and_tiled).prog 20).name = ("law" : PySem.Str) := by kernel_rfl
      rw [← e]
      exact hmg0
    have e := hmg.symm.trans ((K60.facts (mg := mg) (base := h) ⟨c, KX, G⟩).gl 276 (by decide)).1
    cases e
    exact K60.fo_law (w := w) (mg := mg) c
