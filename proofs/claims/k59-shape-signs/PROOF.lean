import PyProof.Rows.All
import Wide.All
import OpenK.AllK
import Wide.FinOn
import HandS.ForMost
import HandS.Exc
import HandS.TryOnly
import HandS.ExcOwn
import HandS.WordsExc
import HandS.Star
import HandS.ClsMeth
import HandS.Defaults
import HandS.HeadHook1
import HandS.HeadHook2
import HandS.ExcField
import HandS.Lambda
import HandS.ExcCtx
import HandS.SuiteRaise
import HandS.EndTab
import HandS.HotCalls
import HandS.IsInst
import HandS.Wide
import HandS.TupAny
import HandS.Iter
import HandS.Text
import KE.KExcSuper
import HandS.HeadNt
import KE.KStateDown
import Lean
import HandS.Head0
import HandS.Head1
import HandS.Head2
import HandS.HeadEnd
import KE.KSuper
import HandS.GenCall
import HandS.Nested
import HandS.GenOver
import PyProof.Sched
import PyProof.Commute
import PyProof.GenRules
import PyProof.ForAny
import HandS.GenList
import HandS.EndBits
import KE.SortUse
import KE.KLam
import PyProof.DefCall
import HandS.Comp
import KE.KOpsOwn
import KE.KCallOwn
import HandS.FStr
import HandS.RaiseMore
import PyProof.Conv_bool
import HandS.OwnEq
import PyProof.NeKinds
import HandS.Property
import HandS.ExcIs
import HandS.Set
import HandS.SetFor
import HandS.SetBool
import PyProof.Rows.SortShellAny
import HandS.Rev
import KE.GoesEnum
import HandS.ExcInit
import OpenK.KMeth
import HandS.SortInts
import HandS.Conv
import KE.GoesZip
import HandS.RevTup
import HandS.Style
import HandS.More
import HandS.Deep
import PyProof.StrOps2
import PyProof.Rows.RegReprOcc
import KE.LtData
import HandS.Dict
import HandS.DictComp
import HandS.Small
import HandS.ReplaceLit
import HandS.StrMore
import HandS.ReplaceList
import PySem.Challenge.RW_laidink_k59_shape_signs
set_option Elab.async false
set_option linter.all false
set_option maxRecDepth 100000
set_option maxHeartbeats 4000000
namespace Px
open PySem PySem.Spec PyProof.Rows L2
inductive Cl where
  | Light | Film | Ink | Filter | Opaque | Bleach | Pass | Row | Spot | Chart | Shape | Sheet | Press
  | PrintError | InvalidBand | InvalidInk | InvalidTakes | InvalidPass | NoSuchPass | NotAnOrder | TooLong | TooManyMasks
  | Conditional | CannotCome | InvalidShape | WrongSize | UnknownMask | UnknownPlace | InvalidText | NothingToUndo
  | NothingToRedo | InvalidLimit | InvalidRun
  deriving DecidableEq
def Cl.name : Cl → Str
  | .Light => "Light" | .Film => "Film" | .Ink => "Ink" | .Filter => "Filter" | .Opaque => "Opaque" | .Bleach => "Bleach"
  | .Pass => "Pass" | .Row => "Row" | .Spot => "Spot" | .Chart => "Chart" | .Shape => "Shape" | .Sheet => "Sheet" | .Press => "Press"
  | .PrintError => "PrintError" | .InvalidBand => "InvalidBand" | .InvalidInk => "InvalidInk" | .InvalidTakes => "InvalidTakes"
  | .InvalidPass => "InvalidPass" | .NoSuchPass => "NoSuchPass" | .NotAnOrder => "NotAnOrder" | .TooLong => "TooLong"
  | .TooManyMasks => "TooManyMasks" | .Conditional => "Conditional" | .CannotCome => "CannotCome" | .InvalidShape => "InvalidShape"
  | .WrongSize => "WrongSize" | .UnknownMask => "UnknownMask" | .UnknownPlace => "UnknownPlace" | .InvalidText => "InvalidText"
  | .NothingToUndo => "NothingToUndo" | .NothingToRedo => "NothingToRedo" | .InvalidLimit => "InvalidLimit" | .InvalidRun => "InvalidRun"
def Cl.flds : Cl → List Str
  | .Light => ["number", "bands"] | .Film => ["bare", "inked"]
  | .Ink => ["off", "on", "takes"] | .Filter => ["off", "on", "takes"] | .Opaque => ["off", "on", "takes"] | .Bleach => ["off", "on", "takes"]
  | .Pass => ["mask", "ink", "around"] | .Row => ["passes", "masks"] | .Spot => ["opened", "ground", "inked"]
  | .Chart => ["mask", "leaf", "when_shut", "when_open"] | .Shape => ["lines", "width", "height"] | .Sheet => ["width", "height", "places"]
  | .Press => ["shapes", "sheet_now", "row_now", "before", "behind", "most"]
  | .PrintError => [] | .InvalidBand => ["band"] | .InvalidInk => ["band"] | .InvalidTakes => ["takes"] | .InvalidPass => ["mask"]
  | .NoSuchPass => ["number"] | .NotAnOrder => [] | .TooLong => ["many"] | .TooManyMasks => ["many"] | .Conditional => ["number"]
  | .CannotCome => ["place"] | .InvalidShape => ["line"] | .WrongSize => ["mask"] | .UnknownMask => ["mask"] | .UnknownPlace => ["x", "y"]
  | .InvalidText => ["line"] | .NothingToUndo => [] | .NothingToRedo => [] | .InvalidLimit => ["worth"] | .InvalidRun => ["number"]
inductive PV where
  | non | bl (b : Bool) | int (i : Int) | str (s : Str)
  | tup (xs : List PV) | lst (xs : List PV)
  | obj (c : Cl) (xs : List PV)
  | cls (c : Cl)
  | ty (n : String)
  | box
  | exc (a d : Addr) (c : Cl) (xs : List PV)
  | cell (a : Addr)
  | dK (ks : List Key) (xs : List PV)
  | dT (ks : List (List Key)) (xs : List PV)
  | ctup (xs : List PV)
abbrev Frg := PySem.W.Frag
/-- where the class c stands -/
abbrev ca (K : Frg) (c : Cl) : Addr := He.ga K c.name
/-- the box that a law draws from, its cells -/
abbrev BX := Option (Addr × Addr)
def isB (B : BX) (a : Addr) : Prop := ∃ b c, B = some (b, c) ∧ (a = b ∨ a = c)
/-- a class whose instances are read and stored plainly -/
def kcB (K : Frg) (c : Cl) : Bool := (He.Fa.cls c.name).ok K && (He.eqO (PySem.W.findIn K (.ref (ca K c)) "__class__") (some (some (.builtin "object.__class__"))) &&
  (He.eqO (PySem.W.specialIn K (.builtin "object.__class__") "__get__") (some (some (.builtin "getset_descriptor.__get__"))) && (decide (PySem.W.takesIn K (.builtin "object.__class__") = some true) &&
    (decide (PySem.W.mroIn K (ca K c) (.type "object") = some true) && (He.eqO (PySem.W.findIn K (.ref (ca K c)) "__ne__") (some (some (.builtin "object.__ne__"))) && c.flds.all fun f => He.eqO (PySem.W.findIn K (.ref (ca K c)) f) (some none))))))
/-- a class of errors -/
def xcB (K : Frg) (c : Cl) : Bool := xfB K (ca K c) && c.flds.all fun f => decide (PySem.W.findIn K (.ref (ca K c)) f = some none)
def knB (K : Frg) (c : Cl) : Bool := kcB K c || xcB K c
section
variable (K : Frg) (B : BX) (G : Hp)
mutual
def Rep : PV → V → Prop
  | .non, v => v = .non
  | .bl b, v => v = .bl b
  | .int i, v => v = .int i
  | .str s, v => v = .str s
  | .tup xs, v => ∃ a vs, v = .ref a ∧ G a = some (.tup vs) ∧ Reps xs vs
  | .lst xs, v => ∃ a vs, v = .ref a ∧ G a = some (.lst vs) ∧ Reps xs vs
  | .obj c xs, v => ∃ a dx vs, v = .ref a ∧ kcB K c = true ∧ G a = some (.ins (ca K c) dx (c.flds.zip vs)) ∧ vs.length = c.flds.length ∧ Reps xs vs
  | .cls c, v => v = .ref (ca K c) ∧ knB K c = true
  | .ty n, v => v = .ty n
  | .box, v => ∃ b c, B = some (b, c) ∧ v = .ref b
  | .exc a d c xs, v => v = .ref a ∧ (c.flds = [] ∨ ∃ vs, G d = some (.xd (c.flds.zip vs)) ∧ vs.length = c.flds.length ∧ Reps xs vs)
  | .cell a, v => v = .ref a
  | .dK ks xs, v => ∃ a vs o, v = .ref a ∧ G a = some (.frz o (.dK (ks.zip vs))) ∧ vs.length = ks.length ∧ Reps xs vs
  | .dT ks xs, v => ∃ a vs o, v = .ref a ∧ G a = some (.frz o (.dT (ks.zip vs))) ∧ vs.length = ks.length ∧ Reps xs vs
  | .ctup xs, v => ∃ a vs, v = .ref a ∧ SqT K G a vs ∧ Reps xs vs
def Reps : List PV → List V → Prop
  | [], vs => vs = []
  | x :: xs, vs => ∃ v ws, vs = v :: ws ∧ Rep x v ∧ Reps xs ws
end
end
/-- all of G stands in H -/
def Sub (G H : Hp) : Prop := ∀ a o, G a = some o → H a = some o
theorem Sub.refl (G : Hp) : Sub G G := fun _ _ h => h
theorem Sub.trans {G H J : Hp} (a : Sub G H) (b : Sub H J) : Sub G J := fun x o h => b x o (a x o h)
theorem Sub.rd {G H : Hp} {a : Addr} {u : HO} (s : Sub G H) (h : Rd G a u) : Rd H a u := by
  rcases h with h | ⟨o, h⟩
  · exact .inl (s _ _ h)
  · exact .inr ⟨o, s _ _ h⟩
theorem Sub.l {K : Frg} {G H : Hp} {a : Addr} {xs : List V} (s : Sub G H) (h : SqL K G a xs) : SqL K H a xs := by
  rcases h with h | h
  · exact .inl (s.rd h)
  · exact .inr h
theorem Sub.t {K : Frg} {G H : Hp} {a : Addr} {xs : List V} (s : Sub G H) (h : SqT K G a xs) : SqT K H a xs := by
  rcases h with h | h
  · exact .inl (s.rd h)
  · exact .inr h
theorem Sub.free {G H : Hp} (s : Sub G H) {a : Addr} (h : H a = none) : G a = none := by
  cases q : G a with
  | none => rfl
  | some o => rw [s a o q] at h; cases h
theorem Sub.upd {H : Hp} {p : Addr} {o : HO} (h : H p = none) : Sub H (upd H p o) := fun a u e => by
  rw [upd_ne (ne_of_none e h)]; exact e
theorem Sub.upd2 {G H : Hp} (s : Sub G H) (p : Addr) (o : HO) : Sub (L2.upd G p o) (L2.upd H p o) := fun a u e => by
  by_cases h : a = p
  · subst h; rw [upd_same] at e ⊢; exact e
  · rw [upd_ne h] at e ⊢; exact s a u e
section
variable {K : Frg} {B : BX} {G H : Hp}
mutual
theorem Rep.mono (s : Sub G H) : ∀ {x : PV} {v : V}, Rep K B G x v → Rep K B H x v
  | .non, v, h => by simp only [Rep] at h ⊢; exact h
  | .bl b, v, h => by simp only [Rep] at h ⊢; exact h
  | .int i, v, h => by simp only [Rep] at h ⊢; exact h
  | .str z, v, h => by simp only [Rep] at h ⊢; exact h
  | .tup xs, v, h => by
    simp only [Rep] at h ⊢
    obtain ⟨a, vs, e, q, r⟩ := h
    exact ⟨a, vs, e, s _ _ q, Reps.mono s r⟩
  | .ctup xs, v, h => by
    simp only [Rep] at h ⊢
    obtain ⟨a, vs, e, q, r⟩ := h
    exact ⟨a, vs, e, s.t q, Reps.mono s r⟩
  | .lst xs, v, h => by
    simp only [Rep] at h ⊢
    obtain ⟨a, vs, e, q, r⟩ := h
    exact ⟨a, vs, e, s _ _ q, Reps.mono s r⟩
  | .obj c xs, v, h => by
    simp only [Rep] at h ⊢
    obtain ⟨a, dx, vs, e, kc, q, l, r⟩ := h
    exact ⟨a, dx, vs, e, kc, s _ _ q, l, Reps.mono s r⟩
  | .cls c, v, h => by simp only [Rep] at h ⊢; exact h
  | .ty n, v, h => by simp only [Rep] at h ⊢; exact h
  | .box, v, h => by simp only [Rep] at h ⊢; exact h
  | .exc a d c xs, v, h => by
    simp only [Rep] at h ⊢
    obtain ⟨e, z⟩ := h
    refine ⟨e, z.elim .inl fun ⟨vs, q, l, r⟩ => .inr ⟨vs, s _ _ q, l, Reps.mono s r⟩⟩
  | .cell a, v, h => by simp only [Rep] at h ⊢; exact h
  | .dK ks xs, v, h => by
    simp only [Rep] at h ⊢
    obtain ⟨a, vs, o, e, q, l, r⟩ := h
    exact ⟨a, vs, o, e, s _ _ q, l, Reps.mono s r⟩
  | .dT ks xs, v, h => by
    simp only [Rep] at h ⊢
    obtain ⟨a, vs, o, e, q, l, r⟩ := h
    exact ⟨a, vs, o, e, s _ _ q, l, Reps.mono s r⟩
theorem Reps.mono (s : Sub G H) : ∀ {xs : List PV} {vs : List V}, Reps K B G xs vs → Reps K B H xs vs
  | [], vs, h => by simp only [Reps] at h ⊢; exact h
  | x :: xs, vs, h => by
    simp only [Reps] at h ⊢
    obtain ⟨v, ws, e, r, rs⟩ := h
    exact ⟨v, ws, e, Rep.mono s r, Reps.mono s rs⟩
end
theorem Reps.nil : Reps K B G [] [] := by simp only [Reps]
theorem Reps.cons {x : PV} {v : V} {xs : List PV} {vs : List V} (r : Rep K B G x v) (rs : Reps K B G xs vs) : Reps K B G (x :: xs) (v :: vs) := by
  simp only [Reps]; exact ⟨v, vs, rfl, r, rs⟩
theorem Reps.cons_inv {x : PV} {xs : List PV} {vs : List V} (h : Reps K B G (x :: xs) vs) : ∃ v ws, vs = v :: ws ∧ Rep K B G x v ∧ Reps K B G xs ws := by
  simp only [Reps] at h; exact h
theorem Reps.nil_inv {vs : List V} (h : Reps K B G [] vs) : vs = [] := by simp only [Reps] at h; exact h
theorem Reps.length : ∀ {xs : List PV} {vs : List V}, Reps K B G xs vs → vs.length = xs.length
  | [], vs, h => by rw [h.nil_inv]; rfl
  | x :: xs, vs, h => by
    obtain ⟨v, ws, rfl, _, r⟩ := h.cons_inv
    simp only [List.length_cons, r.length]
theorem Reps.get : ∀ {xs : List PV} {vs : List V} {i : Nat} {x : PV}, Reps K B G xs vs → xs[i]? = some x → ∃ v, vs[i]? = some v ∧ Rep K B G x v
  | [], vs, i, x, h, e => by simp at e
  | y :: xs, vs, i, x, h, e => by
    obtain ⟨v, ws, rfl, r, rs⟩ := h.cons_inv
    cases i with
    | zero => simp at e; subst e; exact ⟨v, rfl, r⟩
    | succ i =>
      obtain ⟨u, e1, e2⟩ := Reps.get (i := i) rs (by simpa using e)
      exact ⟨u, by simpa using e1, e2⟩
theorem Reps.append : ∀ {xs ys : List PV} {vs ws : List V}, Reps K B G xs vs → Reps K B G ys ws → Reps K B G (xs ++ ys) (vs ++ ws)
  | [], ys, vs, ws, h, r => by rw [h.nil_inv]; exact r
  | x :: xs, ys, vs, ws, h, r => by
    obtain ⟨v, us, rfl, q, qs⟩ := h.cons_inv
    exact .cons q (qs.append r)
theorem Reps.set : ∀ {xs : List PV} {vs : List V} {x : PV} {v : V} (i : Nat), Reps K B G xs vs → Rep K B G x v → Reps K B G (xs.set i x) (vs.set i v)
  | [], vs, x, v, i, h, r => by rw [h.nil_inv]; exact .nil
  | y :: xs, vs, x, v, i, h, r => by
    obtain ⟨w, us, rfl, q, qs⟩ := h.cons_inv
    cases i with
    | zero => exact .cons r qs
    | succ i => exact .cons q (Reps.set i qs r)
theorem Reps.take : ∀ {xs : List PV} {vs : List V} (n : Nat), Reps K B G xs vs → Reps K B G (xs.take n) (vs.take n)
  | [], vs, n, h => by rw [h.nil_inv, List.take_nil, List.take_nil]; exact .nil
  | y :: xs, vs, 0, h => .nil
  | y :: xs, vs, n + 1, h => by
    obtain ⟨w, us, rfl, q, qs⟩ := h.cons_inv
    exact .cons q (qs.take n)
theorem Reps.drop : ∀ {xs : List PV} {vs : List V} (n : Nat), Reps K B G xs vs → Reps K B G (xs.drop n) (vs.drop n)
  | [], vs, n, h => by rw [h.nil_inv, List.drop_nil, List.drop_nil]; exact .nil
  | y :: xs, vs, 0, h => h
  | y :: xs, vs, n + 1, h => by
    obtain ⟨w, us, rfl, q, qs⟩ := h.cons_inv
    exact qs.drop n
theorem Reps.reverse : ∀ {xs : List PV} {vs : List V}, Reps K B G xs vs → Reps K B G xs.reverse vs.reverse
  | [], vs, h => by rw [h.nil_inv]; exact .nil
  | y :: xs, vs, h => by
    obtain ⟨w, us, rfl, q, qs⟩ := h.cons_inv
    rw [List.reverse_cons, List.reverse_cons]
    exact qs.reverse.append (.cons q .nil)
theorem Reps.ints : ∀ {ns : List Int} {vs : List V}, Reps K B G (ns.map .int) vs → vs = ns.map V.int
  | [], vs, h => h.nil_inv
  | n :: ns, vs, h => by
    obtain ⟨v, us, rfl, q, qs⟩ := Reps.cons_inv (xs := ns.map PV.int) h
    simp only [Rep] at q
    rw [q, Reps.ints qs]
    rfl
theorem Reps.strs : ∀ {ys : List Str} {vs : List V}, Reps K B G (ys.map .str) vs → vs = ys.map V.str
  | [], vs, h => h.nil_inv
  | n :: ns, vs, h => by
    obtain ⟨v, us, rfl, q, qs⟩ := Reps.cons_inv (xs := ns.map PV.str) h
    simp only [Rep] at q
    rw [q, Reps.strs qs]
    rfl
theorem Reps.ofStrs : ∀ (ns : List Str), Reps K B G (ns.map .str) (ns.map V.str)
  | [] => .nil
  | n :: ns => .cons (by simp only [Rep]) (Reps.ofStrs ns)
theorem Reps.bls : ∀ {bs : List Bool} {vs : List V}, Reps K B G (bs.map .bl) vs → vs = bs.map V.bl
  | [], vs, h => h.nil_inv
  | n :: ns, vs, h => by
    obtain ⟨v, us, rfl, q, qs⟩ := Reps.cons_inv (xs := ns.map PV.bl) h
    simp only [Rep] at q
    rw [q, Reps.bls qs]
    rfl
theorem rep_ctup {a : Addr} {xs : List PV} {vs : List V} (h : SqT K G a vs) (r : Reps K B G xs vs) : Rep K B G (.ctup xs) (.ref a) := by
  simp only [Rep]; exact ⟨a, vs, rfl, h, r⟩
theorem rep_tup {a : Addr} {xs : List PV} {vs : List V} (h : G a = some (.tup vs)) (r : Reps K B G xs vs) : Rep K B G (.tup xs) (.ref a) := by
  simp only [Rep]; exact ⟨a, vs, rfl, h, r⟩
theorem rep_lst {a : Addr} {xs : List PV} {vs : List V} (h : G a = some (.lst vs)) (r : Reps K B G xs vs) : Rep K B G (.lst xs) (.ref a) := by
  simp only [Rep]; exact ⟨a, vs, rfl, h, r⟩
theorem rep_int (i : Int) : Rep K B G (.int i) (.int i) := by simp only [Rep]
theorem rep_bl (i : Bool) : Rep K B G (.bl i) (.bl i) := by simp only [Rep]
theorem rep_str (i : Str) : Rep K B G (.str i) (.str i) := by simp only [Rep]
theorem rep_non : Rep K B G .non .non := by simp only [Rep]
theorem rep_ty (n : String) : Rep K B G (.ty n) (.ty n) := by simp only [Rep]
theorem rep_cell (a : Addr) : Rep K B G (.cell a) (.ref a) := by simp only [Rep]
theorem rep_cls (c : Cl) (h : knB K c = true) : Rep K B G (.cls c) (.ref (ca K c)) := by simp only [Rep]; exact ⟨trivial, h⟩
theorem Rep.ty_inv {n : String} {v : V} (h : Rep K B G (.ty n) v) : v = .ty n := by simp only [Rep] at h; exact h
theorem Rep.int_inv {i : Int} {v : V} (h : Rep K B G (.int i) v) : v = .int i := by simp only [Rep] at h; exact h
theorem Rep.bl_inv {i : Bool} {v : V} (h : Rep K B G (.bl i) v) : v = .bl i := by simp only [Rep] at h; exact h
theorem Rep.str_inv {i : Str} {v : V} (h : Rep K B G (.str i) v) : v = .str i := by simp only [Rep] at h; exact h
theorem Rep.non_inv {v : V} (h : Rep K B G .non v) : v = .non := by simp only [Rep] at h; exact h
theorem Rep.cls_inv {c : Cl} {v : V} (h : Rep K B G (.cls c) v) : v = .ref (ca K c) := by simp only [Rep] at h; exact h.1
theorem Rep.cls_kn {c : Cl} {v : V} (h : Rep K B G (.cls c) v) : knB K c = true := by simp only [Rep] at h; exact h.2
theorem Rep.cell_inv {a : Addr} {v : V} (h : Rep K B G (.cell a) v) : v = .ref a := by simp only [Rep] at h; exact h
theorem Rep.tup_at {xs : List PV} {v : V} (h : Rep K B G (.tup xs) v) : ∃ a vs, v = .ref a ∧ G a = some (.tup vs) ∧ Reps K B G xs vs := by simp only [Rep] at h; exact h
theorem Rep.tup_inv {xs : List PV} {v : V} (h : Rep K B G (.tup xs) v) : ∃ a vs, v = .ref a ∧ SqT K G a vs ∧ Reps K B G xs vs := by
  obtain ⟨a, vs, e, q, r⟩ := h.tup_at
  exact ⟨a, vs, e, .inl (.inl q), r⟩
theorem Rep.ctup_inv {xs : List PV} {v : V} (h : Rep K B G (.ctup xs) v) : ∃ a vs, v = .ref a ∧ SqT K G a vs ∧ Reps K B G xs vs := by simp only [Rep] at h; exact h
theorem Rep.lst_inv {xs : List PV} {v : V} (h : Rep K B G (.lst xs) v) : ∃ a vs, v = .ref a ∧ G a = some (.lst vs) ∧ Reps K B G xs vs := by simp only [Rep] at h; exact h
theorem Rep.obj_inv {c : Cl} {xs : List PV} {v : V} (h : Rep K B G (.obj c xs) v) : ∃ a dx vs, v = .ref a ∧ kcB K c = true ∧ G a = some (.ins (ca K c) dx (c.flds.zip vs)) ∧ vs.length = c.flds.length ∧ Reps K B G xs vs := by simp only [Rep] at h; exact h
theorem Rep.box_inv {v : V} (h : Rep K B G .box v) : ∃ b c, B = some (b, c) ∧ v = .ref b := by simp only [Rep] at h; exact h
theorem Rep.exc_inv {a d : Addr} {c : Cl} {xs : List PV} {v : V} (h : Rep K B G (.exc a d c xs) v) : v = .ref a ∧ (c.flds = [] ∨ ∃ vs, G d = some (.xd (c.flds.zip vs)) ∧ vs.length = c.flds.length ∧ Reps K B G xs vs) := by simp only [Rep] at h; exact h
theorem Rep.dK_inv {ks : List Key} {xs : List PV} {v : V} (h : Rep K B G (.dK ks xs) v) : ∃ a vs o, v = .ref a ∧ G a = some (.frz o (.dK (ks.zip vs))) ∧ vs.length = ks.length ∧ Reps K B G xs vs := by simp only [Rep] at h; exact h
theorem Rep.dT_inv {ks : List (List Key)} {xs : List PV} {v : V} (h : Rep K B G (.dT ks xs) v) : ∃ a vs o, v = .ref a ∧ G a = some (.frz o (.dT (ks.zip vs))) ∧ vs.length = ks.length ∧ Reps K B G xs vs := by simp only [Rep] at h; exact h
end
inductive Cell where
  | lst (xs : List PV)
  | ins (c : Cl) (fs : List (Str × PV))
  | dK (ks : List Key) (xs : List PV)
  | dT (ks : List (List Key)) (xs : List PV)
abbrev Mu := Addr → Option Cell
def Mu.put (μ : Mu) (a : Addr) (c : Cell) : Mu := fun b => if b = a then some c else μ b
def Mu.del (μ : Mu) (a : Addr) : Mu := fun b => if b = a then none else μ b
theorem Mu.put_same (μ : Mu) (a : Addr) (c : Cell) : μ.put a c a = some c := by unfold Mu.put; rw [if_pos rfl]
theorem Mu.put_ne (μ : Mu) {a b : Addr} (c : Cell) (h : b ≠ a) : μ.put a c b = μ b := by unfold Mu.put; rw [if_neg h]
theorem Mu.del_same (μ : Mu) (a : Addr) : μ.del a a = none := by unfold Mu.del; rw [if_pos rfl]
theorem Mu.del_ne (μ : Mu) {a b : Addr} (h : b ≠ a) : μ.del a b = μ b := by unfold Mu.del; rw [if_neg h]
theorem Mu.put_put (μ : Mu) (a : Addr) (c d : Cell) : (μ.put a c).put a d = μ.put a d := by
  funext b; unfold Mu.put; split <;> rfl
theorem Mu.del_put (μ : Mu) (a : Addr) (c : Cell) : (μ.put a c).del a = μ.del a := by
  funext b
  by_cases e : b = a
  · subst e; rw [Mu.del_same, Mu.del_same]
  · rw [Mu.del_ne _ e, Mu.del_ne _ e, Mu.put_ne _ _ e]
theorem Mu.del_none {μ : Mu} {a : Addr} (h : μ a = none) : μ.del a = μ := by
  funext b; unfold Mu.del
  split
  · rename_i e; rw [e, h]
  · rfl
def FRep (K : Frg) (B : BX) (G : Hp) (fs : List (Str × PV)) (ws : List (Str × V)) : Prop := Paired (fun (p : Str × PV) (q : Str × V) => p.1 = q.1 ∧ Rep K B G p.2 q.2) fs ws
theorem FRep.mono {K : Frg} {B : BX} {G H : Hp} (s : Sub G H) {fs : List (Str × PV)} {ws : List (Str × V)} (h : FRep K B G fs ws) : FRep K B H fs ws := Paired.mapP h fun _ _ z => ⟨z.1, z.2.mono s⟩
def CellOk (K : Frg) (B : BX) (G : Hp) : Cell → HO → Prop
  | .lst xs, o => ∃ vs, o = .lst vs ∧ Reps K B G xs vs
  | .ins c fs, o => ∃ dx ws, o = .ins (ca K c) dx ws ∧ kcB K c = true ∧ (∀ p ∈ fs, p.1 ∈ c.flds) ∧ FRep K B G fs ws
  | .dK ks xs, o => ∃ vs, o = .dK (ks.zip vs) ∧ vs.length = ks.length ∧ Reps K B G xs vs
  | .dT ks xs, o => ∃ vs, o = .dT (ks.zip vs) ∧ vs.length = ks.length ∧ Reps K B G xs vs
theorem CellOk.mono {K : Frg} {B : BX} {G H : Hp} (s : Sub G H) : ∀ {c : Cell} {o : HO}, CellOk K B G c o → CellOk K B H c o
  | .lst xs, o, ⟨vs, e, r⟩ => ⟨vs, e, r.mono s⟩
  | .ins c fs, o, ⟨dx, ws, e, kc, fl, r⟩ => ⟨dx, ws, e, kc, fl, r.mono s⟩
  | .dK ks xs, o, ⟨vs, e, l, r⟩ => ⟨vs, e, l, r.mono s⟩
  | .dT ks xs, o, ⟨vs, e, l, r⟩ => ⟨vs, e, l, r.mono s⟩
def BoxAt (H : Hp) (b c : Addr) : Prop := b ≠ c ∧ ∃ (ns : List Int) (p st : Int), H b = some (.lst [.ref c, .int p, .int st]) ∧ H c = some (.lst (ns.map V.int)) ∧ 0 ≤ p ∧ 0 ≤ st ∧ st < 2147483647 ∧ ns.length ≤ 63
theorem BoxAt.some1 {H : Hp} {b c : Addr} (h : BoxAt H b c) : ∃ o, H b = some o := by obtain ⟨_, _, _, _, e, _⟩ := h; exact ⟨_, e⟩
theorem BoxAt.some2 {H : Hp} {b c : Addr} (h : BoxAt H b c) : ∃ o, H c = some o := by obtain ⟨_, _, _, _, _, e, _⟩ := h; exact ⟨_, e⟩
theorem BoxAt.same {H H' : Hp} {b c : Addr} (h : BoxAt H b c) (k : ∀ a o, H a = some o → (a = b ∨ a = c) → H' a = some o) : BoxAt H' b c := by
  obtain ⟨n, ns, p, st, e1, e2, r⟩ := h
  exact ⟨n, ns, p, st, k _ _ e1 (.inl rfl), k _ _ e2 (.inr rfl), r⟩
def LAM : List Str := ["_law_sets", "_law_grounds", "_law_fewest", "choices"]
/-- the code object of the def nm and its table, if K leaves the table out -/
def tabP (K : Frg) (nm : Str) : Option (Addr × Addr) := match K.lookup (He.ga K nm) with
  | some o => (match o.data with
    | .func fd => (match fd.code with
      | .ref c => (match K.lookup c with
        | some oc => (match oc.data with
          | .fields vs => (match (show Option Value from vs[11]?) with
            | some (.ref P) => (match K.lookup P with
              | none => some (c, P)
              | some _ => none)
            | _ => none)
          | _ => none)
        | none => none)
      | _ => none)
    | _ => none)
  | none => none
def Tbs (K : Frg) : List (Addr × Str) := LAM.filterMap fun nm => (tabP K nm).map fun p => (p.2, nm ++ ".<locals>.<lambda>")
/-- a table may grow; the code objects that it tells never change -/
def TabG (K : Frg) (G H : Hp) : Prop := ∀ p ∈ Tbs K, G p.1 = none ∧ ∃ ps : Array Value, H p.1 = some (.tbl ps) ∧ TriplesOk ps.toList ∧ ∀ (pos : Pos) (cv : Value), codeAmong pos ps.toList = some cv → ∃ c, cv = .ref c ∧ G c = some (LamX.CodeO c p.2)
theorem TabG.up {K : Frg} {G H G' H' : Hp} (t : TabG K G H) (s : Sub G G') (k : ∀ b ps, H b = some (.tbl ps) → G b = none → H' b = some (.tbl ps) ∧ G' b = none) : TabG K G' H' := fun p hp => by
  obtain ⟨g, ps, e, h1, h2⟩ := t p hp
  obtain ⟨k1, k2⟩ := k _ _ e g
  refine ⟨k2, ps, k1, h1, fun pos cv h => ?_⟩
  obtain ⟨c, rfl, e2⟩ := h2 pos cv h
  exact ⟨c, rfl, s c _ e2⟩
theorem TabG.nil {K : Frg} (h : Tbs K = []) (G H : Hp) : TabG K G H := fun p hp => by rw [h] at hp; cases hp
/-- no table -/
def NT (o : HO) : Prop := ∀ ps, o ≠ .tbl ps
theorem CellOk.nt {K : Frg} {B : BX} {G : Hp} {c : Cell} {o : HO} (h : CellOk K B G c o) : NT o := fun ps e => by
  subst e
  cases c with
  | lst xs => obtain ⟨vs, e, _⟩ := h; cases e
  | ins c fs => obtain ⟨dx, ws, e, _⟩ := h; cases e
  | dK ks xs => obtain ⟨vs, e, _⟩ := h; cases e
  | dT ks xs => obtain ⟨vs, e, _⟩ := h; cases e
structure Ok (K : Frg) (B : BX) (μ : Mu) (G H : Hp) : Prop where
  sub : Sub G H
  cell : ∀ a c, μ a = some c → G a = none ∧ ¬ isB B a ∧ ∃ o, H a = some o ∧ CellOk K B G c o
  box : ∀ b c, B = some (b, c) → BoxAt H b c ∧ G b = none ∧ G c = none
  tab : TabG K G H
/-- from one state to a later one -/
structure Stp (B : BX) (μ : Mu) (G H : Hp) (μ' : Mu) (G' H' : Hp) : Prop where
  gx : Sub G G'
  dom : ∀ a, H' a = none → H a = none
  keep : ∀ a o, H a = some o → ¬ isB B a → μ a = none → NT o → H' a = some o
  new : ∀ a o, G' a = some o → (∀ xs, o ≠ .tup xs) → G a = some o ∨ H a = none ∨ μ a ≠ none
  cel : ∀ a, μ' a ≠ none → μ a ≠ none ∨ H a = none
theorem Stp.refl {B : BX} {μ : Mu} {G H : Hp} : Stp B μ G H μ G H := ⟨.refl _, fun _ h => h, fun _ _ h _ _ _ => h, fun _ _ h _ => .inl h, fun _ h => .inl h⟩
theorem Stp.trans {B : BX} {μ μ1 μ2 : Mu} {G H G1 H1 G2 H2 : Hp} (x : Stp B μ G H μ1 G1 H1) (y : Stp B μ1 G1 H1 μ2 G2 H2) : Stp B μ G H μ2 G2 H2 where
  gx := x.gx.trans y.gx
  dom := fun a h => x.dom a (y.dom a h)
  keep := fun a o e nb n nt => y.keep a o (x.keep a o e nb n nt) nb (by
    cases q : μ1 a with
    | none => rfl
    | some c =>
      rcases x.cel a (by rw [q]; intro z; cases z) with z | z
      · exact absurd n z
      · rw [e] at z; cases z) nt
  new := fun a o e t => by
    rcases y.new a o e t with z | z | z
    · exact x.new a o z t
    · exact .inr (.inl (x.dom a z))
    · exact .inr ((x.cel a z).symm)
  cel := fun a h => by
    rcases y.cel a h with z | z
    · exact x.cel a z
    · exact .inr (x.dom a z)
structure Go (K : Frg) (B : BX) (μ : Mu) (G H : Hp) (μ' : Mu) (G' H' : Hp) : Prop where
  ok : Ok K B μ' G' H'
  st : Stp B μ G H μ' G' H'
section
variable {K : Frg} {B : BX} {μ μ1 μ2 : Mu} {G H G1 H1 G2 H2 : Hp}
theorem Go.refl (o : Ok K B μ G H) : Go K B μ G H μ G H := ⟨o, .refl⟩
theorem Go.gx (g : Go K B μ G H μ1 G1 H1) : Sub G G1 := g.st.gx
theorem Go.trans (x : Go K B μ G H μ1 G1 H1) (y : Go K B μ1 G1 H1 μ2 G2 H2) : Go K B μ G H μ2 G2 H2 := ⟨y.ok, x.st.trans y.st⟩
theorem Ok.isB_some (o : Ok K B μ G H) {a : Addr} (h : isB B a) : ∃ u, H a = some u := by
  obtain ⟨b, c, e, r⟩ := h
  obtain ⟨bt, _⟩ := o.box b c e
  rcases r with rfl | rfl
  · exact bt.some1
  · exact bt.some2
theorem Ok.notB (o : Ok K B μ G H) {a : Addr} (h : H a = none) : ¬ isB B a := fun z => by
  obtain ⟨u, e⟩ := o.isB_some z; rw [h] at e; cases e
theorem Ok.freeM (o : Ok K B μ G H) {a : Addr} (h : H a = none) : μ a = none := by
  cases q : μ a with
  | none => rfl
  | some c => obtain ⟨_, _, u, e, _⟩ := o.cell a c q; rw [h] at e; cases e
/-- a new object that never changes -/
theorem Ok.new1 (o : Ok K B μ G H) {p : Addr} {u : HO} (h : H p = none) : Go K B μ G H μ (upd G p u) (upd H p u) := by
  have hg : G p = none := o.sub.free h
  refine ⟨⟨o.sub.upd2 p u, fun a c e => ?_, fun b c e => ?_, o.tab.up (.upd hg) fun b ps e g => by rw [upd_ne (ne_of_none e h), upd_ne (ne_of_none e h)]; exact ⟨e, g⟩⟩, ⟨.upd hg, fun a e => ?_, fun a x e _ _ _ => ?_, fun a x e _ => ?_, fun a e => .inl e⟩⟩
  · obtain ⟨g1, nb, v, e1, r⟩ := o.cell a c e
    have n : a ≠ p := ne_of_none e1 h
    exact ⟨by rw [upd_ne n]; exact g1, nb, v, by rw [upd_ne n]; exact e1, r.mono (.upd hg)⟩
  · obtain ⟨bt, gb, gc⟩ := o.box b c e
    obtain ⟨u1, e1⟩ := bt.some1
    obtain ⟨u2, e2⟩ := bt.some2
    have n1 : b ≠ p := ne_of_none e1 h
    have n2 : c ≠ p := ne_of_none e2 h
    refine ⟨bt.same fun a x q r => ?_, ?_, ?_⟩
    · rw [upd_ne (ne_of_none q h)]; exact q
    · rw [upd_ne n1]; exact gb
    · rw [upd_ne n2]; exact gc
  · by_cases z : a = p
    · subst z; exact h
    · rw [upd_ne z] at e; exact e
  · rw [upd_ne (ne_of_none e h)]; exact e
  · by_cases z : a = p
    · subst z; exact .inr (.inl h)
    · rw [upd_ne z] at e; exact .inl e
/-- a new object that nobody is told of -/
theorem Ok.new2 (o : Ok K B μ G H) {p : Addr} {u : HO} (h : H p = none) : Go K B μ G H μ G (upd H p u) := by
  have hg : G p = none := o.sub.free h
  refine ⟨⟨fun a x e => ?_, fun a c e => ?_, fun b c e => ?_, o.tab.up (.refl _) fun b ps e g => by rw [upd_ne (ne_of_none e h)]; exact ⟨e, g⟩⟩, ⟨.refl _, fun a e => ?_, fun a x e _ _ _ => ?_, fun a x e _ => .inl e, fun a e => .inl e⟩⟩
  · rw [upd_ne (ne_of_none e hg)]; exact o.sub a x e
  · obtain ⟨g1, nb, v, e1, r⟩ := o.cell a c e
    exact ⟨g1, nb, v, by rw [upd_ne (ne_of_none e1 h)]; exact e1, r⟩
  · obtain ⟨bt, gb, gc⟩ := o.box b c e
    exact ⟨bt.same fun a x q r => by rw [upd_ne (ne_of_none q h)]; exact q, gb, gc⟩
  · by_cases z : a = p
    · subst z; exact h
    · rw [upd_ne z] at e; exact e
  · rw [upd_ne (ne_of_none e h)]; exact e
/-- what nobody was told of gets a cell -/
theorem Ok.take (o : Ok K B μ G H) {p : Addr} {u : HO} {c : Cell} (hp : H p = some u) (gp : G p = none) (nb : ¬ isB B p) (r : CellOk K B G c u) : Ok K B (μ.put p c) G H := by
  refine ⟨o.sub, fun a d e => ?_, o.box, o.tab⟩
  by_cases z : a = p
  · subst z
    rw [Mu.put_same] at e; cases e
    exact ⟨gp, nb, u, hp, r⟩
  · rw [Mu.put_ne _ _ z] at e; exact o.cell a d e
/-- what is no longer changed -/
theorem Ok.frz (o : Ok K B μ G H) {p : Addr} {u : HO} (hp : H p = some u) (gp : G p = none) (nb : ¬ isB B p) (nt : NT u) : Ok K B (μ.del p) (upd G p u) H := by
  refine ⟨fun a x e => ?_, fun a c e => ?_, fun b c e => ?_, o.tab.up (.upd gp) fun b ps e g => ⟨e, by rw [upd_ne fun z => by rw [z, hp] at e; cases e; exact nt ps rfl]; exact g⟩⟩
  · by_cases z : a = p
    · subst z; rw [upd_same] at e; rw [hp]; exact e
    · rw [upd_ne z] at e; exact o.sub a x e
  · by_cases z : a = p
    · subst z; rw [Mu.del_same] at e; cases e
    · rw [Mu.del_ne _ z] at e
      obtain ⟨g1, nb1, v, e1, r⟩ := o.cell a c e
      exact ⟨by rw [upd_ne z]; exact g1, nb1, v, e1, r.mono (.upd gp)⟩
  · obtain ⟨bt, gb, gc⟩ := o.box b c e
    exact ⟨bt, by rw [upd_ne fun z => nb ⟨b, c, e, .inl z.symm⟩]; exact gb, by rw [upd_ne fun z => nb ⟨b, c, e, .inr z.symm⟩]; exact gc⟩
/-- a new object with a cell -/
theorem Ok.newC (o : Ok K B μ G H) {p : Addr} {u : HO} {c : Cell} (h : H p = none) (r : CellOk K B G c u) : Go K B μ G H (μ.put p c) G (upd H p u) := by
  have g := o.new2 (u := u) h
  refine ⟨g.ok.take upd_same (o.sub.free h) (o.notB h) r, ⟨.refl _, g.st.dom, g.st.keep, g.st.new, fun a e => ?_⟩⟩
  by_cases z : a = p
  · subst z; exact .inr h
  · rw [Mu.put_ne _ _ z] at e; exact .inl e
/-- a step to what nobody was told of: it gets a cell -/
theorem Go.take (g : Go K B μ G H μ1 G1 H1) {p : Addr} {u : HO} {c : Cell} (h : H p = none) (hp : H1 p = some u) (gp : G1 p = none) (nb : ¬ isB B p) (r : CellOk K B G1 c u) : Go K B μ G H (μ1.put p c) G1 H1 :=
  ⟨g.ok.take hp gp nb r, ⟨g.st.gx, g.st.dom, g.st.keep, g.st.new, fun a e => by
    by_cases z : a = p
    · subst z; exact .inr h
    · rw [Mu.put_ne _ _ z] at e; exact g.st.cel a e⟩⟩
/-- .. or is never changed again -/
theorem Go.take1 (g : Go K B μ G H μ1 G1 H1) {p : Addr} {u : HO} (h : H p = none) (hp : H1 p = some u) (gp : G1 p = none) (mp : μ1 p = none) (nb : ¬ isB B p) (nt : NT u := by intro _ e; cases e) : Go K B μ G H μ1 (upd G1 p u) H1 := by
  have := g.ok.frz hp gp nb nt
  rw [Mu.del_none mp] at this
  exact ⟨this, ⟨g.st.gx.trans (.upd gp), g.st.dom, g.st.keep, fun a x e tx => by
    by_cases z : a = p
    · subst z; exact .inr (.inl h)
    · rw [upd_ne z] at e; exact g.st.new a x e tx, g.st.cel⟩⟩
/-- a cell is no longer changed -/
theorem Ok.goFrz (o : Ok K B μ G H) {p : Addr} {u : HO} (mp : μ p ≠ none) (hp : H p = some u) (gp : G p = none) (nb : ¬ isB B p) (nt : NT u := by intro _ e; cases e) : Go K B μ G H (μ.del p) (upd G p u) H :=
  ⟨o.frz hp gp nb nt, ⟨.upd gp, fun _ h => h, fun _ _ e _ _ _ => e, fun a x e _ => by
    by_cases z : a = p
    · subst z; exact .inr (.inr mp)
    · rw [upd_ne z] at e; exact .inl e, fun a e => by
    by_cases z : a = p
    · subst z; rw [Mu.del_same] at e; exact absurd rfl e
    · rw [Mu.del_ne _ z] at e; exact .inl e⟩⟩
/-- a dict's cell is no longer changed: it is locked too -/
theorem Ok.goFrzD (o : Ok K B μ G H) {p : Addr} {u : HO} (ob : Obj) (mp : μ p ≠ none) (hp : H p = some u) (gp : G p = none) (nb : ¬ isB B p) (nt : NT u) : Go K B μ G H (μ.del p) (upd G p (.frz ob u)) (upd H p (.frz ob u)) := by
  have np : ∀ b ps, H b = some (.tbl ps) → b ≠ p := fun b ps e z => by rw [z, hp] at e; cases e; exact nt ps rfl
  refine ⟨⟨o.sub.upd2 p _, fun a c e => ?_, fun b c e => ?_, o.tab.up (.upd gp) fun b ps e g => ⟨by rw [upd_ne (np b ps e)]; exact e, by rw [upd_ne (np b ps e)]; exact g⟩⟩, ⟨.upd gp, fun a e => ?_, fun a x e _ m _ => ?_, fun a x e _ => ?_, fun a e => ?_⟩⟩
  · by_cases z : a = p
    · subst z; rw [Mu.del_same] at e; cases e
    · rw [Mu.del_ne _ z] at e
      obtain ⟨g1, nb1, v, e1, r⟩ := o.cell a c e
      exact ⟨by rw [upd_ne z]; exact g1, nb1, v, by rw [upd_ne z]; exact e1, r.mono (.upd gp)⟩
  · obtain ⟨bt, gb, gc⟩ := o.box b c e
    have n1 : b ≠ p := fun z => nb ⟨b, c, e, .inl z.symm⟩
    have n2 : c ≠ p := fun z => nb ⟨b, c, e, .inr z.symm⟩
    refine ⟨bt.same fun a x q r => ?_, by rw [upd_ne n1]; exact gb, by rw [upd_ne n2]; exact gc⟩
    rw [upd_ne fun z => by rcases r with r | r; exact n1 (r.symm.trans z); exact n2 (r.symm.trans z)]; exact q
  · by_cases z : a = p
    · subst z; rw [upd_same] at e; cases e
    · rw [upd_ne z] at e; exact e
  · rw [upd_ne (fun z => by rw [z] at m; exact mp m)]; exact e
  · by_cases z : a = p
    · subst z; exact .inr (.inr mp)
    · rw [upd_ne z] at e; exact .inl e
  · by_cases z : a = p
    · subst z; rw [Mu.del_same] at e; exact absurd rfl e
    · rw [Mu.del_ne _ z] at e; exact .inl e
/-- a cell is forgotten -/
theorem Ok.goDel (o : Ok K B μ G H) (p : Addr) : Go K B μ G H (μ.del p) G H :=
  ⟨⟨o.sub, fun a c e => by
    by_cases z : a = p
    · subst z; rw [Mu.del_same] at e; cases e
    · rw [Mu.del_ne _ z] at e; exact o.cell a c e, o.box, o.tab⟩, ⟨.refl _, fun _ h => h, fun _ _ e _ _ _ => e, fun a x e _ => .inl e, fun a e => by
    by_cases z : a = p
    · subst z; rw [Mu.del_same] at e; exact absurd rfl e
    · rw [Mu.del_ne _ z] at e; exact .inl e⟩⟩
/-- a cell gets another content -/
theorem Ok.goPut (o : Ok K B μ G H) {p : Addr} {u : HO} {c d : Cell} (mp : μ p = some c) (r : CellOk K B G d u) : Go K B μ G H (μ.put p d) G (upd H p u) := by
  obtain ⟨gp, nb, v, e1, r1⟩ := o.cell p c mp
  refine ⟨⟨fun a x e => ?_, fun a d' e => ?_, fun b c' e => ?_, o.tab.up (.refl _) fun b ps e g => ⟨by rw [upd_ne fun z => by rw [z, e1] at e; cases e; exact r1.nt ps rfl]; exact e, g⟩⟩, ⟨.refl _, fun a e => ?_, fun a x e _ n _ => ?_, fun a x e _ => .inl e, fun a e => ?_⟩⟩
  · rw [upd_ne (ne_of_none e gp)]; exact o.sub a x e
  · by_cases z : a = p
    · subst z
      rw [Mu.put_same] at e; cases e
      exact ⟨gp, nb, u, upd_same, r⟩
    · rw [Mu.put_ne _ _ z] at e
      obtain ⟨g1, nb1, v1, e2, r2⟩ := o.cell a d' e
      exact ⟨g1, nb1, v1, by rw [upd_ne z]; exact e2, r2⟩
  · obtain ⟨bt, gb, gc⟩ := o.box b c' e
    exact ⟨bt.same fun a x q r' => by
      rw [upd_ne fun z => nb ⟨b, c', e, r'.elim (fun y => .inl (z.symm.trans y)) fun y => .inr (z.symm.trans y)⟩]; exact q, gb, gc⟩
  · by_cases z : a = p
    · subst z; rw [upd_same] at e; cases e
    · rw [upd_ne z] at e; exact e
  · rw [upd_ne fun z => by rw [z, mp] at n; cases n]; exact e
  · by_cases z : a = p
    · subst z; exact .inl (by rw [mp]; intro y; cases y)
    · rw [Mu.put_ne _ _ z] at e; exact .inl e
/-- a step that is not told of D leaves it alone -/
theorem Go.hid (g : Go K B μ G H μ1 G1 H1) {D : Addr} {u : HO} (n : G D = none) (m : μ D = none) (e : H D = some u) (nb : ¬ isB B D) (nt : NT u) (ntu : ∀ xs, u ≠ .tup xs) : G1 D = none ∧ μ1 D = none ∧ H1 D = some u := by
  have k := g.st.keep D _ e nb m nt
  refine ⟨?_, ?_, k⟩
  · cases qq : G1 D with
    | none => rfl
    | some v =>
      have hv := g.ok.sub D v qq
      rw [k] at hv
      cases hv
      rcases g.st.new D u qq ntu with z | z | z
      · rw [n] at z; cases z
      · rw [e] at z; cases z
      · exact absurd m z
  · cases qq : μ1 D with
    | none => rfl
    | some v =>
      rcases g.st.cel D (by rw [qq]; intro z; cases z) with z | z
      · exact absurd m z
      · rw [e] at z; cases z
/-- something that neither the store nor the frozen part knows is changed -/
theorem Ok.mut (o : Ok K B μ G H) {l : Addr} {u u' : HO} (hl : H l = some u) (gl : G l = none) (ml : μ l = none) (nb : ¬ isB B l) (nt : NT u := by intro _ e; cases e) : Ok K B μ G (upd H l u') := by
  refine ⟨fun a x e => ?_, fun a c e => ?_, fun b c e => ?_, o.tab.up (.refl _) fun b ps e g => ⟨by rw [upd_ne fun z => by rw [z, hl] at e; cases e; exact nt ps rfl]; exact e, g⟩⟩
  · rw [upd_ne (ne_of_none e gl)]; exact o.sub a x e
  · obtain ⟨g1, nb1, v, e1, r⟩ := o.cell a c e
    exact ⟨g1, nb1, v, by rw [upd_ne fun z => by rw [z, ml] at e; cases e]; exact e1, r⟩
  · obtain ⟨bt, gb, gc⟩ := o.box b c e
    exact ⟨bt.same fun a x q r => by
      rw [upd_ne fun z => nb ⟨b, c, e, r.elim (fun y => .inl (z.symm.trans y)) fun y => .inr (z.symm.trans y)⟩]; exact q, gb, gc⟩
end
abbrev En := List (Option PV)
def nth : En → Nat → Option PV
  | [], _ => none
  | x :: _, 0 => x
  | _ :: xs, n + 1 => nth xs n
theorem nth_some : ∀ {ρ : En} {i : Nat} {x : PV}, nth ρ i = some x → ρ[i]? = some (some x)
  | [], i, x, h => by cases h
  | y :: ys, 0, x, h => by
    have h : y = some x := h
    rw [h]; rfl
  | y :: ys, i + 1, x, h => by
    have := nth_some (ρ := ys) (i := i) h
    simpa using this
structure Rel (K : Frg) (B : BX) (ρ : En) (μ : Mu) (σ : L2.St) (G H : Hp) : Prop where
  ok : Ok K B μ G H
  len : σ.length = ρ.length
  at_ : ∀ (i : Nat) (x : PV), ρ[i]? = some (some x) → ∃ v, σ[i]? = some (some v) ∧ Rep K B G x v
section
variable {K : Frg} {B : BX} {ρ ρ' : En} {μ μ1 : Mu} {σ σ' : L2.St} {G H G1 H1 : Hp}
theorem Rel.go (r : Rel K B ρ μ σ G H) (g : Go K B μ G H μ1 G1 H1) : Rel K B ρ μ1 σ G1 H1 :=
  ⟨g.ok, r.len, fun i x e => by obtain ⟨v, e1, e2⟩ := r.at_ i x e; exact ⟨v, e1, e2.mono g.gx⟩⟩
theorem lt_of_some {α : Type} {l : List α} {i : Nat} {x : α} (h : l[i]? = some x) : i < l.length := (List.getElem?_eq_some_iff.mp h).1
theorem set_get {α : Type} {l : List α} {i j : Nat} {x y : α} (h : (l.set i x)[j]? = some y) : (i = j ∧ y = x) ∨ (i ≠ j ∧ l[j]? = some y) := by
  by_cases z : i = j
  · subst z
    have hl : i < l.length := by have := lt_of_some h; rwa [List.length_set] at this
    rw [List.getElem?_set_self hl] at h
    cases h
    exact .inl ⟨rfl, rfl⟩
  · rw [List.getElem?_set_ne z] at h
    exact .inr ⟨z, h⟩
theorem Rel.set {x : PV} {v : V} (i : Nat) (r : Rel K B ρ μ σ G H) (h : Rep K B G x v) : Rel K B (ρ.set i (some x)) μ (σ.set i (some v)) G H := by
  refine ⟨r.ok, by rw [List.length_set, List.length_set]; exact r.len, fun j y e => ?_⟩
  rcases set_get e with ⟨rfl, z⟩ | ⟨n, z⟩
  · cases z
    have hi : i < σ.length := by have := lt_of_some e; rw [List.length_set] at this; rw [r.len]; exact this
    exact ⟨v, List.getElem?_set_self hi, h⟩
  · rw [List.getElem?_set_ne n]
    exact r.at_ j y z
theorem Rel.clear (r : Rel K B ρ μ σ G H) (i : Nat) : Rel K B (ρ.set i none) μ (σ.set i none) G H := by
  refine ⟨r.ok, by rw [List.length_set, List.length_set]; exact r.len, fun j y e => ?_⟩
  rcases set_get e with ⟨rfl, z⟩ | ⟨n, z⟩
  · cases z
  · rw [List.getElem?_set_ne n]
    exact r.at_ j y z
theorem Rel.weak (r : Rel K B ρ μ σ G H) (l : σ'.length = ρ'.length) (h : ∀ (i : Nat) (x : PV), ρ'[i]? = some (some x) → ρ[i]? = some (some x) ∧ σ'[i]? = σ[i]?) : Rel K B ρ' μ σ' G H :=
  ⟨r.ok, l, fun i x e => by obtain ⟨e1, e2⟩ := h i x e; rw [e2]; exact r.at_ i x e1⟩
end
end Px
namespace Px
open PySem PySem.Spec PyProof.Rows L2
def runV (K : Frg) : Value := .ref (ca K .InvalidRun)
def Zi (K : Frg) (cls : Value) (d : Option Addr) : Obj → Prop := fun o => o.cls = cls ∧ o.dict = d ∧ ((cls = runV K ∧ xcB K .InvalidRun = true) ∨ PXN.CtxN o)
section
variable {K : Frg} {cls : Value} {d : Option Addr} {o : Obj}
theorem Zi.steady : PXN.Steady1 (Zi K cls d) := fun o v h => ⟨PXN.steady_cls o v h.1, PXN.steady_dict o v h.2.1, h.2.2.imp id (PXN.steady_ctx o v)⟩
theorem Zi.zc (h : Zi K cls d o) : Zc cls d o := ⟨h.1, h.2.1⟩
theorem Zi.zn (h : Zi K cls d o) (n : xcB K .InvalidRun = true → cls ≠ runV K) : L2N.Zn cls d o := ⟨h.1, h.2.1, h.2.2.resolve_left fun z => n z.2 z.1⟩
theorem Zi.of (h : L2N.Zn cls d o) : Zi K cls d o := ⟨h.1, h.2.1, .inr h.2.2⟩
theorem Zi.run (x : xcB K .InvalidRun = true) (h : Zc (runV K) d o) : Zi K (runV K) d o := ⟨h.1, h.2, .inl ⟨rfl, x⟩⟩
end
theorem heldZ_imp {B h : Heap} {l : List Env} {a L : Addr} {Z Z' : Obj → Prop} (z : ∀ o, Z o → Z' o) (x : HandSPX.HeldZ B l a Z L h) : HandSPX.HeldZ B l a Z' L h := ⟨x.1, x.2.1, x.2.2.1, L2H.tracedZ_imp z x.2.2.2⟩
theorem sky_imp {B h : Heap} {l : List Env} {a L : Addr} {Z Z' : Obj → Prop} (z : ∀ o, Z o → Z' o) (x : Sky B l a Z L h) : Sky B l a Z' L h := by
  rcases x with ⟨h1, h2, h3, oe, vs, h4, h5, h6, h7⟩ | x | x
  · exact .inl ⟨h1, h2, h3, oe, vs, h4, z _ h5, h6, h7⟩
  · exact .inr (.inl (L2H.flyingZ_imp z x))
  · exact .inr (.inr (heldZ_imp z x))
/-- the frame in which a block runs -/
def frL (X : Cx) : Addr := X.env.frame.getD X.env.locals
theorem frL_of {X : Cx} (h : X.env.frame = some X.env.locals) : frL X = X.env.locals := by
  unfold frL
  rw [h]
  rfl
/-- an error in the air of X: sI is the state without it -/
def XI (X : Cx) (W : WX) (u : Value) (s' : Shared) : Prop :=
  ∃ (a : Addr) (B : Heap) (sI : Shared) (pins : List (Addr × Obj)) (σ : L2.St) (H : Hp) (cls : Value) (d : Option Addr),
    u = .ref a ∧ Inv X pins σ H sI ∧ (∀ b o, sI.heap.get? b = some o → b ∉ frs X.stack → B.get? b = some o) ∧ sI.heap.UpToSlots s'.heap ∧
      Sky B X.stack a (Zi X.K cls d) (frL X) s'.heap ∧ H a = none ∧ s'.os = sI.os ∧ AllBare s'.gens ∧ W cls d σ H
def TkI (X : Cx) (W : WX) : Prop := ∀ u s', XI X W u s' → X.xe u s'
theorem XI.of {X : Cx} {W : WX} {u : Value} {s' : Shared} (hf : X.env.frame = some X.env.locals) (x : L2N.XE X W u s') : XI X W u s' := by
  obtain ⟨a, B, sI, pins, σ, H, cls, d, e, I, nb, up, sky, r⟩ := x
  exact ⟨a, B, sI, pins, σ, H, cls, d, e, I, nb, up, by rw [frL_of hf]; exact sky_imp (fun _ z => Zi.of z) sky, r⟩
theorem TkI.n {X : Cx} {W : WX} (t : TkI X W) (hf : X.env.frame = some X.env.locals) : L2N.Takes X W := fun u s' x => t u s' (.of hf x)
theorem TkI.imp {X : Cx} {W W' : WX} (t : TkI X W) (h : ∀ c d σ H, W' c d σ H → W c d σ H) : TkI X W' := fun u s' ⟨a, B, sI, pins, σ, H, cls, d, e, I, nb, up, sky, na, os, ag, w⟩ =>
  t u s' ⟨a, B, sI, pins, σ, H, cls, d, e, I, nb, up, sky, na, os, ag, h _ _ _ _ w⟩
/-- behind a call that let an error out -/
def CXI (K : Frg) (P : Program) (w : World) (outer : List Env) (H : Hp) (s : Shared) (E : XK) (u : Value) (s' : Shared) : Prop :=
  ∃ (a : Addr) (B : Heap) (H' : Hp) (cls : Value) (d : Option Addr), u = .ref a ∧ HandSPX.FlyingZ B outer a (Zi K cls d) s'.heap ∧ HOk P w H' B ∧ UB (frs outer) H H' s.heap B s'.heap ∧ H' a = none ∧ s'.os = s.os ∧ AllBare s'.gens ∧ E cls d H'
section
variable {X : Cx} {pins : List (Addr × Obj)} {σ : L2.St} {H : Hp} {sI s s' : Shared} {B : Heap} {W : WX} {E : XK}
/-- a call's error is in our air -/
theorem XI.of_call (I : Inv X pins σ H s) (hW : ∀ cls d H', E cls d H' → W cls d σ H') {u : Value} (c : CXI X.K X.prog X.w X.stack H s E u s') : XI X W u s' := by
  obtain ⟨a, B, H', cls, d, rfl, fl, hok, ub, na, os, ag, hE⟩ := c
  obtain ⟨G, g1, g2⟩ := restrict s'.heap fun b => (B.get? b).isSome || decide (b ∈ frs X.stack)
  have st : B.StaysIn s'.heap := fl.1
  have gB : ∀ b o, B.get? b = some o → G.get? b = some o := fun b o e => by
    rw [g1 b (by simp [e])]
    exact st b o e
  have gF : ∀ b, b ∈ frs X.stack → G.get? b = s'.heap.get? b := fun b hb => g1 b (by simp [hb])
  have og : ∀ b o, G.get? b = some o → s'.heap.get? b = some o ∧ ((B.get? b).isSome = true ∨ b ∈ frs X.stack) := fun b o e => by
    cases q : ((B.get? b).isSome || decide (b ∈ frs X.stack)) with
    | false => rw [g2 b q] at e; cases e
    | true =>
      rw [g1 b q] at e
      exact ⟨e, by simpa [Bool.or_eq_true] using q⟩
  refine ⟨a, B, { s with heap := G, gens := s'.gens, drawn := s'.drawn, toks := s'.toks }, pins, σ, H', cls, d, rfl, ?_, fun b o e hb => ?_, Heap.UpToSlots.of_keeps fun b o e => (og b o e).1, .inr (.inl fl), na, os, ag, hW _ _ _ hE⟩
  · refine I.call (ch := []) ⟨fun b o e n hb _ => gB b o (ub.keep b o e n hb), fun b o e n hb _ => ?_, fun b o e n _ => ub.free b o e n, fun b o e _ => ?_, ub.tups, ub.frzs, ub.tbls⟩ (hok.kept gB) ag (fun _ z => nomatch z)
    · obtain ⟨sl, q⟩ := ub.slot b o e hb
      exact ⟨sl, by rw [gF b hb]; exact q⟩
    · by_cases hb : b ∈ frs X.stack
      · obtain ⟨sl, q⟩ := ub.slot b o e hb
        exact ⟨_, by rw [gF b hb]; exact q⟩
      · obtain ⟨o', q⟩ := ub.there b o e hb
        exact ⟨o', gB b o' q⟩
  · obtain ⟨e', h⟩ := og b o e
    rcases h with h | h
    · obtain ⟨o', q⟩ := Option.isSome_iff_exists.mp h
      have z := st b o' q
      rw [e'] at z; cases z
      exact q
    · exact absurd h hb
/-- a new error is in our air -/
theorem XI.new {a : Addr} {oe : Obj} {vs : Array Value} {cls : Value} {d : Option Addr} (I : Inv X pins σ H sI) (k : ∀ b o, sI.heap.get? b = some o → s'.heap.get? b = some o) (hne : sI.heap.get? a = none) (he : s'.heap.get? a = some oe)
    (hz : Zi X.K cls d oe) (hd : oe.data = .fields vs) (h1 : vs[1]? = some .none) (na : H a = none) (os : s'.os = sI.os) (ag : AllBare s'.gens) (w : W cls d σ H) : XI X W (.ref a) s' := by
  refine ⟨a, PySem.W.hideAll sI.heap (frs X.stack), sI, pins, σ, H, cls, d, rfl, I, fun b o e hb => PySem.W.hideAll_get _ e hb, Heap.UpToSlots.of_keeps k,
    .inl ⟨fun b o e => k b o (PySem.W.of_hideAll _ e), ?_, ?_, oe, vs, he, hz, hd, h1⟩, na, os, ag, w⟩
  · cases q : (PySem.W.hideAll sI.heap (frs X.stack)).get? a with
    | none => rfl
    | some o =>
      have z := PySem.W.of_hideAll _ q
      rw [hne] at z; cases z
  · exact Heap.FunFrames.of_keeps (fun b o e _ => ⟨o, k b o e, rfl⟩) (funFrames_none I.stack fun b hb => PySem.W.hideAll_none _ hb)
/-- it leaves the def -/
theorem XI.leave (hs : X.stack = X.env :: X.outer) (hf : X.env.frame = some X.env.locals) (hex : X.ex = []) {E₁ : Value → Shared → Prop} (hW : ∀ cls d σ H, W cls d σ H → E cls d H) {u : Value} (x : XI X W u s') :
    wpAny (model X.prog X.w) X.A (leaving X.env u) (fun _ s'' => CXI X.K X.prog X.w X.outer X.H_0 X.s_0 E u s'') E₁ s' := by
  obtain ⟨a, B, sI, pins, σ, H, cls, d, rfl, I, nb, up, sky, na, os, ag, w⟩ := x
  rw [frL_of hf] at sky
  have hfr : X.A.frames = some (X.env :: X.outer) := by rw [I.ok.frames, hs]
  have nst : ∀ b o, X.s_0.heap.get? b = some o → b ∉ X.fs → b ∉ frs X.stack := fun b o e hb hm => by
    rcases List.mem_cons.mp (I.stkSub b hm) with z | z
    · have h1 := Heap.lt_size e
      have h2 := I.ok.above
      rw [z] at h1
      exact absurd (Nat.lt_of_lt_of_le h1 h2) (Nat.lt_irrefl _)
    · exact hb z
  have hex' : ∀ b, b ∉ X.ex := fun b hb => by rw [hex] at hb; cases hb
  have hokB := I.inGround nb
  have fin : ∀ h', HandSPX.FlyingZ B X.outer a (Zi X.K cls d) h' → s'.heap.UpToSlots h' → CXI X.K X.prog X.w X.outer X.H_0 X.s_0 E (.ref a) { s' with heap := h' } := fun h' fl up' => by
    refine ⟨a, B, H, cls, d, rfl, fl, hokB, ⟨fun b o e n hb => nb b o (I.base.keep b o e n hb (hex' b)) (nst b o e hb), fun b o e hb => ?_, fun b o e n => I.base.free b o e n (hex' b), fun b o e hb => ?_, I.base.tups, I.base.frzs, I.base.tbls⟩,
      na, os.trans I.os, ag, hW _ _ _ _ w⟩
    · obtain ⟨_, o₀, e₀, hnf⟩ := I.ok.funs.mem hb
      rw [e] at e₀; cases e₀
      obtain ⟨sl, e1⟩ := I.base.slot b o e (I.ok.frf b hb) hb (hex' b)
      obtain ⟨sl2, e2⟩ := up b _ e1 hnf
      obtain ⟨sl3, e3⟩ := up' b _ e2 hnf
      exact ⟨sl3, e3⟩
    · obtain ⟨o', e1⟩ := I.base.there b o e (hex' b)
      exact ⟨o', nb b o' e1 (nst b o e hb)⟩
  rw [hs] at sky
  rcases sky with ⟨hB, hn, hl, oe, vs, he, hz, hd, h1⟩ | fl | hd
  · exact PXN.leaving_firstZ Zi.steady hfr hl hf he hB hn hd h1 hz fin
  · exact PXN.leaves_onZ Zi.steady hfr hf fl fin
  · exact HandSPX.leaves_heldZ hf hd fin
/-- a def's wish about errors -/
theorem takesI_of (hs : X.stack = X.env :: X.outer) (hf : X.env.frame = some X.env.locals) (hex : X.ex = []) {E₁ : Value → Shared → Prop}
    (hx : X.xe = fun e s' => wpAny (model X.prog X.w) X.A (leaving X.env e) (fun _ s'' => CXI X.K X.prog X.w X.outer X.H_0 X.s_0 E e s'') E₁ s') : TkI X (fun cls d _ H => E cls d H) := fun u s' x => by
  rw [hx]
  exact XI.leave (W := fun cls d _ H => E cls d H) (E := E) hs hf hex (fun _ _ _ _ h => h) x
end
end Px
namespace Px
open PySem PySem.Spec PyProof.Rows L2
structure Rm (k : Nat) (A : Around) : Prop where
  dp : A.depth + 3 * k + 5 < recursionLimit
  un : A.units + 16 * k + 200 < cLine
  gd : A.guards = some []
theorem Rm.h {k : Nat} {A : Around} (r : Rm k A) : L2H.RoomH k A := ⟨r.dp, r.un⟩
theorem Rm.mono {j k : Nat} {A : Around} (r : Rm k A) (h : j ≤ k) : Rm j A := ⟨by have := r.dp; omega, by have := r.un; omega, r.gd⟩
theorem gd_deeper {A : Around} {env : Env} (h : A.guards = some []) : (A.deeper env).guards = some [] := by
  first | exact h | simpa [Around.deeper, pushGuards] using h
theorem Rm.deeper {k : Nat} {A : Around} (r : Rm (k + 1) A) (env : Env) : Rm k (A.deeper env) :=
  ⟨(r.h.deeper env).dp, (r.h.deeper env).un, gd_deeper r.gd⟩
theorem Rm.depth {k : Nat} {A : Around} (r : Rm k A) : A.depth < recursionLimit := r.h.depth
structure RoomG (k : Nat) (A : Around) : Prop where
  hd : A.handled = none
  dp : A.depth + 3 * k + 5 < recursionLimit
  un : A.units + 16 * k + 200 < cLine
  gd : A.guards = some []
theorem RoomG.r {k : Nat} {A : Around} (r : RoomG k A) : Room k A := ⟨r.hd, r.dp, r.un⟩
theorem RoomG.deeper {k : Nat} {A : Around} (r : RoomG (k + 1) A) (env : Env) : RoomG k (A.deeper env) :=
  ⟨(r.r.deeper env).hd, (r.r.deeper env).dp, (r.r.deeper env).un, gd_deeper r.gd⟩
theorem RoomG.depth {k : Nat} {A : Around} (r : RoomG k A) : A.depth < recursionLimit := r.r.depth
theorem rm_of {k : Nat} {A : Around} (r : RoomG k A) : Rm k A := ⟨r.dp, r.un, r.gd⟩
structure FnOkG (P : Program) (w : World) (K : PySem.W.Frag) (mg : Str → Option Value) (base : Heap) (CX : CXT) (k : Nat) (f : Addr) (fd : FuncData) (ps : List Str) (sp : Sp) : Prop where
  len : ∀ vs H Q E, sp vs H Q E → vs.length = ps.length
  run : ∀ (A : Around) (outer : List Env) (s : Shared) (H : Hp) (args : Args) (us : List Value) (vs : List V) (Q : VK) (E : XK), RoomG k A → Env0 P w K mg base A outer s H → BindsTo s fd args (ps.zip us) → Vals vs us → sp vs H Q E →
    codeAny (model P w) A (.call (.ref f) args) (CR CX outer P w H s Q E) s
theorem fn_ofG {CX : CXT} {P : Program} {w : World} {K : PySem.W.Frag} {mg : Str → Option Value} {base : Heap} {k : Nat} {f : Addr} {name qual : Str} {params : Arguments} {body : List Stmt} {scope : Scope} {dV kV doc pm cdv ct oc : Value} {an od : Option Addr}
    {osl : Array (Option Value)} {N ps : List Str} {sp : Sp} (lk : K.lookup f = some ⟨oc, od, .func (PySem.W.fnOf name qual params body scope dV kV doc pm an cdv ct), osl⟩) (hcd : PySem.W.codeIn K cdv qual = true) (S : FnScope N ps scope)
    (len : ∀ vs H Q E, sp vs H Q E → vs.length = ps.length)
    (hbody : ∀ (A : Around) (outer : List Env) (s : Shared) (H : Hp) (vs : List V) (Q : VK) (E : XK), RoomG k (A.deeper (envOfC qual scope s.heap.objs.size f cdv)) → sp vs H Q E →
      ∃ t, PSs (cxOf CX P w K mg base N qual scope f cdv A outer s H E) body t ∧ t { nx := fun _ H' => Q .non H', rt := Q } (start N vs) H) :
    FnOkG P w K mg base CX (k + 1) f (PySem.W.fnOf name qual params body scope dV kV doc pm an cdv ct) ps sp := by
  refine ⟨len, fun A outer s H args us vs Q E hr e0 hb r hsp => ?_⟩
  have hl := len _ _ _ _ hsp
  have KX : K.In s.heap := e0.mod.kin.keeps fun b o e => (e0.bs b o e).1
  have lim : s.heap.NoLimit := e0.mod.nolimit.keeps fun b o e => (e0.bs b o e).1
  have hkind : ∀ y ∈ ps.zip us, scope.names.lookup y.1 = some .local ∨ (scope.names.lookup y.1 = some .cell ∧ ((cellsFrom (s.heap.objs.size + 1) scope.names []).lookup y.1).isSome = true) := fun ⟨n, v⟩ hy => by
    rcases S.par n (List.of_mem_zip hy).1 with q | q
    · exact .inl q
    · exact .inr ⟨q, PySem.W.cellsFrom_some _ _ _ (.inl q)⟩
  refine codeAny_call_function hr.depth (KX _ _ lk) rfl S.co S.gen rfl (PySem.W.codeRec_of KX hcd) (hb _ _ _ _ ?_)
  refine wpAny_newFunctionEnv_cells S.kind hkind fun env he s1 x => ?_
  subst he
  refine ⟨lim.keeps x.toInCall.keep, codeAny_func ?_⟩
  obtain ⟨t, ht, hq⟩ := hbody A outer s H vs Q E (hr.deeper _) hsp
  have I : Inv (cxOf CX P w K mg base N qual scope f cdv A outer s H E) [] (start N vs) H s1 := inv_start S hr.hd e0 hl r x
  refine wpAny_mono (ht.run [] s1 (start N vs) H _ I hq) (fun fl s' hs => ?_) fun e s' hs => hs
  have fin : ∀ {σ' : L2.St} {H' : Hp} {v : V} {u : Value}, Inv (cxOf CX P w K mg base N qual scope f cdv A outer s H E) [] σ' H' s' → RelV v u → Q v H' → CE outer P w H s Q u s' :=
    fun {σ' H' v u} J rv q => ⟨v, H', J.os, J.bare, J.base, J.hok, rv, q⟩
  cases fl with
  | ret u =>
    obtain ⟨v, σ', H', J, rv, q⟩ := hs
    exact fin J rv q
  | next =>
    obtain ⟨σ', H', J, q⟩ := hs
    exact fin (v := V.non) (u := Value.none) J rfl q
  | brk =>
    obtain ⟨_, _, _, q⟩ := hs
    exact False.elim q
  | cont =>
    obtain ⟨_, _, _, q⟩ := hs
    exact False.elim q
structure FnHG (P : Program) (w : World) (K : PySem.W.Frag) (mg : Str → Option Value) (base : Heap) (CX : CXT) (k : Nat) (f : Addr) (fd : FuncData) (ps : List Str) (sp : Sp) : Prop where
  len : ∀ vs H Q E, sp vs H Q E → vs.length = ps.length
  run : ∀ (A : Around) (outer : List Env) (s : Shared) (H : Hp) (args : Args) (us : List Value) (vs : List V) (Q : VK) (E : XK) (p : Addr × Obj), Rm k A → L2H.Hot1 A p → L2H.PinOk outer H s p → Env0 P w K mg base A outer s H → BindsTo s fd args (ps.zip us) → Vals vs us → sp vs H Q E →
    codeAny (model P w) A (.call (.ref f) args) (CR CX outer P w H s Q E) s
theorem fn_ofHG {CX : CXT} {P : Program} {w : World} {K : PySem.W.Frag} {mg : Str → Option Value} {base : Heap} {k : Nat} {f : Addr} {name qual : Str} {params : Arguments} {body : List Stmt} {scope : Scope} {dV kV doc pm cdv ct oc : Value} {an od : Option Addr}
    {osl : Array (Option Value)} {N ps : List Str} {sp : Sp} (lk : K.lookup f = some ⟨oc, od, .func (PySem.W.fnOf name qual params body scope dV kV doc pm an cdv ct), osl⟩) (hcd : PySem.W.codeIn K cdv qual = true) (S : FnScope N ps scope)
    (len : ∀ vs H Q E, sp vs H Q E → vs.length = ps.length)
    (hbody : ∀ (A : Around) (outer : List Env) (s : Shared) (H : Hp) (vs : List V) (Q : VK) (E : XK) (p : Addr × Obj), L2H.Hot1 A p → Rm k (A.deeper (envOfC qual scope s.heap.objs.size f cdv)) → sp vs H Q E →
      ∃ t, PSs (L2H.cxH CX P w K mg base N qual scope f cdv A outer s H E p) body t ∧ t { nx := fun _ H' => Q .non H', rt := Q } (L2.start N vs) H) :
    FnHG P w K mg base CX (k + 1) f (PySem.W.fnOf name qual params body scope dV kV doc pm an cdv ct) ps sp := by
  refine ⟨len, fun A outer s H args us vs Q E p hr hot hpin e0 hb r hsp => ?_⟩
  have hl := len _ _ _ _ hsp
  have KX : K.In s.heap := e0.mod.kin.keeps fun b o e => (e0.bs b o e).1
  have lim : s.heap.NoLimit := e0.mod.nolimit.keeps fun b o e => (e0.bs b o e).1
  have hkind : ∀ y ∈ ps.zip us, scope.names.lookup y.1 = some .local ∨ (scope.names.lookup y.1 = some .cell ∧ ((cellsFrom (s.heap.objs.size + 1) scope.names []).lookup y.1).isSome = true) := fun ⟨n, v⟩ hy => by
    rcases S.par n (List.of_mem_zip hy).1 with q | q
    · exact .inl q
    · exact .inr ⟨q, PySem.W.cellsFrom_some _ _ _ (.inl q)⟩
  refine codeAny_call_function hr.depth (KX _ _ lk) rfl S.co S.gen rfl (PySem.W.codeRec_of KX hcd) (hb _ _ _ _ ?_)
  refine wpAny_newFunctionEnv_cells S.kind hkind fun env he s1 x => ?_
  subst he
  refine ⟨lim.keeps x.toInCall.keep, codeAny_func ?_⟩
  obtain ⟨t, ht, hq⟩ := hbody A outer s H vs Q E p hot (hr.deeper _) hsp
  have I : Inv (L2H.cxH CX P w K mg base N qual scope f cdv A outer s H E p) [] (L2.start N vs) H s1 := L2H.inv_startH S hpin e0 hl r x
  refine wpAny_mono (ht.run [] s1 (L2.start N vs) H _ I hq) (fun fl s' hs => ?_) fun e s' hs => hs
  have fin : ∀ {σ' : L2.St} {H' : Hp} {v : V} {u : Value}, Inv (L2H.cxH CX P w K mg base N qual scope f cdv A outer s H E p) [] σ' H' s' → RelV v u → Q v H' → CE outer P w H s Q u s' :=
    fun {σ' H' v u} J rv q => ⟨v, H', J.os, J.bare, J.base, J.hok, rv, q⟩
  cases fl with
  | ret u =>
    obtain ⟨v, σ', H', J, rv, q⟩ := hs
    exact fin J rv q
  | next =>
    obtain ⟨σ', H', J, q⟩ := hs
    exact fin (v := V.non) (u := Value.none) J rfl q
  | brk =>
    obtain ⟨_, _, _, q⟩ := hs
    exact False.elim q
  | cont =>
    obtain ⟨_, _, _, q⟩ := hs
    exact False.elim q
def FnRG (P : Program) (w : World) (K : PySem.W.Frag) (mg : Str → Option Value) (base : Heap) (CX : CXT) (k : Nat) (f : Addr) (sp : Sp) : Prop :=
  ∀ (A : Around) (outer : List Env) (s : Shared) (H : Hp) (us : List Value) (vs : List V) (Q : VK) (E : XK), RoomG k A → Env0 P w K mg base A outer s H → Vals vs us → sp vs H Q E → codeAny (model P w) A (.call (.ref f) ⟨us, []⟩) (CR CX outer P w H s Q E) s
theorem FnRG.imp {P : Program} {w : World} {K : PySem.W.Frag} {mg : Str → Option Value} {base : Heap} {CX : CXT} {k : Nat} {f : Addr} {sp sp' : Sp} (F : FnRG P w K mg base CX k f sp) (h : ∀ vs H Q E, sp' vs H Q E → sp vs H Q E) : FnRG P w K mg base CX k f sp' :=
  fun A outer s H us vs Q E hr e0 r q => F A outer s H us vs Q E hr e0 r (h _ _ _ _ q)
section
variable {CX : CXT} {P : Program} {w : World} {K : PySem.W.Frag} {mg : Str → Option Value} {base : Heap} {k : Nat} {f : Addr} {name qual : Str} {params : Arguments} {body : List Stmt} {scope : Scope} {dV kV doc pm cdv ct oc : Value} {an od : Option Addr}
  {osl : Array (Option Value)} {N ps : List Str} {sp : Sp}
theorem fn_starG {pv : Str} (lk : K.lookup f = some ⟨oc, od, .func (PySem.W.fnOf name qual params body scope dV kV doc pm an cdv ct), osl⟩) (hcd : PySem.W.codeIn K cdv qual = true) (S : FnScope N (ps ++ [pv]) scope) (hCX : StX.CXUp CX)
    (hb : ∀ us rest : List Value, us.length = ps.length → bindArgs (PySem.W.fnOf name qual params body scope dV kV doc pm an cdv ct) ⟨us ++ rest, []⟩ = (newTuple rest >>= fun t => pure (ps.zip us ++ [(pv, t)])))
    (hbody : ∀ (A : Around) (outer : List Env) (s : Shared) (H : Hp) (vs : List V) (Q : VK) (E : XK), RoomG k (A.deeper (envOfC qual scope s.heap.objs.size f cdv)) → sp vs H Q E →
      ∃ t, PSs (cxOf CX P w K mg base N qual scope f cdv A outer s H E) body t ∧ t { nx := fun _ H' => Q .non H', rt := Q } (start N vs) H) :
    FnRG P w K mg base CX (k + 1) f (fun vs H Q E => ∃ ws rest, vs = ws ++ rest ∧ ws.length = ps.length ∧ rest.length ≤ sizeLine ∧ ∀ p, H p = Option.none → sp (ws ++ [V.ref p]) (upd H p (.tup rest)) Q E) := by
  intro A outer s H us vs Q E hr e0 r hsp
  obtain ⟨ws, rest, ev, hl, hz, hq⟩ := hsp
  subst ev
  obtain ⟨u1, u2, eu, r1, r2⟩ := StX.vals_split r
  subst eu
  have hn : H s.heap.objs.size = Option.none := e0.hok.fresh (Nat.le_refl _)
  have hl1 : u1.length = ps.length := by rw [← r1.length]; exact hl
  have hl2 : u2.length ≤ sizeLine := by rw [← r2.length]; exact hz
  refine StX.run_bnd lk hcd S hr.r e0 (G := fun xs H2 => ∃ p, H p = Option.none ∧ xs = ws ++ [V.ref p] ∧ H2 = upd H p (.tup rest)) (fun A' Ex Q' h => ?_) fun s2 H2 xs ⟨p, hp, ex, eH⟩ _ => ?_
  · rw [hb u1 u2 hl1]
    refine wpAny_bind (wpAny_newTuple (wpAny_pure ?_) hl2)
    have new : ObjOk P w (upd H s.heap.objs.size (.tup rest)) (s.heap.push ({ cls := .type "tuple", data := .seq u2.toArray } : Obj)) s.heap.objs.size (.tup rest) := ⟨hz, u2, r2, ⟨_, Heap.get?_push_size _ rfl, rfl, _, rfl⟩⟩
    have un := StX.un_laid (fs := frs outer) (s := s) (o := ({ cls := .type "tuple", data := .seq u2.toArray } : Obj)) (u := .tup rest) hn
    have z := h _ _ (ws ++ [V.ref s.heap.objs.size]) (u1 ++ [Value.ref s.heap.objs.size]) (StX.env0_laid e0 new) un rfl (fun e s' => hCX outer s H _ _ E e s' un (fun b o q => Heap.get?_push_of_some _ q) rfl) (r1.append (.cons rfl .nil))
      (by rw [List.length_append, List.length_append, hl] <;> rfl) ⟨_, hn, rfl, rfl⟩
    rw [List.zip_append hl1.symm] at z
    exact z
  · subst ex eH
    exact hbody A outer s2 _ _ Q E (hr.deeper _) (hq p hp)
end
theorem law_callTsG {P : Program} {w : World} {K : PySem.W.Frag} {mg mb : Str → Option Value} {CX : CXT} {k : Nat} {fa a : Addr} {cs : List (Addr × Addr)} {fd : FuncData} {x : Str} {sp : Sp} {s₁ : Shared} {vs : List Value} {ns : List Int}
    (KX : K.In s₁.heap) (hns : s₁.heap.Ns mainGlobals mg) (hb : s₁.heap.Ns builtinsNs mb) (hbb : ∀ x : Str, x ≠ "__name__" → mb x = bootBuiltins x) (hlim : s₁.heap.NoLimit) (hg : s₁.gens = #[])
    (hT : ∀ p ∈ cs, s₁.heap.get? p.2 = some { cls := .none, data := .fields #[] }) (nT : ∀ p ∈ cs, K.lookup p.2 = none) (C : ∀ p ∈ cs, PySem.W.CodeHd s₁.heap p.1 p.2)
    (hbm : ∃ (bm : Addr) (ob : Obj), mg "__builtins__" = some (.ref bm) ∧ bm ≠ builtinsNs ∧ s₁.heap.get? bm = some ob ∧ ob.cls = .type "module" ∧ ob.dict = some builtinsNs ∧ ob.data = .plain)
    (ha : s₁.heap.get? a = some { cls := .type "list", data := .seq vs.toArray }) (hi : IntsAre vs ns) (hl : ns.length ≤ sizeLine) (hr : RoomG k callerA)
    (F : ∀ base : Heap, K.In base → base.Ns mainGlobals mg → (∀ p ∈ cs, LamX.TabB base mg p.1 p.2) → FnOkG P w K mg base CX k fa fd [x] sp) (hbind : ∀ (s : Shared) (u : Value), BindsTo s fd ⟨[u], []⟩ [(x, u)])
    (hsp : ∀ H : Hp, (∀ p ∈ cs, H p.2 = some (.tbl #[])) → SqL K H a (ns.map V.int) → sp [.ref a] H (fun v _ => v = .bl true) fun _ _ _ => False)
    (hCX : ∀ H e s', CX [] H s₁ (fun _ _ _ => False) e s' → False) :
    codeAny (model P w) callerA (.call (.ref fa) ⟨[.ref a], []⟩) (fun r s' => r = .ok (.ret (.bool true)) ∧ OldK s₁.heap s'.heap ∧ s'.os = s₁.os ∧ AllBare s'.gens) s₁ := by
  have rv := vals_ints hi
  have lenV := hi.length
  have isT : ∀ b : Addr, b ∈ cs.map (·.2) → s₁.heap.get? b = some { cls := .none, data := .fields #[] } := fun b hb => by
    obtain ⟨p, hp, e⟩ := List.mem_map.mp hb
    rw [← e]
    exact hT p hp
  have aT : a ∉ cs.map (·.2) := fun z => by
    have q := isT a z
    rw [ha] at q
    have z' : Data.seq vs.toArray _ = Data.fields #[] := congrArg Obj.data (Option.some.inj q)
    cases z'
  have memT : ∀ p ∈ cs, p.2 ∈ cs.map (·.2) := fun p hp => List.mem_map.mpr ⟨p, hp, rfl⟩
  -- from an abstract heap in which nothing but the script and the tables may be tracked
  have core : ∀ H : Hp, (∀ p ∈ cs, H p.2 = some (.tbl #[])) → (∀ b, H b = none ∨ b ∈ cs.map (·.2) ∨ ∃ o xs, H b = some (.frz o (.lst xs))) → SqL K H a (ns.map V.int) → HOk P w H s₁.heap → (∀ b, H b ≠ none → b = a ∨ b ∈ cs.map (·.2)) → (H a ≠ none → K.lookup a = none) →
      codeAny (model P w) callerA (.call (.ref fa) ⟨[.ref a], []⟩) (fun r s' => r = .ok (.ret (.bool true)) ∧ OldK s₁.heap s'.heap ∧ s'.os = s₁.os ∧ AllBare s'.gens) s₁ := by
    intro H hH hO hS hok hA hK
    have base_of : ∀ {b : Addr} {o : Obj}, s₁.heap.get? b = some o → H b = none → (hidT s₁.heap H).get? b = some o := fun e n => hidT_get e n
    have noD : ∀ {b : Addr} {o : Obj}, s₁.heap.get? b = some o → (∀ vs n, o.data ≠ .seq vs n) → o.data ≠ .fields #[] → H b = none := fun {b o} e h1 h2 => by
      cases q : H b with
      | none => rfl
      | some u =>
        rcases hA b (by rw [q]; simp) with e' | e'
        · rw [e', ha] at e
          cases e
          exact (h1 _ _ rfl).elim
        · rw [isT b e'] at e
          cases e
          exact (h2 rfl).elim
    have noA : ∀ {b : Addr} {o : Obj} {es : Array DictEntry} {ep : Nat}, s₁.heap.get? b = some o → o.data = .dict es ep → H b = none := fun {b o es ep} e d => by
      refine noD e (fun vs n z => ?_) fun z => ?_
      · rw [d] at z
        cases z
      · rw [d] at z
        cases z
    have nsK : ∀ {b : Addr} {m : Str → Option Value}, s₁.heap.Ns b m → (hidT s₁.heap H).Ns b m := fun {b m} ⟨o, es, ep, e, d, r⟩ => ⟨o, es, ep, base_of e (noA e d), d, r⟩
    have hKb : K.In (hidT s₁.heap H) := fun b o e => base_of (KX b o e) (by
      cases q : H b with
      | none => rfl
      | some u =>
        rcases hA b (by rw [q]; simp) with e' | e'
        · rw [e'] at e q
          rw [hK (by rw [q]; simp)] at e
          cases e
        · obtain ⟨p, hp, ep⟩ := List.mem_map.mp e'
          rw [← ep, nT p hp] at e
          cases e)
    have hM : L2.Mod K mg (hidT s₁.heap H) := ⟨hKb, nsK hns, ⟨mb, nsK hb, hbb⟩, let ⟨mc, h1, h2⟩ := hlim; ⟨mc, nsK h1, h2⟩⟩
    have TB : ∀ p ∈ cs, LamX.TabB (hidT s₁.heap H) mg p.1 p.2 := fun p hp => by
      have hTp := hT p hp
      refine ⟨?_, ?_, fun z => ?_⟩
      · obtain ⟨o, us, file, tf, flags, tg, inF, text, tt, e1, r1, r2, r3, r4, r5, r6, r7, r8, hne⟩ := C p hp
        refine ⟨o, us, file, tf, flags, tg, inF, text, tt, base_of e1 (noD e1 (fun vs n z => ?_) fun z => ?_), r1, r2, r3, r4, r5, r6, r7, r8, hne⟩
        · rw [r2] at z
          cases z
        · rw [r2] at z
          cases z
          simp at r3
      · obtain ⟨bm, ob, b1, b2, b3, b4, b5, b6⟩ := hbm
        have nG : bm ≠ mainGlobals := fun q => by
          obtain ⟨o, es, ep, e, hd, _⟩ := hns
          rw [q, e] at b3
          cases b3
          rw [hd] at b6
          cases b6
        have nP : bm ≠ p.2 := fun q => by
          rw [q, hTp] at b3
          cases b3
          cases b6
        refine ⟨bm, ob, b1, b2, nG, nP, base_of b3 (noD b3 (fun vs n z => ?_) fun z => ?_), b4, b5, b6⟩
        · rw [b6] at z
          cases z
        · rw [b6] at z
          cases z
      · obtain ⟨o, es, ep, e, hd, _⟩ := hns
        rw [z, hTp] at e
        cases e
        cases hd
    have e0 : Env0 P w K mg (hidT s₁.heap H) callerA [] s₁ H := ⟨rfl, hM, fun b o e => of_hidT e, Nat.le_of_eq (hidT_size _ _), trivial, fun b hb => absurd (show b ∈ ([] : List Addr) from hb) (by simp), hok, .of_eq hg⟩
    refine codeAny_mono ((F _ hKb (nsK hns) TB).run callerA [] s₁ H ⟨[.ref a], []⟩ [.ref a] [.ref a] _ _ hr e0 (hbind s₁ (.ref a)) (.cons rfl .nil) (hsp H hH hS)) fun r s' h => ?_
    cases r with
    | error e => exact (hCX H e s' h).elim
    | ok fl =>
      cases fl with
      | next => exact False.elim h
      | brk => exact False.elim h
      | cont => exact False.elim h
      | ret u =>
        obtain ⟨v, H', os, bare, un, hok', r', q⟩ := h
        have q' : v = .bl true := q
        subst q'
        obtain rfl : u = Value.bool true := r'
        have key : ∀ b o, b ∉ cs.map (·.2) → s₁.heap.get? b = some o → s'.heap.get? b = some o := fun b o nb e => by
          cases q : H b with
          | none => exact un.keep b o e q (by intro z; exact absurd (show b ∈ ([] : List Addr) from z) (by simp)) (by simp)
          | some u =>
            rcases hO b with z | z | ⟨ob, xs, z⟩
            · rw [q] at z; cases z
            · exact absurd z nb
            · have z2 := un.frzs b ob _ z
              obtain ⟨e1, _⟩ := hok b _ z
              obtain ⟨e2, _⟩ := hok' b _ z2
              rw [e] at e1; cases e1
              exact e2
        have grown : ∀ p ∈ cs, ∃ more : Array Value, s'.heap.get? p.2 = some { cls := .none, data := .fields more } := fun p hp => by
          obtain ⟨more, z⟩ := un.tbls p.2 #[] (hH p hp)
          exact ⟨_, hok' p.2 _ z⟩
        refine ⟨rfl, ⟨fun b o e => ?_, fun b o e => ?_⟩, os, bare⟩
        · by_cases hb : b ∈ cs.map (·.2)
          · obtain ⟨p, hp, ep⟩ := List.mem_map.mp hb
            obtain ⟨more, hm⟩ := grown p hp
            rw [← ep] at e ⊢
            rw [hT p hp] at e
            cases e
            exact .inr (.inl ⟨((C p hp).tab (hT p hp)).isCodeTable, rfl, #[], more, rfl, by rw [Array.empty_append]; exact hm⟩)
          · exact .inl (key b o hb e)
        · by_cases hb : b ∈ cs.map (·.2)
          · obtain ⟨p, hp, ep⟩ := List.mem_map.mp hb
            obtain ⟨more, hm⟩ := grown p hp
            rw [← ep]
            exact ⟨_, hm⟩
          · exact ⟨o, key b o hb e⟩
  cases hk : K.lookup a with
  | some o =>
    have e := KX a o hk
    rw [ha] at e
    cases e
    refine core (fun b => if b ∈ cs.map (·.2) then some (.tbl #[]) else none) (fun p hp => if_pos (memT p hp)) (fun b => ?_) (.inr ⟨_, vs.toArray, _, hk, rfl, rfl, rfl, by rw [List.size_toArray, lenV]; exact hl, by simpa using rv⟩) (fun b u z => ?_) (fun b z => ?_) fun z => absurd (show (if a ∈ cs.map (·.2) then some (HO.tbl #[]) else none) = none from if_neg aT) z
    · by_cases hb : b ∈ cs.map (·.2)
      · exact .inr (.inl hb)
      · exact .inl (if_neg hb)
    · by_cases hb : b ∈ cs.map (·.2)
      · have z' := (if_pos hb).symm.trans z
        cases z'
        exact isT b hb
      · have z' := (if_neg hb).symm.trans z
        cases z'
    · by_cases hb : b ∈ cs.map (·.2)
      · exact .inr hb
      · exact absurd (if_neg hb) z
  | none =>
    refine core (fun b => if b = a then some (.frz { cls := .type "list", data := .seq vs.toArray } (.lst (ns.map V.int))) else if b ∈ cs.map (·.2) then some (.tbl #[]) else none) (fun p hp => (if_neg (show ¬ p.2 = a from fun z => aT (by rw [← z]; exact memT p hp))).trans (if_pos (memT p hp))) (fun b => ?_)
      (.inl (.inr ⟨{ cls := .type "list", data := .seq vs.toArray }, if_pos rfl⟩)) (fun b u z => ?_) (fun b z => ?_) fun _ => hk
    · by_cases hb : b = a
      · exact .inr (.inr ⟨_, _, if_pos hb⟩)
      · by_cases hb2 : b ∈ cs.map (·.2)
        · exact .inr (.inl hb2)
        · exact .inl ((if_neg hb).trans (if_neg hb2))
    · by_cases hb : b = a
      · have z' := (if_pos hb).symm.trans z
        cases z'
        rw [hb]
        exact ⟨ha, by rw [List.length_map]; exact hl, vs, _, rv, ha⟩
      · have z1 := (if_neg hb).symm.trans z
        by_cases hb2 : b ∈ cs.map (·.2)
        · have z' := (if_pos hb2).symm.trans z1
          cases z'
          exact isT b hb2
        · have z' := (if_neg hb2).symm.trans z1
          cases z'
    · by_cases hb : b = a
      · exact .inl hb
      · by_cases hb2 : b ∈ cs.map (·.2)
        · exact .inr hb2
        · exact absurd ((if_neg hb).trans (if_neg hb2)) z
end Px
namespace Px
open PySem PySem.Spec PyProof.Rows L2
abbrev XV := Cl × List PV
abbrev QV := PV → Mu → Prop
abbrev QX := XV → Mu → Prop
abbrev DE := En → Mu → QV → QX → Prop
abbrev DA := En → Mu → (List PV → Mu → Prop) → QX → Prop
abbrev DT := En → Mu → (Bool → Mu → Prop) → QX → Prop
/-- what a def promises: arguments, store, the wishes -/
abbrev Ct := List PV → Mu → QV → QX → Prop
structure br (b : Bool) (A B : Prop) : Prop where
  t : b = true → A
  f : b = false → B
/-- a lock: what is within is not looked into -/
structure Lk (A : Prop) : Prop where
  un : A
theorem br_of {b : Bool} {A B : Prop} (h1 : b = true → A) (h2 : b = false → B) : br b A B := ⟨h1, h2⟩
def XRep (K : Frg) (B : BX) (G : Hp) (xv : XV) (d : Option Addr) : Prop :=
  xcB K xv.1 = true ∧ ((xv.1.flds = [] ∧ xv.2 = [] ∧ d = none) ∨ ∃ dd vs, d = some dd ∧ G dd = some (.xd (xv.1.flds.zip vs)) ∧ vs.length = xv.1.flds.length ∧ Reps K B G xv.2 vs)
def GoodV (K : Frg) (B : BX) (μ : Mu) (G H : Hp) (q : QV) (Q : VK) : Prop := ∀ p v μ' G' H', q p μ' → Go K B μ G H μ' G' H' → Rep K B G' p v → Q v H'
def GoodX (K : Frg) (W : WX) (B : BX) (μ : Mu) (G H : Hp) (σ : L2.St) (x : QX) : Prop := ∀ xv d μ' G' H', x xv μ' → Go K B μ G H μ' G' H' → XRep K B G' xv d → W (.ref (ca K xv.1)) d σ H'
def GoodB (K : Frg) (B : BX) (μ : Mu) (G H : Hp) (q : Bool → Mu → Prop) (Q : Bool → Hp → Prop) : Prop := ∀ b μ' G' H', q b μ' → Go K B μ G H μ' G' H' → Q b H'
def GoodA (K : Frg) (B : BX) (μ : Mu) (G H : Hp) (q : List PV → Mu → Prop) (Q : List V → Hp → Prop) : Prop := ∀ ps vs μ' G' H', q ps μ' → Go K B μ G H μ' G' H' → Reps K B G' ps vs → Q vs H'
section
variable {K : Frg} {W : WX} {B : BX} {μ μ1 : Mu} {G H G1 H1 : Hp} {σ : L2.St}
theorem GoodV.go {q : QV} {Q : VK} (h : GoodV K B μ G H q Q) (g : Go K B μ G H μ1 G1 H1) : GoodV K B μ1 G1 H1 q Q := fun p v μ' G' H' hp g' r => h p v μ' G' H' hp (g.trans g') r
theorem GoodX.go {x : QX} (h : GoodX K W B μ G H σ x) (g : Go K B μ G H μ1 G1 H1) : GoodX K W B μ1 G1 H1 σ x := fun p v μ' G' H' hp g' r => h p v μ' G' H' hp (g.trans g') r
theorem GoodB.go {q : Bool → Mu → Prop} {Q : Bool → Hp → Prop} (h : GoodB K B μ G H q Q) (g : Go K B μ G H μ1 G1 H1) : GoodB K B μ1 G1 H1 q Q := fun b μ' G' H' hb g' => h b μ' G' H' hb (g.trans g')
theorem GoodA.go {q : List PV → Mu → Prop} {Q : List V → Hp → Prop} (h : GoodA K B μ G H q Q) (g : Go K B μ G H μ1 G1 H1) : GoodA K B μ1 G1 H1 q Q := fun p v μ' G' H' hp g' r => h p v μ' G' H' hp (g.trans g') r
end
def tE (K : Frg) (W : WX) (d : DE) : TE := fun σ H Q => ∃ (B : BX) (ρ : En) (μ : Mu) (G : Hp) (q : QV) (x : QX), Rel K B ρ μ σ G H ∧ d ρ μ q x ∧ GoodV K B μ G H q Q ∧ GoodX K W B μ G H σ x
def tA (K : Frg) (W : WX) (d : DA) : TA := fun σ H Q => ∃ (B : BX) (ρ : En) (μ : Mu) (G : Hp) (q : List PV → Mu → Prop) (x : QX), Rel K B ρ μ σ G H ∧ d ρ μ q x ∧ GoodA K B μ G H q Q ∧ GoodX K W B μ G H σ x
def tT (K : Frg) (W : WX) (d : DT) : TT := fun σ H Q => ∃ (B : BX) (ρ : En) (μ : Mu) (G : Hp) (q : Bool → Mu → Prop) (x : QX), Rel K B ρ μ σ G H ∧ d ρ μ q x ∧ GoodB K B μ G H q Q ∧ GoodX K W B μ G H σ x
abbrev EJ (X : Cx) (W : WX) (e : Expr) (d : DE) : Prop := PE X e (tE X.K W d)
abbrev AJ (X : Cx) (W : WX) (es : List Expr) (d : DA) : Prop := PA X es (tA X.K W d)
abbrev TJ (X : Cx) (W : WX) (e : Expr) (d : DT) : Prop := PT X e (tT X.K W d)
abbrev WJ (X : Cx) (W : WX) (e : Expr) (d : DT) : Prop := PW X e (tT X.K W d)
theorem pe_imp {X : Cx} {e : Expr} {t t' : TE} (h : PE X e t) (i : ∀ σ H Q, t' σ H Q → t σ H Q) : PE X e t' := ⟨fun pins s σ H Q J z => h.run pins s σ H Q J (i σ H Q z)⟩
theorem pt_imp {X : Cx} {e : Expr} {t t' : TT} (h : PT X e t) (i : ∀ σ H Q, t' σ H Q → t σ H Q) : PT X e t' := ⟨fun pins s σ H Q J z => h.run pins s σ H Q J (i σ H Q z)⟩
theorem pw_imp {X : Cx} {e : Expr} {t t' : TT} (h : PW X e t) (i : ∀ σ H Q, t' σ H Q → t σ H Q) : PW X e t' := ⟨fun wh pins s σ H Q J z => h.run wh pins s σ H Q J (i σ H Q z)⟩
theorem pa_imp {X : Cx} {es : List Expr} {t t' : TA} (h : PA X es t) (i : ∀ σ H Q, t' σ H Q → t σ H Q) : PA X es t' := ⟨fun pos pins s σ H Q J z => h.run pos pins s σ H Q J (i σ H Q z)⟩
def dVar (i : Nat) : DE := fun ρ μ q _ => match nth ρ i with
  | some p => q p μ
  | none => False
theorem dVar_inv {i : Nat} {ρ : En} {μ : Mu} {q : QV} {x : QX} (h : dVar i ρ μ q x) : ∃ p, ρ[i]? = some (some p) ∧ q p μ := by
  unfold dVar at h
  cases e : nth ρ i with
  | none => rw [e] at h; exact h.elim
  | some p => rw [e] at h; exact ⟨p, nth_some e, h⟩
def dC (p : PV) : DE := fun _ μ q _ => q p μ
section
variable {X : Cx} {W : WX} {pos : Pos}
theorem e_var (i : Nat) {x : Str} (hN : X.N[i]? = some x := by rfl) (hv : Vis X.env.scope x := by first | exact Or.inl rfl | exact Or.inr (Or.inl rfl) | exact Or.inr (Or.inr rfl)) (h1 : (x == ("__debug__" : Str)) = false := by decide) (h2 : (x == ("__classdict__" : Str)) = false := by decide) :
    EJ X W (.Name x pos) (dVar i) := pe_imp (pe_var hN hv h1 h2) fun σ H Q ⟨B, ρ, μ, G, q, z, R, h, gv, gx⟩ => by
  obtain ⟨p, e, hp⟩ := dVar_inv h
  obtain ⟨v, e1, r⟩ := R.at_ i _ e
  exact ⟨v, e1, gv p v μ G H hp (.refl R.ok) r⟩
theorem e_c {e : Expr} {v : V} {p : PV} (h : PE X e (tC v)) (r : ∀ B G, Rep X.K B G p v) : EJ X W e (dC p) := pe_imp h fun σ H Q ⟨B, ρ, μ, G, q, z, R, hp, gv, gx⟩ => gv p v μ G H hp (.refl R.ok) (r _ _)
theorem e_int {i : Int} {j : Nat} : EJ X W (.Constant (.int i) j pos) (dC (.int i)) := e_c pe_int fun _ _ => rep_int i
theorem e_bl {i : Bool} {j : Nat} : EJ X W (.Constant (.bool i) j pos) (dC (.bl i)) := e_c pe_bl fun _ _ => rep_bl i
theorem e_non {j : Nat} : EJ X W (.Constant .none j pos) (dC .non) := e_c pe_non fun _ _ => rep_non
theorem e_str {i : Str} {j : Nat} : EJ X W (.Constant (.str i) j pos) (dC (.str i)) := e_c pe_str fun _ _ => rep_str i
/-- a class of the module, as a value -/
theorem e_cls (c : Cl) (kn : knB X.K c = true) (hm : X.mg c.name = some (.ref (ca X.K c))) (hg : Gl X c.name := by rfl) (h1 : (c.name == ("__debug__" : Str)) = false := by decide) : EJ X W (.Name c.name pos) (dC (.cls c)) := e_c (pe_glob hg hm (show RelV (.ref (ca X.K c)) _ from rfl) h1) fun _ _ => rep_cls c kn
/-- a module's constant -/
theorem e_glob {x : Str} {v : V} {u : Value} {p : PV} (hm : X.mg x = some u) (hr : RelV v u) (r : ∀ B G, Rep X.K B G p v) (hg : Gl X x := by rfl) (h1 : (x == ("__debug__" : Str)) = false := by decide) : EJ X W (.Name x pos) (dC p) := e_c (pe_glob hg hm hr h1) r
end
abbrev F2 := Mu → PV → PV → (PV → Prop) → Prop
abbrev FO := PV → PV → Mu → QV → QX → Prop
def OpJ (X : Cx) (W : WX) (op : Value → Value → Sem Value) (f : FO) : Prop :=
  ∀ (pins : List (Addr × Obj)) (s : Shared) (σ : L2.St) (H : Hp) (B : BX) (ρ : En) (μ : Mu) (G : Hp) (a b : PV) (va vb : V) (u w : Value) (q : QV) (x : QX) (Q : VK), Inv X pins σ H s → Rel X.K B ρ μ σ G H → Rep X.K B G a va → Rep X.K B G b vb → RelV va u → RelV vb w →
    f a b μ q x → GoodV X.K B μ G H q Q → GoodX X.K W B μ G H σ x → wpAny (model X.prog X.w) X.A (op u w) (EP X pins σ Q) X.xe s
def dBin (f : FO) (da db : DE) : DE := fun ρ μ q x => da ρ μ (fun a μ1 => db ρ μ1 (fun b μ2 => f a b μ2 q x) x) x
/-- f tells what the reading r asks -/
def POp (K : Frg) (r : R2) (f : F2) : Prop := ∀ (B : BX) (μ : Mu) (G H : Hp) (a b : PV) (va vb : V) (q : PV → Prop) (Q : VK), Ok K B μ G H → Rep K B G a va → Rep K B G b vb → f μ a b q → (∀ p v G' H', q p → Go K B μ G H μ G' H' → Rep K B G' p v → Q v H') → r va vb H Q
def fo (f : F2) : FO := fun a b μ q _ => f μ a b (fun p => q p μ)
section
variable {X : Cx} {W : WX} {pos : Pos} {a b : Expr} {da db : DE} {r : R2}
theorem OpJ.of {op : Value → Value → Sem Value} {f : F2} (ho : OpR X op r) (hp : POp X.K r f) : OpJ X W op (fo f) := fun pins s σ H B ρ μ G a b va vb u w q x Q J R ra rb ru rw' h gv gx =>
  ho pins s σ H va vb u w Q J ru rw' (hp B μ G H a b va vb _ Q R.ok ra rb h fun p v G' H' hq g rp => gv p v μ G' H' hq g rp)
theorem OpJ.or {op : Value → Value → Sem Value} {f g h : FO} (hf : OpJ X W op f) (hg : OpJ X W op g) (i : ∀ a b μ q x, h a b μ q x → f a b μ q x ∨ g a b μ q x) : OpJ X W op h := fun pins s σ H B ρ μ G a b va vb u w q x Q J R ra rb ru rw' z gv gx =>
  (i a b μ q x z).elim (fun z => hf pins s σ H B ρ μ G a b va vb u w q x Q J R ra rb ru rw' z gv gx) fun z => hg pins s σ H B ρ μ G a b va vb u w q x Q J R ra rb ru rw' z gv gx
theorem OpJ.imp {op : Value → Value → Sem Value} {f h : FO} (hf : OpJ X W op f) (i : ∀ a b μ q x, h a b μ q x → f a b μ q x) : OpJ X W op h := hf.or hf fun a b μ q x z => .inl (i a b μ q x z)
/-- b's reading, a's value known -/
def rB (K : Frg) (W : WX) (f : FO) (db : DE) (Q : VK) (σ : L2.St) (va : V) (H1 : Hp) : Prop := ∃ (B : BX) (ρ : En) (μ : Mu) (G : Hp) (a : PV) (q : QV) (z : QX), Rel K B ρ μ σ G H1 ∧ Rep K B G a va ∧ db ρ μ (fun b μ2 => f a b μ2 q z) z ∧ GoodV K B μ G H1 q Q ∧ GoodX K W B μ G H1 σ z
theorem rB_of {K : Frg} {W : WX} {f : FO} {da db : DE} {σ : L2.St} {H : Hp} {Q : VK} (h : tE K W (dBin f da db) σ H Q) : tE K W da σ H (rB K W f db Q σ) := by
  obtain ⟨B, ρ, μ, G, q, x, R, h, gv, gx⟩ := h
  exact ⟨B, ρ, μ, G, _, x, R, h, fun p v μ1 G1 H1 h1 g1 r1 => ⟨B, ρ, μ1, G1, p, q, x, R.go g1, r1, h1, gv.go g1, gx.go g1⟩, gx⟩
/-- both known: what is left is the sign -/
def rAB (K : Frg) (W : WX) (f : FO) (Q : VK) (σ : L2.St) (va vb : V) (H1 : Hp) : Prop := ∃ (B : BX) (ρ : En) (μ : Mu) (G : Hp) (a b : PV) (q : QV) (z : QX), Rel K B ρ μ σ G H1 ∧ Rep K B G a va ∧ Rep K B G b vb ∧ f a b μ q z ∧ GoodV K B μ G H1 q Q ∧ GoodX K W B μ G H1 σ z
theorem rAB_of {K : Frg} {W : WX} {f : FO} {db : DE} {σ : L2.St} {H : Hp} {Q : VK} {va : V} (h : rB K W f db Q σ va H) : tE K W db σ H (rAB K W f Q σ va) := by
  obtain ⟨B, ρ, μ, G, a, q, x, R, ra, h, gv, gx⟩ := h
  exact ⟨B, ρ, μ, G, _, x, R, h, fun p v μ1 G1 H1 h1 g1 r1 => ⟨B, ρ, μ1, G1, a, p, q, x, R.go g1, ra.mono g1.gx, r1, h1, gv.go g1, gx.go g1⟩, gx⟩
theorem OpJ.run {f : FO} {op : Value → Value → Sem Value} (ho : OpJ X W op f) {pins : List (Addr × Obj)} {s : Shared} {σ : L2.St} {H : Hp} {Q : VK} {va vb : V} {u w : Value} (J : Inv X pins σ H s) (ru : RelV va u) (rw' : RelV vb w) (h : rAB X.K W f Q σ va vb H) : wpAny (model X.prog X.w) X.A (op u w) (EP X pins σ Q) X.xe s := by
  obtain ⟨B, ρ, μ, G, a, b, q, x, R, ra, rb, h, gv, gx⟩ := h
  exact ho pins s σ H B ρ μ G a b va vb u w q x Q J R ra rb ru rw' h gv gx
theorem e_bin {op : Operator} {f : FO} (ho : OpJ X W (binaryOp op) f) (ha : EJ X W a da) (hb : EJ X W b db) : EJ X W (.BinOp a op b pos) (dBin f da db) := by
  refine ⟨fun pins s σ H Q J h => ?_⟩
  exact wpAny_BinOp (thn (ha.run pins s σ H _ J (rB_of h)) fun u s1 ⟨va, H1, J1, ru, h1⟩ => thn (hb.run pins s1 σ H1 _ J1 (rAB_of h1)) fun w s2 ⟨vb, H2, J2, rw', h2⟩ => ho.run J2 ru rw' h2)
end
end Px
namespace Px
open PySem PySem.Spec PyProof.Rows L2
def qB (q : Bool → Mu → Prop) : QV := fun p μ => match p with
  | .bl b => q b μ
  | _ => False
theorem qB_inv {q : Bool → Mu → Prop} {p : PV} {μ : Mu} (h : qB q p μ) : ∃ b, p = .bl b ∧ q b μ := by
  cases p <;> first | exact h.elim | exact ⟨_, rfl, h⟩
/-- a value that is True or False, as a test -/
def dB (d : DE) : DT := fun ρ μ q x => d ρ μ (qB q) x
theorem tb_of {K : Frg} {W : WX} {t : TE} {d : DE} {σ : L2.St} {H : Hp} {Q : Bool → Hp → Prop} (ht : ∀ σ H Q, tE K W d σ H Q → t σ H Q) (h : tT K W (dB d) σ H Q) : t σ H fun x H' => ∃ k, x = .bl k ∧ Q k H' := by
  obtain ⟨B, ρ, μ, G, q, x, R, h, gv, gx⟩ := h
  refine ht _ _ _ ⟨B, ρ, μ, G, _, x, R, h, fun p v μ1 G1 H1 h1 g1 r1 => ?_, gx⟩
  obtain ⟨b, rfl, hb⟩ := qB_inv h1
  exact ⟨b, r1.bl_inv, gv b μ1 G1 H1 hb g1⟩
section
variable {X : Cx} {W : WX} {pos : Pos} {a b c : Expr} {da db dc : DE}
theorem e_cmp {op : CmpOp} {f : FO} (ho : OpJ X W (compareOp op) f) (ha : EJ X W a da) (hb : EJ X W b db) (hm : behindInMarks op b = false) : EJ X W (.Compare a [op] [b] pos) (dBin f da db) := by
  refine ⟨fun pins s σ H Q J h => ?_⟩
  exact wpAny_Compare1 (thn (ha.run pins s σ H _ J (rB_of h)) fun u s1 ⟨va, H1, J1, ru, h1⟩ => thn (hb.run pins s1 σ H1 _ J1 (rAB_of h1)) fun w s2 ⟨vb, H2, J2, rw', h2⟩ => ho.run J2 ru rw' h2) hm
theorem t_cmp {op : CmpOp} {f : FO} (ho : OpJ X W (compareOp op) f) (ha : EJ X W a da) (hb : EJ X W b db) (hm : behindInMarks op b = false) : TJ X W (.Compare a [op] [b] pos) (dB (dBin f da db)) := by
  refine ⟨fun pins s σ H Q J h => ?_⟩
  have h' : tE X.K W (dBin f da db) σ H fun x H' => ∃ k, x = .bl k ∧ Q k H' := tb_of (fun _ _ _ z => z) h
  refine wpAny_isTrue_Compare1 (thn (ha.run pins s σ H _ J (rB_of h')) fun u s1 ⟨va, H1, J1, ru, h1⟩ => thn (hb.run pins s1 σ H1 _ J1 (rAB_of h1)) fun w s2 ⟨vb, H2, J2, rw', h2⟩ =>
    thn (ho.run J2 ru rw' h2) fun c s3 ⟨z, H3, J3, r3, k, e, q3⟩ => ?_) hm
  subst e
  cases r3
  exact wpAny_truthy_bool ⟨H3, J3, q3⟩
/-- truth of a value -/
abbrev FT := PV → Mu → (Bool → Mu → Prop) → QX → Prop
def TrJ (X : Cx) (W : WX) (f : FT) : Prop := ∀ (pins : List (Addr × Obj)) (s : Shared) (σ : L2.St) (H : Hp) (B : BX) (ρ : En) (μ : Mu) (G : Hp) (a : PV) (va : V) (u : Value) (q : Bool → Mu → Prop) (x : QX) (Q : Bool → Hp → Prop), Inv X pins σ H s → Rel X.K B ρ μ σ G H → Rep X.K B G a va → RelV va u →
    f a μ q x → GoodB X.K B μ G H q Q → GoodX X.K W B μ G H σ x → wpAny (model X.prog X.w) X.A (truthy u) (TP X pins σ Q) X.xe s
def dTr (f : FT) (d : DE) : DT := fun ρ μ q x => d ρ μ (fun p μ1 => f p μ1 q x) x
theorem t_tr {f : FT} (tr : TrJ X W f) (ha : EJ X W a da) (he : ∀ whole, isTrue a X.env whole = (do let v ← whole; standAt a.pos; holding [v] (truthy v)) := by intro _; rfl) : TJ X W a (dTr f da) := by
  refine ⟨fun pins s σ H Q J ⟨B, ρ, μ, G, q, z, R, h, gv, gx⟩ => ?_⟩
  refine isTrue_plain (thn (ha.run pins s σ H (fun v H1 => ∃ μ1 G1 p, Go X.K B μ G H μ1 G1 H1 ∧ Rep X.K B G1 p v ∧ f p μ1 q z) J
    ⟨B, ρ, μ, G, _, z, R, h, fun p v μ1 G1 H1 h1 g1 r1 => ⟨μ1, G1, p, g1, r1, h1⟩, gx⟩) fun u s1 ⟨v, H1, J1, rv, μ1, G1, p, g1, rp, hf⟩ => ?_) (he _)
  exact tr pins s1 σ H1 B ρ μ1 G1 p v u q z Q J1 (R.go g1) rp rv hf (gv.go g1) (gx.go g1)
def dAnd (t u : DT) : DT := fun ρ μ q x => t ρ μ (fun b μ1 => br b (u ρ μ1 q x) (q false μ1)) x
def dOr (t u : DT) : DT := fun ρ μ q x => t ρ μ (fun b μ1 => br b (q true μ1) (u ρ μ1 q x)) x
def dNot (t : DT) : DT := fun ρ μ q x => t ρ μ (fun b μ1 => q (!b) μ1) x
variable {ta tb : DT} {rest : List Expr}
theorem w_and1 (ha : TJ X W a ta) : WJ X W (.BoolOp .And [a] pos) ta := pw_and1 ha
theorem w_or1 (ha : TJ X W a ta) : WJ X W (.BoolOp .Or [a] pos) ta := pw_or1 ha
theorem w_and (ha : TJ X W a ta) (hb : WJ X W (.BoolOp .And (b :: rest) pos) tb) : WJ X W (.BoolOp .And (a :: b :: rest) pos) (dAnd ta tb) := pw_imp (pw_and ha hb) fun σ H Q ⟨B, ρ, μ, G, q, x, R, h, gv, gx⟩ =>
  ⟨B, ρ, μ, G, _, x, R, h, fun c μ1 G1 H1 h1 g1 => by
    cases c with
    | true => exact ⟨B, ρ, μ1, G1, q, x, R.go g1, (h1.t rfl), gv.go g1, gx.go g1⟩
    | false => exact gv _ _ _ _ (h1.f rfl) g1, gx⟩
theorem w_or (ha : TJ X W a ta) (hb : WJ X W (.BoolOp .Or (b :: rest) pos) tb) : WJ X W (.BoolOp .Or (a :: b :: rest) pos) (dOr ta tb) := pw_imp (pw_or ha hb) fun σ H Q ⟨B, ρ, μ, G, q, x, R, h, gv, gx⟩ =>
  ⟨B, ρ, μ, G, _, x, R, h, fun c μ1 G1 H1 h1 g1 => by
    cases c with
    | true => exact gv _ _ _ _ (h1.t rfl) g1
    | false => exact ⟨B, ρ, μ1, G1, q, x, R.go g1, (h1.f rfl), gv.go g1, gx.go g1⟩, gx⟩
theorem t_w (h : WJ X W a ta) : TJ X W a ta := h.pt
theorem t_not (ha : TJ X W a ta) : TJ X W (.UnaryOp .Not a pos) (dNot ta) := pt_imp (pt_not ha) fun σ H Q ⟨B, ρ, μ, G, q, x, R, h, gv, gx⟩ => ⟨B, ρ, μ, G, _, x, R, h, fun c μ1 G1 H1 h1 g1 => gv _ _ _ _ h1 g1, gx⟩
def dAndV (da db : DE) : DE := fun ρ μ q x => da ρ μ (qB fun b μ1 => br b (db ρ μ1 q x) (q (.bl false) μ1)) x
def dOrV (da db : DE) : DE := fun ρ μ q x => da ρ μ (qB fun b μ1 => br b (q (.bl true) μ1) (db ρ μ1 q x)) x
def dNotV (da : DE) : DE := fun ρ μ q x => da ρ μ (qB fun b μ1 => q (.bl (!b)) μ1) x
theorem e_one {op : BoolOp} (h : EJ X W a da) : EJ X W (.BoolOp op [a] pos) da := pe_one h
theorem e_and (ha : EJ X W a da) (hb : EJ X W (.BoolOp .And (b :: rest) pos) db) : EJ X W (.BoolOp .And (a :: b :: rest) pos) (dAndV da db) := pe_imp (pe_and ha hb) fun σ H Q ⟨B, ρ, μ, G, q, x, R, h, gv, gx⟩ =>
  ⟨B, ρ, μ, G, _, x, R, h, fun p v μ1 G1 H1 h0 g1 r1 => by
    obtain ⟨c, rfl, h1⟩ := qB_inv h0
    refine ⟨c, r1.bl_inv, ?_⟩
    cases c with
    | true => exact ⟨B, ρ, μ1, G1, q, x, R.go g1, (h1.t rfl), gv.go g1, gx.go g1⟩
    | false => exact gv _ _ _ _ _ (h1.f rfl) g1 (rep_bl _), gx⟩
theorem e_or (ha : EJ X W a da) (hb : EJ X W (.BoolOp .Or (b :: rest) pos) db) : EJ X W (.BoolOp .Or (a :: b :: rest) pos) (dOrV da db) := pe_imp (pe_or ha hb) fun σ H Q ⟨B, ρ, μ, G, q, x, R, h, gv, gx⟩ =>
  ⟨B, ρ, μ, G, _, x, R, h, fun p v μ1 G1 H1 h0 g1 r1 => by
    obtain ⟨c, rfl, h1⟩ := qB_inv h0
    refine ⟨c, r1.bl_inv, ?_⟩
    cases c with
    | true => exact gv _ _ _ _ _ (h1.t rfl) g1 (rep_bl _)
    | false => exact ⟨B, ρ, μ1, G1, q, x, R.go g1, (h1.f rfl), gv.go g1, gx.go g1⟩, gx⟩
theorem e_not (ha : EJ X W a da) : EJ X W (.UnaryOp .Not a pos) (dNotV da) := pe_imp (pe_not ha) fun σ H Q ⟨B, ρ, μ, G, q, x, R, h, gv, gx⟩ =>
  ⟨B, ρ, μ, G, _, x, R, h, fun p v μ1 G1 H1 h0 g1 r1 => by
    obtain ⟨c, rfl, h1⟩ := qB_inv h0
    exact ⟨c, r1.bl_inv, gv _ _ _ _ _ h1 g1 (rep_bl _)⟩, gx⟩
def dIf (t : DT) (da db : DE) : DE := fun ρ μ q x => t ρ μ (fun b μ1 => br b (da ρ μ1 q x) (db ρ μ1 q x)) x
theorem e_if (hc : TJ X W c ta) (ha : EJ X W a da) (hb : EJ X W b db) : EJ X W (.IfExp c a b pos) (dIf ta da db) := pe_imp (pe_ifExp hc ha hb) fun σ H Q ⟨B, ρ, μ, G, q, x, R, h, gv, gx⟩ =>
  ⟨B, ρ, μ, G, _, x, R, h, fun c μ1 G1 H1 h1 g1 => by
    cases c with
    | true => exact ⟨B, ρ, μ1, G1, q, x, R.go g1, (h1.t rfl), gv.go g1, gx.go g1⟩
    | false => exact ⟨B, ρ, μ1, G1, q, x, R.go g1, (h1.f rfl), gv.go g1, gx.go g1⟩, gx⟩
/-- a < b < c -/
def dChain (f g : FO) (da db dc : DE) : DE := fun ρ μ q x => da ρ μ (fun a μ1 => db ρ μ1 (fun b μ2 => f a b μ2 (qB fun k μ3 => br k (dc ρ μ3 (fun c μ4 => g b c μ4 q x) x) (q (.bl false) μ3)) x) x) x
theorem t_chain {op op' : CmpOp} {f g : FO} (ho : OpJ X W (compareOp op) f) (ho' : OpJ X W (compareOp op') g) (ha : EJ X W a da) (hb : EJ X W b db) (hc : EJ X W c dc)
    (hm : lastMarks [op, op'] [b, c] = false := by with_unfolding_all rfl) : TJ X W (.Compare a [op, op'] [b, c] pos) (dB (dChain f g da db dc)) := by
  refine ⟨fun pins s σ H Q J ⟨B, ρ, μ, G, q, x, R, h, gv, gx⟩ => ?_⟩
  refine isTrue_chain (thn (ha.run pins s σ H (fun v H1 => ∃ μ1 G1 p, Go X.K B μ G H μ1 G1 H1 ∧ Rep X.K B G1 p v ∧ db ρ μ1 (fun b μ2 => f p b μ2 (qB fun k μ3 => br k (dc ρ μ3 (fun c μ4 => g b c μ4 (qB q) x) x) (qB q (.bl false) μ3)) x) x) J
    ⟨B, ρ, μ, G, _, x, R, h, fun p v μ1 G1 H1 h1 g1 r1 => ⟨μ1, G1, p, g1, r1, h1⟩, gx⟩) fun u s1 ⟨v, H1, J1, rv, μ1, G1, p, g1, rp, h1⟩ => test_link (thn (hb.run pins s1 σ H1 (fun v2 H2 => ∃ μ2 G2 p2, Go X.K B μ G H μ2 G2 H2 ∧ Rep X.K B G2 p v ∧ Rep X.K B G2 p2 v2 ∧ f p p2 μ2 (qB fun k μ3 => br k (dc ρ μ3 (fun c μ4 => g p2 c μ4 (qB q) x) x) (qB q (.bl false) μ3)) x) J1
    ⟨B, ρ, μ1, G1, _, x, R.go g1, h1, fun p2 v2 μ2 G2 H2 h2 g2 r2 => ⟨μ2, G2, p2, g1.trans g2, rp.mono g2.gx, r2, h2⟩, gx.go g1⟩) fun u2 s2 ⟨v2, H2, J2, rv2, μ2, G2, p2, g2, rp', rp2, h2⟩ =>
    thn (ho pins s2 σ H2 B ρ μ2 G2 p p2 v v2 u u2 _ x (fun z H3 => ∃ k μ3 G3, z = .bl k ∧ Go X.K B μ G H μ3 G3 H3 ∧ Rep X.K B G3 p2 v2 ∧ br k (dc ρ μ3 (fun c μ4 => g p2 c μ4 (qB q) x) x) (qB q (.bl false) μ3)) J2 (R.go g2) rp' rp2 rv rv2 h2
      (fun p3 v3 μ3 G3 H3 h3 g3 r3 => by
        obtain ⟨k, rfl, hk⟩ := qB_inv h3
        exact ⟨k, μ3, G3, r3.bl_inv, g2.trans g3, rp2.mono g3.gx, hk⟩) (gx.go g2)) fun d s3 ⟨z, H3, J3, r3, k, μ3, G3, e, g3, rp3, q3⟩ => ?_)) hm
  subst e
  cases r3
  refine wpAny_truthy_bool ?_
  cases k with
  | false => exact ite_ff ⟨H3, J3, gv _ _ _ _ (q3.f rfl) g3⟩
  | true =>
    refine ite_tt (test_last (thn (hc.run pins s3 σ H3 (fun v4 H4 => ∃ μ4 G4 p4, Go X.K B μ G H μ4 G4 H4 ∧ Rep X.K B G4 p2 v2 ∧ Rep X.K B G4 p4 v4 ∧ g p2 p4 μ4 (qB q) x) J3
      ⟨B, ρ, μ3, G3, _, x, R.go g3, q3.t rfl, fun p4 v4 μ4 G4 H4 h4 g4 r4 => ⟨μ4, G4, p4, g3.trans g4, rp3.mono g4.gx, r4, h4⟩, gx.go g3⟩) fun w s4 ⟨v4, H4, J4, r4, μ4, G4, p4, g4, ra, rb, h4⟩ =>
      thn (ho' pins s4 σ H4 B ρ μ4 G4 p2 p4 v2 v4 u2 w (qB q) x (fun z H5 => ∃ k, z = .bl k ∧ Q k H5) J4 (R.go g4) ra rb rv2 r4 h4 (fun p5 v5 μ5 G5 H5 h5 g5 r5 => by
        obtain ⟨k, rfl, hk⟩ := qB_inv h5
        exact ⟨k, r5.bl_inv, gv k μ5 G5 H5 hk (g4.trans g5)⟩) (gx.go g4)) fun c5 s5 ⟨z5, H5, J5, r5, k5, e5, q5⟩ => ?_))
    subst e5
    cases r5
    exact wpAny_truthy_bool ⟨H5, J5, q5⟩
abbrev FU := PV → Mu → QV → QX → Prop
def UnJ (X : Cx) (W : WX) (op : Value → Sem Value) (f : FU) : Prop := ∀ (pins : List (Addr × Obj)) (s : Shared) (σ : L2.St) (H : Hp) (B : BX) (ρ : En) (μ : Mu) (G : Hp) (a : PV) (va : V) (u : Value) (q : QV) (x : QX) (Q : VK), Inv X pins σ H s → Rel X.K B ρ μ σ G H → Rep X.K B G a va → RelV va u →
    f a μ q x → GoodV X.K B μ G H q Q → GoodX X.K W B μ G H σ x → wpAny (model X.prog X.w) X.A (op u) (EP X pins σ Q) X.xe s
def dUn (f : FU) (d : DE) : DE := fun ρ μ q x => d ρ μ (fun p μ1 => f p μ1 q x) x
theorem e_un {op : UnaryOp} {f : FU} (ho : UnJ X W (unaryOp op) f) (ha : EJ X W a da) : EJ X W (.UnaryOp op a pos) (dUn f da) := by
  refine ⟨fun pins s σ H Q J ⟨B, ρ, μ, G, q, z, R, h, gv, gx⟩ => ?_⟩
  refine UnaryOp_ (thn (ha.run pins s σ H (fun v H1 => ∃ μ1 G1 p, Go X.K B μ G H μ1 G1 H1 ∧ Rep X.K B G1 p v ∧ f p μ1 q z) J
    ⟨B, ρ, μ, G, _, z, R, h, fun p v μ1 G1 H1 h1 g1 r1 => ⟨μ1, G1, p, g1, r1, h1⟩, gx⟩) fun u s1 ⟨v, H1, J1, rv, μ1, G1, p, g1, rp, hf⟩ => ?_)
  exact ho pins s1 σ H1 B ρ μ1 G1 p v u q z Q J1 (R.go g1) rp rv hf (gv.go g1) (gx.go g1)
def negP : FU := fun p μ q _ => match p with
  | .int i => q (.int (-i)) μ
  | _ => False
theorem uj_neg : UnJ X W (unaryOp .USub) negP := fun pins s σ H B ρ μ G a va u q x Q J R ra ru h gv gx => by
  cases a <;> first | exact h.elim | exact un_neg pins s σ H va u Q J ru ⟨_, ra.int_inv, gv _ _ _ _ _ h (.refl R.ok) (rep_int _)⟩
end
def seqOf (μ : Mu) : PV → Option (Bool × List PV)
  | .lst xs => some (false, xs)
  | .tup xs => some (true, xs)
  | .cell a => match μ a with
    | some (.lst xs) => some (false, xs)
    | _ => none
  | _ => none
theorem seq_ok {K : Frg} {B : BX} {μ : Mu} {G H : Hp} {p : PV} {v : V} {t : Bool} {xs : List PV} (o : Ok K B μ G H) (r : Rep K B G p v) (h : seqOf μ p = some (t, xs)) :
    ∃ a vs, v = .ref a ∧ Reps K B G xs vs ∧ ((t = false ∧ H a = some (.lst vs)) ∨ (t = true ∧ SqT K H a vs)) := by
  cases p with
  | lst ys =>
    cases h
    obtain ⟨a, vs, e, g, rs⟩ := r.lst_inv
    exact ⟨a, vs, e, rs, .inl ⟨rfl, o.sub _ _ g⟩⟩
  | tup ys =>
    cases h
    obtain ⟨a, vs, e, g, rs⟩ := r.tup_inv
    exact ⟨a, vs, e, rs, .inr ⟨rfl, o.sub.t g⟩⟩
  | cell a =>
    have h : (match μ a with | some (.lst xs) => some (false, xs) | _ => none) = some (t, xs) := h
    cases e : μ a with
    | none => rw [e] at h; cases h
    | some c =>
      rw [e] at h
      cases c with
      | lst ys =>
        cases h
        obtain ⟨_, _, u, e1, vs, rfl, rs⟩ := o.cell a _ e
        exact ⟨a, vs, r.cell_inv, rs, .inl ⟨rfl, e1⟩⟩
      | _ => cases h
  | _ => cases h
def onI (f : Int → Int → (PV → Prop) → Prop) : F2 := fun _ a b q => match a with
  | .int i => (match b with
    | .int j => f i j q
    | _ => False)
  | _ => False
theorem onI_inv {f : Int → Int → (PV → Prop) → Prop} {μ : Mu} {a b : PV} {q : PV → Prop} (h : onI f μ a b q) : ∃ i j, a = .int i ∧ b = .int j ∧ f i j q := by
  cases a <;> try exact False.elim h
  cases b <;> first | exact ⟨_, _, rfl, rfl, h⟩ | exact False.elim h
theorem pop_I {K : Frg} (g : Int → Int → Int) : POp K (rI0 fun i j => .int (g i j)) (onI fun i j q => q (.int (g i j))) := fun B μ G H a b va vb q Q o ra rb h gv => by
  obtain ⟨i, j, rfl, rfl, hq⟩ := onI_inv h
  exact ⟨i, j, ra.int_inv, rb.int_inv, gv _ _ _ _ hq (.refl o) (rep_int _)⟩
theorem pop_IC {K : Frg} {C : Int → Int → Prop} (g : Int → Int → Int) : POp K (rI C fun i j => .int (g i j)) (onI fun i j q => C i j ∧ q (.int (g i j))) := fun B μ G H a b va vb q Q o ra rb h gv => by
  obtain ⟨i, j, rfl, rfl, hc, hq⟩ := onI_inv h
  exact ⟨i, j, ra.int_inv, rb.int_inv, hc, gv _ _ _ _ hq (.refl o) (rep_int _)⟩
theorem pop_IB {K : Frg} (g : Int → Int → Bool) : POp K (rI0 fun i j => .bl (g i j)) (onI fun i j q => q (.bl (g i j))) := fun B μ G H a b va vb q Q o ra rb h gv => by
  obtain ⟨i, j, rfl, rfl, hq⟩ := onI_inv h
  exact ⟨i, j, ra.int_inv, rb.int_inv, gv _ _ _ _ hq (.refl o) (rep_bl _)⟩
abbrev subP : F2 := onI fun i j q => q (.int (i - j))
abbrev andP : F2 := onI fun i j q => q (.int (Builtin.bitAnd i j))
abbrev orP : F2 := onI fun i j q => q (.int (Builtin.bitOr i j))
abbrev xorP : F2 := onI fun i j q => q (.int (Builtin.bitXor i j))
abbrev modP : F2 := onI fun i j q => 0 < j ∧ q (.int (i % j))
abbrev divP : F2 := onI fun i j q => CDiv i j ∧ q (.int (i / j))
abbrev powP : F2 := onI fun i j q => CPow i j ∧ q (.int (i ^ j.toNat))
abbrev shlP : F2 := onI fun i j q => CPow i j ∧ q (.int (i * 2 ^ j.toNat))
abbrev shrP : F2 := onI fun i j q => 0 ≤ j ∧ q (.int (i / 2 ^ j.toNat))
abbrev ltI : F2 := onI fun i j q => q (.bl (decide (i < j)))
abbrev leI : F2 := onI fun i j q => q (.bl (decide (i ≤ j)))
abbrev gtI : F2 := onI fun i j q => q (.bl (decide (j < i)))
abbrev geI : F2 := onI fun i j q => q (.bl (decide (j ≤ i)))
/-- xs + ys -/
def catP : F2 := fun μ a b q => match seqOf μ a with
  | some (t, xs) => (match seqOf μ b with
    | some (u, ys) => t = u ∧ xs.length + ys.length ≤ sizeLine ∧ q (if t then .tup (xs ++ ys) else .lst (xs ++ ys))
    | none => False)
  | none => False
theorem catP_inv {μ : Mu} {a b : PV} {q : PV → Prop} (h : catP μ a b q) : ∃ t xs ys, seqOf μ a = some (t, xs) ∧ seqOf μ b = some (t, ys) ∧ xs.length + ys.length ≤ sizeLine ∧ q (if t then .tup (xs ++ ys) else .lst (xs ++ ys)) := by
  unfold catP at h
  cases e : seqOf μ a with
  | none => rw [e] at h; exact h.elim
  | some z =>
    obtain ⟨t, xs⟩ := z
    rw [e] at h
    cases e2 : seqOf μ b with
    | none => simp only [e2] at h
    | some z2 =>
      obtain ⟨u, ys⟩ := z2
      simp only [e2] at h
      obtain ⟨rfl, h1, h2⟩ := h
      exact ⟨t, xs, ys, rfl, rfl, h1, h2⟩
def addP : F2 := fun μ a b q => match a with
  | .int i => (match b with
    | .int j => q (.int (i + j))
    | _ => False)
  | .str i => (match b with
    | .str j => i.length + j.length ≤ sizeLine ∧ q (.str (i ++ j))
    | _ => False)
  | a => catP μ a b q
def onS (f : Str → Str → (PV → Prop) → Prop) : F2 := fun _ a b q => match a with
  | .str i => (match b with
    | .str j => f i j q
    | _ => False)
  | _ => False
theorem onS_inv {f : Str → Str → (PV → Prop) → Prop} {μ : Mu} {a b : PV} {q : PV → Prop} (h : onS f μ a b q) : ∃ i j, a = .str i ∧ b = .str j ∧ f i j q := by
  cases a <;> try exact False.elim h
  cases b <;> first | exact ⟨_, _, rfl, rfl, h⟩ | exact False.elim h
theorem pop_addS {K : Frg} : POp K (fun x y H Q => ∃ i j, x = .str i ∧ y = .str j ∧ i.length + j.length ≤ sizeLine ∧ Q (.str (i ++ j)) H) (onS fun i j q => i.length + j.length ≤ sizeLine ∧ q (.str (i ++ j))) := fun B μ G H a b va vb q Q o ra rb h gv => by
  obtain ⟨i, j, rfl, rfl, h1, hq⟩ := onS_inv h
  exact ⟨i, j, ra.str_inv, rb.str_inv, h1, gv _ _ _ _ hq (.refl o) (rep_str _)⟩
section
variable {X : Cx} {W : WX}
theorem pop_catL {K : Frg} : POp K rCat (fun μ a b q => ∃ xs ys, seqOf μ a = some (false, xs) ∧ seqOf μ b = some (false, ys) ∧ xs.length + ys.length ≤ sizeLine ∧ q (.lst (xs ++ ys))) := fun B μ G H a b va vb q Q o ra rb ⟨xs, ys, e1, e2, hl, hq⟩ gv => by
  obtain ⟨p1, vs, rfl, rs, h1⟩ := seq_ok o ra e1
  obtain ⟨p2, ws, rfl, rs2, h2⟩ := seq_ok o rb e2
  have h1 : H p1 = some (.lst vs) := by rcases h1 with h | h; exact h.2; cases h.1
  have h2 : H p2 = some (.lst ws) := by rcases h2 with h | h; exact h.2; cases h.1
  refine ⟨p1, p2, vs, ws, rfl, rfl, h1, h2, by rw [rs.length, rs2.length]; exact hl, fun p hp => ?_⟩
  have g := o.new1 (u := .lst (vs ++ ws)) hp
  exact gv _ _ _ _ hq g (rep_lst upd_same ((rs.append rs2).mono g.gx))
theorem pop_catT {K : Frg} : POp K (rCatA K) (fun μ a b q => ∃ xs ys, seqOf μ a = some (true, xs) ∧ seqOf μ b = some (true, ys) ∧ xs.length + ys.length ≤ sizeLine ∧ q (.tup (xs ++ ys))) := fun B μ G H a b va vb q Q o ra rb ⟨xs, ys, e1, e2, hl, hq⟩ gv => by
  cases a with
  | tup xs' =>
    cases b with
    | tup ys' =>
      cases e1
      cases e2
      obtain ⟨p1, vs, rfl, h1, rs⟩ := ra.tup_inv
      obtain ⟨p2, ws, rfl, h2, rs2⟩ := rb.tup_inv
      refine ⟨p1, p2, vs, ws, rfl, rfl, o.sub.t h1, o.sub.t h2, by rw [rs.length, rs2.length]; exact hl, fun e => ?_, fun n e => ?_, fun n m p hp => ?_⟩
      · subst e
        have l := rs.length
        have : xs = [] := List.eq_nil_of_length_eq_zero l.symm
        subst this
        exact gv _ _ _ _ hq (.refl o) rb
      · subst e
        have l := rs2.length
        have : ys = [] := List.eq_nil_of_length_eq_zero l.symm
        subst this
        rw [List.append_nil] at hq
        exact gv _ _ _ _ hq (.refl o) ra
      · have g := o.new1 (u := .tup (vs ++ ws)) hp
        exact gv _ _ _ _ hq g (rep_tup upd_same ((rs.append rs2).mono g.gx))
    | cell c =>
      have e2 : (match μ c with | some (.lst xs) => some (false, xs) | _ => none) = some (true, ys) := e2
      split at e2 <;> cases e2
    | _ => cases e2
  | cell c =>
    have e1 : (match μ c with | some (.lst xs) => some (false, xs) | _ => none) = some (true, xs) := e1
    split at e1 <;> cases e1
  | _ => cases e1
theorem oj_add : OpJ X W (binaryOp .Add) (fo addP) := by
  refine OpJ.or (OpJ.of op_add (pop_I _)) (OpJ.or (OpJ.of op_add_str pop_addS) (OpJ.or (OpJ.of op_cat pop_catL) (OpJ.of op_catA pop_catT) (h := fo catP) fun a b μ q x h => ?_) (h := fun a b μ q x => fo (onS fun i j q => i.length + j.length ≤ sizeLine ∧ q (.str (i ++ j))) a b μ q x ∨ fo catP a b μ q x) fun a b μ q x h => h) fun a b μ q x h => ?_
  · obtain ⟨t, xs, ys, e1, e2, h1, h2⟩ := catP_inv h
    cases t
    · exact .inl ⟨xs, ys, e1, e2, h1, h2⟩
    · exact .inr ⟨xs, ys, e1, e2, h1, h2⟩
  · cases a with
    | int i => exact .inl h
    | str i => exact .inr (.inl h)
    | _ => exact .inr (.inr h)
theorem oj_sub : OpJ X W (binaryOp .Sub) (fo subP) := .of op_sub (pop_I _)
theorem oj_mod : OpJ X W (binaryOp .Mod) (fo modP) := .of op_mod (pop_IC _)
theorem oj_div : OpJ X W (binaryOp .FloorDiv) (fo divP) := .of op_fdiv (pop_IC _)
theorem oj_pow : OpJ X W (binaryOp .Pow) (fo powP) := .of op_pow (pop_IC _)
theorem oj_shl : OpJ X W (binaryOp .LShift) (fo shlP) := .of op_shl (pop_IC _)
theorem oj_shr : OpJ X W (binaryOp .RShift) (fo shrP) := .of op_shr (pop_IC _)
theorem oj_and : OpJ X W (binaryOp .BitAnd) (fo andP) := .of op_and (pop_I _)
theorem oj_or : OpJ X W (binaryOp .BitOr) (fo orP) := .of op_or (pop_I _)
theorem oj_xor : OpJ X W (binaryOp .BitXor) (fo xorP) := .of op_xor (pop_I _)
/-- a * b: ints; a list repeated -/
def mulP : F2 := fun μ a b q => match b with
  | .int j => (match a with
    | .int i => CMul i j ∧ q (.int (i * j))
    | a => (match seqOf μ a with
      | some (false, xs) => 0 ≤ j ∧ j < 2 ^ 63 ∧ xs.length * j.toNat ≤ sizeLine ∧ q (.lst (List.replicate j.toNat xs).flatten)
      | _ => False))
  | _ => False
theorem Reps.flat {K : Frg} {B : BX} {G : Hp} {xs : List PV} {vs : List V} (r : Reps K B G xs vs) : ∀ n : Nat, Reps K B G (List.replicate n xs).flatten (List.replicate n vs).flatten
  | 0 => .nil
  | n + 1 => by rw [List.replicate_succ, List.replicate_succ, List.flatten_cons, List.flatten_cons]; exact r.append (r.flat n)
theorem pop_rep {K : Frg} : POp K rRep (fun μ a b q => ∃ xs j, b = .int j ∧ seqOf μ a = some (false, xs) ∧ 0 ≤ j ∧ j < 2 ^ 63 ∧ xs.length * j.toNat ≤ sizeLine ∧ q (.lst (List.replicate j.toNat xs).flatten)) := fun B μ G H a b va vb q Q o ra rb ⟨xs, j, e, e1, j0, j1, hl, hq⟩ gv => by
  subst e
  obtain ⟨p1, vs, rfl, rs, h1⟩ := seq_ok o ra e1
  have h1 : H p1 = some (.lst vs) := by rcases h1 with h | h; exact h.2; cases h.1
  refine ⟨p1, j, vs, rfl, rb.int_inv, h1, by omega, j1, by rw [rs.length]; exact hl, fun p hp => ?_⟩
  have g := o.new1 (u := .lst (List.replicate j.toNat vs).flatten) hp
  exact gv _ _ _ _ hq g (rep_lst upd_same ((rs.flat _).mono g.gx))
theorem oj_mul : OpJ X W (binaryOp .Mult) (fo mulP) := by
  refine OpJ.or (OpJ.of op_mul (pop_IC _)) (OpJ.of op_rep pop_rep) fun a b μ q x h => ?_
  cases b with
  | int j =>
    have rest : ∀ a : PV, (match seqOf μ a with | some (false, xs) => 0 ≤ j ∧ j < 2 ^ 63 ∧ xs.length * j.toNat ≤ sizeLine ∧ q (.lst (List.replicate j.toNat xs).flatten) μ | _ => False) → ∃ xs j', PV.int j = .int j' ∧ seqOf μ a = some (false, xs) ∧ 0 ≤ j' ∧ j' < 2 ^ 63 ∧ xs.length * j'.toNat ≤ sizeLine ∧ q (.lst (List.replicate j'.toNat xs).flatten) μ := fun a h => by
      cases e : seqOf μ a with
      | none => rw [e] at h; exact h.elim
      | some z =>
        obtain ⟨t, xs⟩ := z
        rw [e] at h
        cases t
        · exact ⟨xs, j, rfl, rfl, h⟩
        · exact h.elim
    cases a with
    | int i => exact .inl h
    | _ => exact .inr (rest _ h)
  | _ => exact h.elim
theorem oj_le : OpJ X W (compareOp .LtE) (fo leI) := .of op_le (pop_IB _)
theorem oj_ge : OpJ X W (compareOp .GtE) (fo geI) := .of op_ge (pop_IB _)
theorem oj_gt : OpJ X W (compareOp .Gt) (fo gtI) := .of op_gt (pop_IB _)
/-- a < b: ints, texts -/
def ltP : F2 := fun μ a b q => match a with
  | .str i => (match b with
    | .str j => q (.bl (decide (i.cps.toList < j.cps.toList)))
    | _ => False)
  | a => ltI μ a b q
theorem pop_ltS {K : Frg} : POp K (fun x y H Q => ∃ i j : Str, x = .str i ∧ y = .str j ∧ Q (.bl (decide (i.cps.toList < j.cps.toList))) H) (onS fun i j q => q (.bl (decide (i.cps.toList < j.cps.toList)))) := fun B μ G H a b va vb q Q o ra rb h gv => by
  obtain ⟨i, j, rfl, rfl, hq⟩ := onS_inv h
  exact ⟨i, j, ra.str_inv, rb.str_inv, gv _ _ _ _ hq (.refl o) (rep_bl _)⟩
theorem oj_lt : OpJ X W (compareOp .Lt) (fo ltP) := by
  refine OpJ.or (OpJ.of op_lt (pop_IB _)) (OpJ.of op_lt_str pop_ltS) fun a b μ q x h => ?_
  cases a with
  | str i => exact .inr h
  | _ => exact .inl h
end
end Px
namespace Px
open PySem PySem.Spec PyProof.Rows L2
def dNil : DA := fun _ μ q _ => q [] μ
def dCons (d : DE) (ds : DA) : DA := fun ρ μ q x => d ρ μ (fun p μ1 => ds ρ μ1 (fun ps μ2 => q (p :: ps) μ2) x) x
def dStar (d : DE) (ds : DA) : DA := fun ρ μ q x => d ρ μ (fun p μ1 => match seqOf μ1 p with
  | some (_, xs) => ds ρ μ1 (fun ps μ2 => q (xs ++ ps) μ2) x
  | none => False) x
def dTup (ds : DA) : DE := fun ρ μ q x => ds ρ μ (fun ps μ1 => ps.length ≤ sizeLine ∧ q (.tup ps) μ1) x
/-- an expression that gives a new list, held by nobody -/
abbrev DL := En → Mu → (List PV → Mu → Prop) → QX → Prop
def GoodL (K : Frg) (B : BX) (μ : Mu) (G H : Hp) (q : List PV → Mu → Prop) (Q : VK) : Prop := ∀ ps l vs μ' G' H', q ps μ' → Go K B μ G H μ' G' H' → H l = none → G' l = none → μ' l = none → H' l = some (.lst vs) → Reps K B G' ps vs → Q (.ref l) H'
def tL (K : Frg) (W : WX) (d : DL) : TE := fun σ H Q => ∃ (B : BX) (ρ : En) (μ : Mu) (G : Hp) (q : List PV → Mu → Prop) (x : QX), Rel K B ρ μ σ G H ∧ d ρ μ q x ∧ GoodL K B μ G H q Q ∧ GoodX K W B μ G H σ x
abbrev LJ (X : Cx) (W : WX) (e : Expr) (d : DL) : Prop := PE X e (tL X.K W d)
/-- it is never changed -/
def dLst (d : DL) : DE := fun ρ μ q x => d ρ μ (fun ps μ1 => q (.lst ps) μ1) x
/-- it gets a cell -/
def dNew (d : DL) : DE := fun ρ μ q x => d ρ μ (fun ps μ1 => ∀ a, μ1 a = none → q (.cell a) (μ1.put a (.lst ps))) x
def lDisp (ds : DA) : DL := fun ρ μ q x => ds ρ μ (fun ps μ1 => ps.length ≤ sizeLine ∧ q ps μ1) x
section
variable {X : Cx} {W : WX} {pos : Pos} {e : Expr} {es : List Expr} {d : DE} {ds : DA} {dl : DL}
theorem a_nil : AJ X W [] dNil := pa_imp pa_nil fun σ H Q ⟨B, ρ, μ, G, q, x, R, h, gv, gx⟩ => gv [] [] μ G H h (.refl R.ok) .nil
theorem a_cons (he : EJ X W e d) (hs : AJ X W es ds) (h1 : starEach (e :: es) X.env = (false, eval e X.env) :: starEach es X.env := by rfl) : AJ X W (e :: es) (dCons d ds) := pa_imp (pa_cons he hs h1) fun σ H Q ⟨B, ρ, μ, G, q, x, R, h, gv, gx⟩ =>
  ⟨B, ρ, μ, G, _, x, R, h, fun p v μ1 G1 H1 h1 g1 r1 => ⟨B, ρ, μ1, G1, _, x, R.go g1, h1, fun ps vs μ2 G2 H2 h2 g2 r2 => gv (p :: ps) (v :: vs) μ2 G2 H2 h2 (g1.trans g2) (.cons (r1.mono g2.gx) r2), gx.go g1⟩, gx⟩
theorem e_tup {n : Nat} (hs : AJ X W es ds) : EJ X W (.Tuple es n pos) (dTup ds) := pe_imp (pe_tup hs) fun σ H Q ⟨B, ρ, μ, G, q, x, R, h, gv, gx⟩ =>
  ⟨B, ρ, μ, G, _, x, R, h, fun ps vs μ1 G1 H1 ⟨l1, h1⟩ g1 r1 => ⟨by rw [r1.length]; exact l1, fun p hp => by
    have g2 := g1.ok.new1 (u := .tup vs) hp
    exact gv _ _ _ _ _ h1 (g1.trans g2) (rep_tup upd_same (r1.mono g2.gx))⟩, gx⟩
theorem l_disp (hs : AJ X W es ds) : LJ X W (.List es pos) (lDisp ds) := pe_imp (pe_lst hs) fun σ H Q ⟨B, ρ, μ, G, q, x, R, h, gv, gx⟩ =>
  ⟨B, ρ, μ, G, _, x, R, h, fun ps vs μ1 G1 H1 ⟨l1, h1⟩ g1 r1 => ⟨by rw [r1.length]; exact l1, fun p hp => by
    have g2 := g1.ok.new2 (u := .lst vs) hp
    exact gv ps p vs μ1 G1 _ h1 (g1.trans g2) (g1.st.dom p hp) (g1.ok.sub.free hp) (g1.ok.freeM hp) upd_same r1⟩, gx⟩
/-- a new list that is never changed -/
theorem e_new (h : LJ X W e dl) : EJ X W e (dLst dl) := pe_imp h fun σ H Q ⟨B, ρ, μ, G, q, x, R, h, gv, gx⟩ =>
  ⟨B, ρ, μ, G, _, x, R, h, fun ps l vs μ1 G1 H1 h1 g1 hl gl ml h2 r1 => gv _ _ _ _ _ h1 (g1.take1 hl h2 gl ml (R.ok.notB hl)) (rep_lst upd_same (r1.mono (.upd gl))), gx⟩
/-- a new list that may be changed -/
theorem e_newC (h : LJ X W e dl) : EJ X W e (dNew dl) := pe_imp h fun σ H Q ⟨B, ρ, μ, G, q, x, R, h, gv, gx⟩ =>
  ⟨B, ρ, μ, G, _, x, R, h, fun ps l vs μ1 G1 H1 h1 g1 hl gl ml h2 r1 => gv _ _ _ _ _ (h1 l ml) (g1.take hl h2 gl (R.ok.notB hl) ⟨vs, rfl, r1⟩) (rep_cell l), gx⟩
/-- a list's cell is no longer changed -/
def frzP (p : PV) (μ : Mu) (q : QV) : Prop := match p with
  | .cell a => (match μ a with
    | some (.lst xs) => q (.lst xs) (μ.del a)
    | some (.dK ks xs) => q (.dK ks xs) (μ.del a)
    | some (.dT ks xs) => q (.dT ks xs) (μ.del a)
    | _ => False)
  | _ => False
def dFrz (d : DE) : DE := fun ρ μ q x => d ρ μ (fun p μ1 => frzP p μ1 q) x
theorem rep_dK {K : Frg} {B : BX} {G : Hp} {a : Addr} {ks : List Key} {xs : List PV} {vs : List V} {o : Obj} (h : G a = some (.frz o (.dK (ks.zip vs)))) (l : vs.length = ks.length) (r : Reps K B G xs vs) : Rep K B G (.dK ks xs) (.ref a) := by
  simp only [Rep]; exact ⟨a, vs, o, rfl, h, l, r⟩
theorem rep_dT {K : Frg} {B : BX} {G : Hp} {a : Addr} {ks : List (List Key)} {xs : List PV} {vs : List V} {o : Obj} (h : G a = some (.frz o (.dT (ks.zip vs)))) (l : vs.length = ks.length) (r : Reps K B G xs vs) : Rep K B G (.dT ks xs) (.ref a) := by
  simp only [Rep]; exact ⟨a, vs, o, rfl, h, l, r⟩
theorem e_frz (h : EJ X W e d) : EJ X W e (dFrz d) := by
  refine ⟨fun pins s σ H Q J ⟨B, ρ, μ, G, q, x, R, h0, gv, gx⟩ => ?_⟩
  refine thn (h.run pins s σ H (fun v H1 => ∃ μ1 G1 p, Go X.K B μ G H μ1 G1 H1 ∧ Rep X.K B G1 p v ∧ frzP p μ1 q) J ⟨B, ρ, μ, G, _, x, R, h0, fun p v μ1 G1 H1 h1 g1 r1 => ⟨μ1, G1, p, g1, r1, h1⟩, gx⟩) fun u s1 ⟨v, H1, J1, rv, μ1, G1, p, g1, r1, h1⟩ => ?_
  cases p with
  | cell a =>
    unfold frzP at h1
    cases e : μ1 a with
    | none => simp only [e] at h1
    | some c =>
      simp only [e] at h1
      obtain ⟨ga, nb, u, ha, ck⟩ := g1.ok.cell a c e
      have mp : μ1 a ≠ none := by rw [e]; intro z; cases z
      have hv := r1.cell_inv
      subst hv
      cases c with
      | lst xs =>
        have gf := g1.ok.goFrz mp ha ga nb ck.nt
        obtain ⟨vs, rfl, rs⟩ := ck
        exact ⟨_, H1, J1, rv, gv _ _ _ _ _ h1 (g1.trans gf) (rep_lst upd_same (rs.mono gf.gx))⟩
      | ins c fs => exact h1.elim
      | dK ks xs =>
        have nt := ck.nt
        obtain ⟨vs, rfl, l, rs⟩ := ck
        obtain ⟨ob, J2⟩ := J1.lock ha trivial
        have gf := g1.ok.goFrzD ob mp ha ga nb nt
        exact ⟨_, _, J2, rv, gv _ _ _ _ _ h1 (g1.trans gf) (rep_dK upd_same l (rs.mono gf.gx))⟩
      | dT ks xs =>
        have nt := ck.nt
        obtain ⟨vs, rfl, l, rs⟩ := ck
        obtain ⟨ob, J2⟩ := J1.lock ha trivial
        have gf := g1.ok.goFrzD ob mp ha ga nb nt
        exact ⟨_, _, J2, rv, gv _ _ _ _ _ h1 (g1.trans gf) (rep_dT upd_same l (rs.mono gf.gx))⟩
  | _ => exact h1.elim
end
/-- arguments ps; q: wanted of the value, x: wanted of what is raised -/
def spP (K : Frg) (c : Ct) : Sp := fun vs H Q E => ∃ (B : BX) (μ : Mu) (G : Hp) (ps : List PV) (q : QV) (x : QX), Ok K B μ G H ∧ Reps K B G ps vs ∧ c ps μ q x ∧ GoodV K B μ G H q Q ∧
  (∀ xv d μ' G' H', x xv μ' → Go K B μ G H μ' G' H' → XRep K B G' xv d → E (.ref (ca K xv.1)) d H')
/-- the def at f, called with keywords ks (their values behind the others): hot: also while an exception is handled -/
def FnS (hot : Bool) (P : Program) (w : World) (K : Frg) (mg : Str → Option Value) (base : Heap) (k : Nat) (f : Addr) (ks : List Str) (sp : Sp) : Prop :=
  ∀ (A : Around) (outer : List Env) (s : Shared) (H : Hp) (us ws : List Value) (vs : List V) (Q : VK) (E : XK), (A.handled = none ∨ (hot = true ∧ ∃ p, L2H.Hot1 A p ∧ L2H.PinOk outer H s p)) → Rm k A → Env0 P w K mg base A outer s H →
    ws.length = ks.length → Vals vs (us ++ ws) → sp vs H Q E → codeAny (model P w) A (.call (.ref f) ⟨us, ks.zip ws⟩) (CR (CXI K P w) outer P w H s Q E) s
theorem FnS.up {hot : Bool} {P : Program} {w : World} {K : Frg} {mg : Str → Option Value} {base : Heap} {k j : Nat} {f : Addr} {ks : List Str} {sp : Sp} (F : FnS hot P w K mg base k f ks sp) (h : k ≤ j) : FnS hot P w K mg base j f ks sp :=
  fun A outer s H us ws vs Q E hm hr => F A outer s H us ws vs Q E hm (hr.mono h)
/-- how one stands: nothing is being handled, or it is known -/
def Md (X : Cx) (hot : Bool) : Prop := X.calm = true ∨ (hot = true ∧ L2H.HotC X)
section
variable {X : Cx} {W : WX} {hot : Bool} {k : Nat} {f : Addr} {ks : List Str} {sp : Sp} {c : Ct}
theorem run_s {pins : List (Addr × Obj)} {σ : L2.St} {H : Hp} {s : Shared} {Q : VK} {us ws : List Value} {vs : List V} (Fn : FnS hot X.prog X.w X.K X.mg X.base k f ks sp) (md : Md X hot) (hr : Rm k X.A) (tk : TkI X W) (J : Inv X pins σ H s)
    (hl : ws.length = ks.length) (r : Vals vs (us ++ ws)) (h : sp vs H Q (fun cls d H' => W cls d σ H')) : wpAny (model X.prog X.w) X.A (call (.ref f) us (ks.zip ws)) (EP X pins σ Q) X.xe s := by
  have hm : X.A.handled = none ∨ (hot = true ∧ ∃ p, L2H.Hot1 X.A p ∧ L2H.PinOk X.stack H s p) := by
    rcases md with z | ⟨z, p, hp, mem⟩
    · exact .inl (J.ok.hd z)
    · have P1 := J.pin p (List.mem_append_left _ mem)
      exact .inr ⟨z, p, hp, ⟨P1.1, P1.2.1, fun hq => (List.mem_cons.mp (J.stkSub p.1 hq)).elim P1.2.2.1 P1.2.2.2.1, P1.2.2.2.2⟩⟩
  refine wpAny_call (codeAny_mono (Fn X.A X.stack s H us ws vs Q _ hm hr J.env0 hl r h) fun rr s' hq => ?_)
  cases rr with
  | error er => exact tk er s' (XI.of_call J (fun _ _ _ z => z) hq)
  | ok fl =>
    cases fl with
    | ret u => exact J.after hq
    | next => exact False.elim hq
    | brk => exact False.elim hq
    | cont => exact False.elim hq
/-- the promise, from the caller's state -/
theorem spP_of {K : Frg} {B : BX} {ρ : En} {σ : L2.St} {μ : Mu} {G H : Hp} {ps : List PV} {vs : List V} {q : QV} {x : QX} {Q : VK} (R : Rel K B ρ μ σ G H) (r : Reps K B G ps vs) (h : c ps μ q x) (gv : GoodV K B μ G H q Q) (gx : GoodX K W B μ G H σ x) :
    spP K c vs H Q (fun cls d H' => W cls d σ H') := ⟨B, μ, G, ps, q, x, R.ok, r, h, gv, fun xv d μ' G' H' hp g rr => gx xv d μ' G' H' hp g rr⟩
end
def dCall (c : Ct) (ds : DA) : DE := fun ρ μ q x => ds ρ μ (fun ps μ1 => c ps μ1 q x) x
section
variable {X : Cx} {W : WX} {hot : Bool} {k : Nat} {f : Addr} {ks : List Str} {c : Ct} {x : Str} {p0 pos : Pos} {e : Expr} {es : List Expr} {kws : List Keyword} {ds dk : DA}
theorem e_call (Fn : FnS hot X.prog X.w X.K X.mg X.base k f [] (spP X.K c)) (md : Md X hot) (hr : Rm k X.A) (tk : TkI X W) (hm : X.mg x = some (.ref f)) (hk : PySem.W.keepIn X.K (.ref f) = true) (ha : AJ X W (e :: es) ds) (hg : Gl X x := by rfl)
    (h1 : (x == ("__debug__" : Str)) = false := by decide) (h2 : starEach (e :: es) X.env = (false, eval e X.env) :: starEach es X.env := by rfl) (h3 : (backTo pos (starEach es X.env)).any (·.1) = false := by rfl) : EJ X W (.Call (.Name x p0) (e :: es) [] pos) (dCall c ds) := by
  refine ⟨fun pins s σ H Q J ⟨B, ρ, μ, G, q, z, R, h, gv, gx⟩ => ?_⟩
  refine wpAny_Call_Name_kw (ld_glob J hg hm ?_ h1)
  refine PySem.W.callWith_K (h₀ := X.base) J.ok.mod.kin hk (thn (ha.run pos pins s σ H (fun vs H1 => spP X.K c vs H1 Q fun cls d H' => W cls d σ H') J ⟨B, ρ, μ, G, _, z, R, h, fun ps vs μ1 G1 H1 h1 g1 r1 => spP_of (R.go g1) r1 h1 (gv.go g1) (gx.go g1), gx⟩) fun us s1 ⟨vs, H1, J1, r, q1⟩ => ⟨J1.kIn, ?_⟩) h2 h3
  exact run_s (ws := []) Fn md hr tk J1 rfl (by rw [List.append_nil]; exact r) q1
end
end Px
namespace Px
open PySem PySem.Spec PyProof.Rows L2
structure DEn where
  nx : En → Mu → Prop
  rt : QV
  bk : En → Mu → Prop := fun _ _ => False
  ct : En → Mu → Prop := fun _ _ => False
  xc : XV → En → Mu → Prop := fun _ _ _ => False
abbrev DS := DEn → En → Mu → Prop
structure EndsOk (K : Frg) (W : WX) (B : BX) (μ : Mu) (G H : Hp) (P : DEn) (D : Ends) : Prop where
  nx : ∀ ρ σ μ' G' H', P.nx ρ μ' → Rel K B ρ μ' σ G' H' → Go K B μ G H μ' G' H' → D.nx σ H'
  rt : ∀ p v μ' G' H', P.rt p μ' → Go K B μ G H μ' G' H' → Rep K B G' p v → D.rt v H'
  bk : ∀ ρ σ μ' G' H', P.bk ρ μ' → Rel K B ρ μ' σ G' H' → Go K B μ G H μ' G' H' → D.bk σ H'
  ct : ∀ ρ σ μ' G' H', P.ct ρ μ' → Rel K B ρ μ' σ G' H' → Go K B μ G H μ' G' H' → D.ct σ H'
  xc : ∀ xv d ρ σ μ' G' H', P.xc xv ρ μ' → Rel K B ρ μ' σ G' H' → Go K B μ G H μ' G' H' → XRep K B G' xv d → W (.ref (ca K xv.1)) d σ H'
theorem EndsOk.go {K : Frg} {W : WX} {B : BX} {μ μ1 : Mu} {G H G1 H1 : Hp} {P : DEn} {D : Ends} (e : EndsOk K W B μ G H P D) (g : Go K B μ G H μ1 G1 H1) : EndsOk K W B μ1 G1 H1 P D :=
  ⟨fun ρ σ μ' G' H' h R z => e.nx ρ σ μ' G' H' h R (g.trans z), fun p v μ' G' H' h z r => e.rt p v μ' G' H' h (g.trans z) r, fun ρ σ μ' G' H' h R z => e.bk ρ σ μ' G' H' h R (g.trans z), fun ρ σ μ' G' H' h R z => e.ct ρ σ μ' G' H' h R (g.trans z), fun xv d ρ σ μ' G' H' h R z r => e.xc xv d ρ σ μ' G' H' h R (g.trans z) r⟩
def tS (K : Frg) (W : WX) (d : DS) : TS := fun D σ H => ∃ (B : BX) (ρ : En) (μ : Mu) (G : Hp) (P : DEn), Rel K B ρ μ σ G H ∧ d P ρ μ ∧ EndsOk K W B μ G H P D
abbrev SJ (X : Cx) (W : WX) (st : Stmt) (d : DS) : Prop := PS X st (tS X.K W d)
abbrev BJ (X : Cx) (W : WX) (sts : List Stmt) (d : DS) : Prop := PSs X sts (tS X.K W d)
theorem ps_imp {X : Cx} {st : Stmt} {t t' : TS} (h : PS X st t) (i : ∀ D σ H, t' D σ H → t D σ H) : PS X st t' := ⟨fun pins s σ H D J z => h.run pins s σ H D J (i D σ H z)⟩
theorem pss_imp {X : Cx} {st : List Stmt} {t t' : TS} (h : PSs X st t) (i : ∀ D σ H, t' D σ H → t D σ H) : PSs X st t' := ⟨fun pins s σ H D J z => h.run pins s σ H D J (i D σ H z)⟩
theorem EndsOk.gx {K : Frg} {W : WX} {B : BX} {P : DEn} {D : Ends} {ρ : En} {μ : Mu} {σ : L2.St} {G H : Hp} (eo : EndsOk K W B μ G H P D) (R : Rel K B ρ μ σ G H) : GoodX K W B μ G H σ (fun xv μ' => P.xc xv ρ μ') := fun xv d μ' G' H' hx g r => eo.xc xv d ρ σ μ' G' H' hx (R.go g) g r
def dSeq (d e : DS) : DS := fun P ρ μ => d { P with nx := fun ρ' μ' => e P ρ' μ' } ρ μ
def dNext : DS := fun P ρ μ => P.nx ρ μ
def dSet (i : Nat) (d : DE) : DS := fun P ρ μ => d ρ μ (fun p μ' => P.nx (ρ.set i (some p)) μ') (fun xv μ' => P.xc xv ρ μ')
def dRet (d : DE) : DS := fun P ρ μ => d ρ μ P.rt (fun xv μ' => P.xc xv ρ μ')
def dDrop (d : DE) : DS := fun P ρ μ => d ρ μ (fun _ μ' => P.nx ρ μ') (fun xv μ' => P.xc xv ρ μ')
def dIfS (t : DT) (d e : DS) : DS := fun P ρ μ => t ρ μ (fun b μ' => br b (d P ρ μ') (e P ρ μ')) (fun xv μ' => P.xc xv ρ μ')
section
variable {X : Cx} {W : WX} {pos : Pos} {st : Stmt} {sts : List Stmt} {d e : DS}
theorem b_nil : BJ X W [] dNext := pss_imp pss_nil fun D σ H ⟨B, ρ, μ, G, P, R, h, eo⟩ => eo.nx ρ σ μ G H h R (.refl R.ok)
theorem b_cons (h1 : SJ X W st d) (h2 : BJ X W sts e) : BJ X W (st :: sts) (dSeq d e) := pss_imp (pss_cons h1 h2) fun D σ H ⟨B, ρ, μ, G, P, R, h, eo⟩ =>
  ⟨B, ρ, μ, G, _, R, h, ⟨fun ρ' σ' μ' G' H' h' R' g => ⟨B, ρ', μ', G', P, R', h', eo.go g⟩, eo.rt, eo.bk, eo.ct, eo.xc⟩⟩
theorem b_one (h1 : SJ X W st d) : BJ X W [st] d := pss_one h1
variable {ex : Expr} {de : DE}
theorem s_ret (h : EJ X W ex de) : SJ X W (.Return (some ex) pos) (dRet de) := ps_imp (ps_ret h) fun D σ H ⟨B, ρ, μ, G, P, R, h, eo⟩ => ⟨B, ρ, μ, G, _, _, R, h, fun p v μ' G' H' hp g r => eo.rt p v μ' G' H' hp g r, eo.gx R⟩
theorem s_expr (h : EJ X W ex de) (hs : swapsWith ex none pos.line X.env = pure false := by rfl) : SJ X W (.Expr ex pos) (dDrop de) := ps_imp (ps_expr h hs) fun D σ H ⟨B, ρ, μ, G, P, R, h, eo⟩ => ⟨B, ρ, μ, G, _, _, R, h, fun p v μ' G' H' hp g r => eo.nx ρ σ μ' G' H' hp (R.go g) g, eo.gx R⟩
theorem s_set (i : Nat) {x : Str} {p0 : Pos} (h : EJ X W ex de) (nd : X.N.Nodup) (hi : X.N[i]? = some x := by rfl) (hx : Loc X.env.scope x := by first | exact Or.inl rfl | exact Or.inr rfl) (hs : swapsWith ex (some (.Name x p0)) pos.line X.env = pure false := by rfl)
    (hf : X.fn x = true ∨ X.env.scope.names.lookup x = some .local := by first | exact .inl rfl | exact .inr rfl | assumption) : SJ X W (.Assign [.Name x p0] ex pos) (dSet i de) := ps_imp (ps_set (i := i) nd hi hx h hs hf) fun D σ H ⟨B, ρ, μ, G, P, R, h, eo⟩ =>
  ⟨B, ρ, μ, G, _, _, R, h, fun p v μ' G' H' hp g r => eo.nx _ _ μ' G' H' hp ((R.go g).set i r) g, eo.gx R⟩
variable {c : Expr} {a b : List Stmt} {tc : DT}
theorem s_if (hc : TJ X W c tc) (ha : BJ X W a d) (hb : BJ X W b e) : SJ X W (.If c a b pos) (dIfS tc d e) := ps_imp (ps_if hc ha hb) fun D σ H ⟨B, ρ, μ, G, P, R, h, eo⟩ =>
  ⟨B, ρ, μ, G, _, _, R, h, fun k μ' G' H' hp g => by
    cases k with
    | true => exact ⟨B, ρ, μ', G', P, R.go g, hp.t rfl, eo.go g⟩
    | false => exact ⟨B, ρ, μ', G', P, R.go g, hp.f rfl, eo.go g⟩, eo.gx R⟩
end
def startE (n : Nat) (ps : List PV) : En := ps.map some ++ List.replicate (n - ps.length) none
def endsOf (q : QV) (x : QX) : DEn := { nx := fun _ μ => q .non μ, rt := q, xc := fun xv _ μ => x xv μ }
theorem rel_start {K : Frg} {B : BX} {μ : Mu} {G H : Hp} {N : List Str} {ps : List PV} {vs : List V} (o : Ok K B μ G H) (r : Reps K B G ps vs) : Rel K B (startE N.length ps) μ (L2.start N vs) G H := by
  have hl := r.length
  refine ⟨o, ?_, fun i s e => ?_⟩
  · unfold startE L2.start
    simp only [List.length_append, List.length_map, List.length_replicate, hl]
  · unfold startE at e
    by_cases hi : i < ps.length
    · rw [List.getElem?_append_left (by simpa using hi), List.getElem?_map] at e
      have ex : ps[i]? = some ps[i] := List.getElem?_eq_getElem hi
      rw [ex] at e
      cases e
      obtain ⟨v, e1, e2⟩ := r.get ex
      refine ⟨v, ?_, e2⟩
      unfold L2.start
      rw [List.getElem?_append_left (by simpa [hl] using hi), List.getElem?_map, e1]
      rfl
    · rw [List.getElem?_append_right (by simpa using hi), List.getElem?_replicate] at e
      split at e <;> cases e
theorem body_of {K : Frg} {c : Ct} {d : DS} {N : List Str} {vs : List V} {H : Hp} {Q : VK} {E : XK} (hd : ∀ ps μ q x, c ps μ q x → d (endsOf q x) (startE N.length ps) μ) (h : spP K c vs H Q E) :
    tS K (fun cls dd _ H' => E cls dd H') d { nx := fun _ H' => Q .non H', rt := Q } (L2.start N vs) H := by
  obtain ⟨B, μ, G, ps, q, x, o, r, hc, hq, hx⟩ := h
  exact ⟨B, _, μ, G, endsOf q x, rel_start o r, hd ps μ q x hc, ⟨fun ρ σ μ' G' H' z R g => hq _ _ μ' G' H' z g rep_non, fun p v μ' G' H' z g rr => hq p v μ' G' H' z g rr, fun _ _ _ _ _ z => z.elim, fun _ _ _ _ _ z => z.elim, fun xv dd ρ σ μ' G' H' z R g rr => hx xv dd μ' G' H' z g rr⟩⟩
/-- the context of a def's body, calm or not -/
abbrev cxG (cm : Bool) (pn : List (Addr × Obj)) (P : Program) (w : World) (K : Frg) (mg : Str → Option Value) (base : Heap) (N : List Str) (qual : Str) (scope : Scope) (f : Addr) (cd : Value) (A : Around) (outer : List Env) (s : Shared) (H : Hp) (E : XK) : Cx :=
  { cxOf (CXI K P w) P w K mg base N qual scope f cd A outer s H E with calm := cm, pn := pn }
/-- the promise of a def over its bound parameters -/
structure FnO (hot : Bool) (P : Program) (w : World) (K : Frg) (mg : Str → Option Value) (base : Heap) (k : Nat) (f : Addr) (fd : FuncData) (ps : List Str) (sp : Sp) : Prop where
  calm : FnOkG P w K mg base (CXI K P w) k f fd ps sp
  hot : hot = true → FnHG P w K mg base (CXI K P w) k f fd ps sp
/-- what a body's derivation may use: W, how it stands, room for k calls, what is raised is taken -/
structure Here (hot : Bool) (X : Cx) (W : WX) (k : Nat) : Prop where
  md : Md X hot
  rm : Rm k X.A
  tk : TkI X W
  own : PassesOwn (model X.prog X.w) X.A X.env X.xe
section
variable {P : Program} {w : World} {K : Frg} {mg : Str → Option Value} {base : Heap} {x qual : Str} {params : Arguments} {body : List Stmt} {scope : Scope} {dvs : List V} {kws : List (Str × V)} {f : Addr} {fd : FuncData} {N ps : List Str} {k : Nat} {sp : Sp}
theorem here_of {hot : Bool} {cm : Bool} {pn : List (Addr × Obj)} {cd : Value} {A : Around} {outer : List Env} {s : Shared} {H : Hp} {E : XK} (hr : Rm k (A.deeper (envOfC qual scope s.heap.objs.size f cd))) (md : Md (cxG cm pn P w K mg base N qual scope f cd A outer s H E) hot) :
    Here hot (cxG cm pn P w K mg base N qual scope f cd A outer s H E) (fun cls dd _ H' => E cls dd H') k :=
  ⟨md, hr, takesI_of rfl rfl rfl rfl, L2.passes_of rfl⟩
/-- a def whose body is derived wherever it may stand -/
theorem fn_o (hot : Bool) (Fn : FunD K x qual params body scope dvs kws f fd) (S : FnScope N ps scope) (len : ∀ vs H Q E, sp vs H Q E → vs.length = ps.length)
    (h : ∀ (cm : Bool) (pn : List (Addr × Obj)) (cd : Value) (A : Around) (outer : List Env) (s : Shared) (H : Hp) (vs : List V) (Q : VK) (E : XK), (hot = false → cm = true) → Here hot (cxG cm pn P w K mg base N qual scope f cd A outer s H E) (fun cls dd _ H' => E cls dd H') k → sp vs H Q E →
      ∃ t, PSs (cxG cm pn P w K mg base N qual scope f cd A outer s H E) body t ∧ t { nx := fun _ H' => Q .non H', rt := Q } (L2.start N vs) H) : FnO hot P w K mg base (k + 1) f fd ps sp := by
  obtain ⟨oc, od, dV, kV, doc, pm, an, cdv, ct, osl, rfl, lk, hcd, _, _⟩ := Fn.ex
  refine ⟨fn_ofG lk hcd S len fun A outer s H vs Q E hr hs => h true [] cdv A outer s H vs Q E (fun _ => rfl) (here_of (rm_of hr) (.inl rfl)) hs, fun hh => ?_⟩
  refine fn_ofHG lk hcd S len fun A outer s H vs Q E p hot1 hr hs => ?_
  exact h false [p] cdv A outer s H vs Q E (fun z => by rw [hh] at z; cases z) (here_of hr (.inr ⟨hh, p, hot1, by exact List.mem_cons_self⟩)) hs
/-- the pure form -/
theorem fn_p (hot : Bool) (Fn : FunD K x qual params body scope dvs kws f fd) (S : FnScope N ps scope) (c : Ct) (d : DS) (len : ∀ as μ q z, c as μ q z → as.length = ps.length)
    (der : ∀ (cm : Bool) (pn : List (Addr × Obj)) (cd : Value) (A : Around) (outer : List Env) (s : Shared) (H : Hp) (E : XK), (hot = false → cm = true) → Here hot (cxG cm pn P w K mg base N qual scope f cd A outer s H E) (fun cls dd _ H' => E cls dd H') k →
      BJ (cxG cm pn P w K mg base N qual scope f cd A outer s H E) (fun cls dd _ H' => E cls dd H') body d)
    (pure_ : ∀ as μ q z, c as μ q z → d (endsOf q z) (startE N.length as) μ) : FnO hot P w K mg base (k + 1) f fd ps (spP K c) :=
  fn_o hot Fn S (fun vs H Q E ⟨B, μ, G, as, q, z, _, r, hc, _⟩ => by rw [r.length]; exact len as μ q z hc) fun cm pn cd A outer s H vs Q E hcm he hs => ⟨_, der cm pn cd A outer s H E hcm he, body_of pure_ hs⟩
/-- called with all its parameters by place -/
theorem FnO.s {hot : Bool} (Fn : FnO hot P w K mg base k f fd ps sp) (b : Binds K fd ps []) : FnS hot P w K mg base k f [] sp := fun A outer s H us ws vs Q E hm hr e0 hl r h => by
  have hw : ws = [] := List.eq_nil_of_length_eq_zero hl
  subst hw
  rw [List.append_nil] at r
  have KX : K.In s.heap := e0.mod.kin.keeps fun b o e => (e0.bs b o e).1
  have bb := b s us KX (by rw [List.append_nil, ← r.length]; exact Fn.calm.len _ _ _ _ h)
  rw [List.append_nil] at bb
  rcases hm with z | ⟨z, p, h1, h2⟩
  · exact Fn.calm.run A outer s H ⟨us, []⟩ us vs Q E ⟨z, hr.dp, hr.un, hr.gd⟩ e0 bb r h
  · exact (Fn.hot z).run A outer s H ⟨us, []⟩ us vs Q E p hr h1 h2 e0 bb r h
end
end Px
namespace Px
open PySem PySem.Spec PyProof.Rows L2
abbrev DI := En → Mu → (List PV → Mu → Prop) → QX → Prop
structure ItOk (K : Frg) (B : BX) (G0 : Hp) (J : It) (xs : List PV) : Prop where
  go : ∀ (i : Nat) μ G H, Sub G0 G → Ok K B μ G H → i < xs.length → J.go i H
  yld : ∀ (i : Nat) μ G H v H' x, Sub G0 G → Ok K B μ G H → xs[i]? = some x → J.yld i H v H' → ∃ G', Go K B μ G H μ G' H' ∧ Rep K B G' x v
  stop : ∀ (i : Nat) μ G H, Sub G0 G → Ok K B μ G H → xs.length ≤ i → J.stop i H
def tI (K : Frg) (W : WX) (d : DI) : TI := fun σ H R => ∃ (B : BX) (ρ : En) (μ : Mu) (G : Hp) (q : List PV → Mu → Prop) (x : QX), Rel K B ρ μ σ G H ∧ d ρ μ q x ∧ (∀ xs J μ' G' H', q xs μ' → Go K B μ G H μ' G' H' → ItOk K B G' J xs → R J H') ∧ GoodX K W B μ G H σ x
abbrev IJ (X : Cx) (W : WX) (tg iter : Expr) (d : DI) : Prop := PI X tg iter (tI X.K W d)
theorem pi_imp {X : Cx} {tg it : Expr} {t t' : TI} (h : PI X tg it t) (i : ∀ σ H Q, t' σ H Q → t σ H Q) : PI X tg it t' := ⟨fun pins s σ H Q J z => h.run pins s σ H Q J (i σ H Q z)⟩
theorem itok_list {K : Frg} {B : BX} {G : Hp} {a : Addr} {xs : List PV} {vs : List V} (sq : SqL K G a vs) (rs : Reps K B G xs vs) : ItOk K B G (Itl K a) xs := by
  have hl := rs.length
  refine ⟨fun i μ G' H s o hi => ?_, fun i μ G' H v H' x s o e y => ?_, fun i μ G' H s o hi => ⟨vs, o.sub.l (s.l sq), by omega⟩⟩
  · have hi' : i < vs.length := by omega
    exact ⟨vs, vs[i], o.sub.l (s.l sq), by simp [hi']⟩
  · obtain ⟨rfl, hy⟩ := y
    have e1 := hy vs (o.sub.l (s.l sq))
    obtain ⟨u, e2, r⟩ := rs.get e
    rw [e1] at e2
    cases e2
    exact ⟨G', .refl o, r.mono s⟩
theorem itok_tup {K : Frg} {B : BX} {G : Hp} {a : Addr} {xs : List PV} {vs : List V} (sq : SqT K G a vs) (rs : Reps K B G xs vs) : ItOk K B G (Itt K a) xs := by
  have hl := rs.length
  refine ⟨fun i μ G' H s o hi => ?_, fun i μ G' H v H' x s o e y => ?_, fun i μ G' H s o hi => ⟨vs, o.sub.t (s.t sq), by omega⟩⟩
  · have hi' : i < vs.length := by omega
    exact ⟨vs, vs[i], o.sub.t (s.t sq), by simp [hi']⟩
  · obtain ⟨rfl, hy⟩ := y
    have e1 := hy vs (o.sub.t (s.t sq))
    obtain ⟨u, e2, r⟩ := rs.get e
    rw [e1] at e2
    cases e2
    exact ⟨G', .refl o, r.mono s⟩
/-- the ints lo, lo + 1, .. -/
def rangeP (lo : Int) (n : Nat) : List PV := (List.range n).map fun i => .int (lo + (i : Nat))
theorem rangeP_get {lo : Int} {n i : Nat} {x : PV} (h : (rangeP lo n)[i]? = some x) : i < n ∧ x = .int (lo + (i : Nat)) := by
  unfold rangeP at h
  rw [List.getElem?_map] at h
  by_cases hi : i < n
  · rw [List.getElem?_range hi] at h
    exact ⟨hi, (Option.some.inj h).symm⟩
  · rw [List.getElem?_eq_none (by simpa using hi)] at h; cases h
theorem rangeP_len (lo : Int) (n : Nat) : (rangeP lo n).length = n := by unfold rangeP; simp
theorem itok_range {K : Frg} {B : BX} {G : Hp} (lo : Int) (n : Nat) : ItOk K B G (Itr lo n) (rangeP lo n) := by
  refine ⟨fun i μ G' H s o hi => by rw [rangeP_len] at hi; exact hi, fun i μ G' H v H' x s o e y => ?_, fun i μ G' H s o hi => by rw [rangeP_len] at hi; exact hi⟩
  obtain ⟨hi, rfl⟩ := rangeP_get e
  obtain ⟨rfl, rfl⟩ := y
  exact ⟨G', .refl o, rep_int _⟩
/-- over a list or a tuple that stands still -/
def itP (p : PV) (q : List PV → Prop) : Prop := match p with
  | .lst xs => q xs
  | .tup xs => q xs
  | _ => False
def iSeq (d : DE) : DI := fun ρ μ q x => d ρ μ (fun p μ1 => itP p fun xs => q xs μ1) x
def r1P (ps : List PV) (q : List PV → Prop) : Prop := match ps with
  | [.int n] => -(2 ^ 62) ≤ n ∧ n < 2 ^ 62 ∧ q (rangeP 0 n.toNat)
  | _ => False
theorem r1P_inv {ps : List PV} {q : List PV → Prop} (h : r1P ps q) : ∃ n : Int, ps = [.int n] ∧ -(2 ^ 62) ≤ n ∧ n < 2 ^ 62 ∧ q (rangeP 0 n.toNat) := by
  unfold r1P at h
  split at h
  · exact ⟨_, rfl, h⟩
  · exact h.elim
def iR1 (d : DA) : DI := fun ρ μ q x => d ρ μ (fun ps μ1 => r1P ps fun xs => q xs μ1) x
section
variable {X : Cx} {W : WX} {tg e : Expr} {es : List Expr} {pos p0 : Pos} {d : DE} {ds : DA}
/-- a list or a tuple, walked -/
theorem pi_seq {tl : TE} (hl : PE X e tl) : PI X tg e (fun σ H R => tl σ H fun x H1 => ∃ a, x = .ref a ∧ (((∃ xs, SqL X.K H1 a xs) ∧ R (Itl X.K a) H1) ∨ ((∃ xs, SqT X.K H1 a xs) ∧ R (Itt X.K a) H1))) := by
  refine ⟨fun pins s σ H R I h => ?_⟩
  refine thn (hl.run pins s σ H _ I h) fun v s1 ⟨x, H1, I1, r1, q1⟩ => ?_
  obtain ⟨a, e, ⟨⟨xs, hq⟩, q⟩ | ⟨⟨xs, hq⟩, q⟩⟩ := q1
  · subst e
    cases r1
    obtain ⟨its, rv, p, hz⟩ := I1.list hq
    refine wpAny_pyIter_list p.isList ?_
    refine ⟨s1.heap.objs.size, [s1.heap.objs.size], _, _, H1, rfl, I1.kept (t' := s1.toks) fun b o e => Heap.get?_push_of_some _ e, turn_list a _, ⟨_, Heap.get?_push_size _ rfl, rfl, rfl⟩, fun b hb => ?_, q⟩
    have e : b = s1.heap.objs.size := by simpa using hb
    subst e
    exact I1.fpOk (Nat.le_refl _) (I1.hok.fresh (Nat.le_refl _))
  · subst e
    cases r1
    obtain ⟨its, rv, p, hz⟩ := I1.tuple hq
    refine wpAny_pyIter_tuple (show s1.heap.IsTuple a its.toArray from p) ?_
    refine ⟨s1.heap.objs.size, [s1.heap.objs.size], _, _, H1, rfl, I1.kept (t' := s1.toks) fun b o e => Heap.get?_push_of_some _ e, turn_tuple a _, ⟨_, Heap.get?_push_size _ rfl, rfl, rfl⟩, fun b hb => ?_, q⟩
    have e : b = s1.heap.objs.size := by simpa using hb
    subst e
    exact I1.fpOk (Nat.le_refl _) (I1.hok.fresh (Nat.le_refl _))
theorem i_seq (h : EJ X W e d) : IJ X W tg e (iSeq d) := pi_imp (pi_seq h) fun σ H R ⟨B, ρ, μ, G, q, x, Rl, h, gv, gx⟩ =>
  ⟨B, ρ, μ, G, _, x, Rl, h, fun p v μ1 G1 H1 h1 g1 r1 => by
    cases p with
    | lst xs =>
      obtain ⟨a, vs, rfl, sq, rs⟩ := r1.lst_inv
      exact ⟨a, rfl, .inl ⟨⟨vs, .inl (.inl (g1.ok.sub _ _ sq))⟩, gv xs _ μ1 G1 H1 h1 g1 (itok_list (.inl (.inl sq)) rs)⟩⟩
    | tup xs =>
      obtain ⟨a, vs, rfl, sq, rs⟩ := r1.tup_inv
      exact ⟨a, rfl, .inr ⟨⟨vs, g1.ok.sub.t sq⟩, gv xs _ μ1 G1 H1 h1 g1 (itok_tup sq rs)⟩⟩
    | _ => exact h1.elim, gx⟩
theorem Reps.int1 {K : Frg} {B : BX} {G : Hp} {n : Int} {vs : List V} (h : Reps K B G [.int n] vs) : vs = [.int n] := by
  obtain ⟨v, ws, rfl, r, rs⟩ := h.cons_inv
  rw [r.int_inv, rs.nil_inv]
theorem i_range1 (hm : X.mg "range" = none) (ha : AJ X W [e] ds) (hg : Gl X "range" := by rfl) (h1 : starEach [e] X.env = [(false, eval e X.env)] := by rfl) : IJ X W tg (.Call (.Name "range" p0) [e] [] pos) (iR1 ds) := pi_imp (pi_range1 hg hm ha h1) fun σ H R ⟨B, ρ, μ, G, q, x, Rl, h, gv, gx⟩ =>
  ⟨B, ρ, μ, G, _, x, Rl, h, fun ps vs μ1 G1 H1 h0 g1 r1 => by
    obtain ⟨n, rfl, b1, b2, h1⟩ := r1P_inv h0
    exact ⟨n, r1.int1, b1, b2, gv _ _ μ1 G1 H1 h1 g1 (itok_range 0 _)⟩, gx⟩
end
inductive Tg where
  | one (i : Nat)
  | many (is : List Nat)
  | nest (i : Nat) (is : List Nat)
def Tg.idx : Tg → List Nat
  | .one i => [i]
  | .many is => is
  | .nest i is => i :: is
def setAll : List Nat → List PV → En → En
  | i :: is, p :: ps, ρ => setAll is ps (ρ.set i (some p))
  | _, _, ρ => ρ
def setT (t : Tg) (p : PV) (ρ : En) (k : En → Prop) : Prop := match t with
  | .one i => k (ρ.set i (some p))
  | .many is => (match p with
    | .tup xs => xs.length = is.length ∧ k (setAll is xs ρ)
    | _ => False)
  | .nest i is => (match p with
    | .tup [a, .tup xs] => xs.length = is.length ∧ k (setAll is xs (ρ.set i (some a)))
    | _ => False)
def gNs : List Nat → TGs
  | [] => gNil
  | i :: is => gCons (gName i) (gNs is)
def tgOf (K : Frg) : Tg → TG
  | .one i => gName i
  | .many is => gTup K is.length (gNs is)
  | .nest i is => gTup K 2 (gCons (gName i) (gCons (gTup K is.length (gNs is)) gNil))
/-- what the slots are behind the target -/
def setVs : List Nat → List V → L2.St → L2.St
  | i :: is, v :: vs, σ => setVs is vs (σ.set i (some v))
  | _, _, σ => σ
theorem gNs_ok {Q : L2.St → Hp → Prop} {H : Hp} : ∀ {is : List Nat} {vs : List V} {σ : L2.St}, vs.length = is.length → Q (setVs is vs σ) H → gNs is vs σ H Q
  | [], [], σ, _, h => ⟨rfl, h⟩
  | i :: is, v :: vs, σ, hl, h => ⟨v, vs, rfl, gNs_ok (is := is) (vs := vs) (by simpa using hl) h⟩
theorem Rel.setAll {K : Frg} {B : BX} {μ : Mu} {G H : Hp} : ∀ {is : List Nat} {xs : List PV} {vs : List V} {ρ : En} {σ : L2.St}, Rel K B ρ μ σ G H → Reps K B G xs vs → Rel K B (Px.setAll is xs ρ) μ (setVs is vs σ) G H
  | [], xs, vs, ρ, σ, R, r => by
    cases xs <;> cases vs <;> exact R
  | i :: is, [], vs, ρ, σ, R, r => by rw [r.nil_inv]; exact R
  | i :: is, x :: xs, vs, ρ, σ, R, r => by
    obtain ⟨v, ws, rfl, r1, r2⟩ := r.cons_inv
    exact Rel.setAll (is := is) (R.set i r1) r2
theorem wipe_get {σ : L2.St} {vs : List Nat} {i : Nat} (h : i ∈ vs) (hi : i < σ.length) : (wipe σ vs)[i]? = some none := by
  induction vs with
  | nil => cases h
  | cons v vs ih =>
    unfold wipe
    by_cases z : v = i
    · subst z
      rw [List.getElem?_set_self (by rw [wipe_length]; exact hi)]
    · rw [List.getElem?_set_ne z]
      exact ih ((List.mem_cons.mp h).resolve_left fun e => z e.symm)
theorem wipe_get2 {σ : L2.St} {vs : List Nat} {i : Nat} (h : i ∉ vs) : (wipe σ vs)[i]? = σ[i]? := by
  induction vs with
  | nil => rfl
  | cons v vs ih =>
    unfold wipe
    rw [List.getElem?_set_ne (fun z => h (by rw [z]; exact List.mem_cons_self))]
    exact ih fun z => h (List.mem_cons_of_mem _ z)
theorem wipe_ext {σ τ : L2.St} {vs : List Nat} (hl : σ.length = τ.length) (h : ∀ i, i ∉ vs → σ[i]? = τ[i]?) : wipe σ vs = wipe τ vs := by
  apply List.ext_getElem?
  intro i
  by_cases hi : i ∈ vs
  · by_cases hb : i < σ.length
    · rw [wipe_get hi hb, wipe_get hi (by omega)]
    · rw [List.getElem?_eq_none (by rw [wipe_length]; omega), List.getElem?_eq_none (by rw [wipe_length]; omega)]
  · rw [wipe_get2 hi, wipe_get2 hi]
    exact h i hi
theorem setVs_len : ∀ (is : List Nat) (vs : List V) (σ : L2.St), (setVs is vs σ).length = σ.length
  | [], vs, σ => by cases vs <;> rfl
  | i :: is, [], σ => rfl
  | i :: is, v :: vs, σ => by unfold setVs; rw [setVs_len is vs, List.length_set]
theorem setVs_out : ∀ (is : List Nat) (vs : List V) (σ : L2.St) {j : Nat}, j ∉ is → (setVs is vs σ)[j]? = σ[j]?
  | [], vs, σ, j, h => by cases vs <;> rfl
  | i :: is, [], σ, j, h => rfl
  | i :: is, v :: vs, σ, j, h => by
    unfold setVs
    rw [setVs_out is vs _ fun z => h (List.mem_cons_of_mem _ z), List.getElem?_set_ne fun z => h (by rw [z]; exact List.mem_cons_self)]
/-- the target takes a value -/
theorem tg_ok {K : Frg} {B : BX} {ρ : En} {μ : Mu} {σ : L2.St} {G H : Hp} {t : Tg} {p : PV} {v : V} {k : En → Prop} {Q : L2.St → Hp → Prop} {own : List Nat} (hw : ∀ i ∈ t.idx, i ∈ own) (R : Rel K B ρ μ σ G H) (r : Rep K B G p v) (h : setT t p ρ k)
    (hq : ∀ ρ' σ', k ρ' → Rel K B ρ' μ σ' G H → wipe σ' own = wipe σ own → Q σ' H) : tgOf K t v σ H Q := by
  cases t with
  | one i => exact hq _ _ h (R.set i r) (wipe_ext (by rw [List.length_set]) fun j hj => List.getElem?_set_ne fun z => hj (by rw [← z]; exact hw i (by unfold Tg.idx; exact List.mem_cons_self)))
  | many is =>
    cases p with
    | tup xs =>
      obtain ⟨hl, hk⟩ := h
      obtain ⟨a, vs, rfl, sq, rs⟩ := r.tup_inv
      have hv := rs.length
      exact ⟨a, vs, rfl, R.ok.sub.t sq, by omega, gNs_ok (by omega) (hq _ _ hk (R.setAll rs) (wipe_ext (setVs_len _ _ _) fun j hj => setVs_out _ _ _ fun z => hj (hw j z)))⟩
    | _ => exact h.elim
  | nest i is =>
    unfold setT at h
    dsimp only at h
    split at h
    · rename_i a xs
      obtain ⟨hl, hk⟩ := h
      obtain ⟨a0, vs, rfl, sq, rs⟩ := r.tup_inv
      obtain ⟨v1, w1, rfl, r1, rs⟩ := rs.cons_inv
      obtain ⟨v2, w2, rfl, r2, rs⟩ := rs.cons_inv
      obtain rfl := rs.nil_inv
      obtain ⟨a2, vs2, rfl, sq2, rs2⟩ := r2.tup_inv
      have hv := rs2.length
      refine ⟨a0, _, rfl, R.ok.sub.t sq, rfl, v1, _, rfl, V.ref a2, [], rfl, a2, vs2, rfl, R.ok.sub.t sq2, by omega, gNs_ok (by omega) ⟨rfl, ?_⟩⟩
      refine hq _ _ hk ((R.set i r1).setAll rs2) (wipe_ext (by rw [setVs_len, List.length_set]) fun j hj => ?_)
      rw [setVs_out _ _ _ fun z => hj (hw j (List.mem_cons_of_mem _ z))]
      exact List.getElem?_set_ne fun z => hj (by rw [← z]; exact hw i List.mem_cons_self)
    · exact h.elim
section
variable {X : Cx} {pos : Pos}
theorem g_one (i : Nat) {x : Str} (nd : X.N.Nodup) (hi : X.N[i]? = some x := by rfl) (hx : Loc X.env.scope x := by first | exact Or.inl rfl | exact Or.inr rfl) (hf : X.fn x = true ∨ X.env.scope.names.lookup x = some .local := by first | exact .inl rfl | exact .inr rfl | assumption) : PG X (.Name x pos) (tgOf X.K (.one i)) := pg_name nd hi hx hf
/-- the names of a tuple target -/
inductive GJ (X : Cx) : List Expr → List Nat → Prop where
  | nil : GJ X [] []
  | cons {x : Str} {p : Pos} {i : Nat} {es : List Expr} {is : List Nat} (h : PG X (.Name x p) (gName i)) (t : GJ X es is) : GJ X (.Name x p :: es) (i :: is)
theorem GJ.pg : ∀ {es : List Expr} {is : List Nat}, GJ X es is → PGs X es (gNs is)
  | _, _, .nil => pgs_nil
  | _, _, .cons h t => pgs_cons h t.pg
theorem GJ.len : ∀ {es : List Expr} {is : List Nat}, GJ X es is → es.length = is.length
  | _, _, .nil => rfl
  | _, _, .cons h t => by simp [t.len]
end
def forD (t : Tg) (db : DS) : List PV → DS
  | [], P, ρ, μ => P.nx ρ μ
  | x :: xs, P, ρ, μ => setT t x ρ fun ρ' => db { P with nx := fun ρ'' μ'' => Lk (forD t db xs P ρ'' μ''), ct := fun ρ'' μ'' => Lk (forD t db xs P ρ'' μ''), bk := P.nx } ρ' μ
def dFor (t : Tg) (di : DI) (db : DS) : DS := fun P ρ μ => di ρ μ (fun xs μ' => Lk (forD t db xs P ρ μ')) (fun xv μ' => P.xc xv ρ μ')
theorem drop_get {α : Type} {xs : List α} {i : Nat} (h : i < xs.length) : xs.drop i = xs[i] :: xs.drop (i + 1) := List.drop_eq_getElem_cons h
theorem s_for {X : Cx} {W : WX} {tg iter : Expr} {body : List Stmt} {pos : Pos} {di : DI} {db : DS} {t : Tg} (hp : PassesOwn (model X.prog X.w) X.A X.env X.xe) (hc : X.calm = true) (hi : IJ X W tg iter di) (hg : PG X tg (tgOf X.K t)) (hb : BJ X W body db)
    (hs : ∀ x, foldedSetIterable iter X.env x = pure x := by intro _; rfl) : SJ X W (.For tg iter body [] pos) (dFor t di db) := ps_imp (ps_for hp hc hi hg hb hs) fun D σ H ⟨B, ρ, μ, G, P, R, h, eo⟩ => by
  refine ⟨B, ρ, μ, G, _, _, R, h, fun xs J μ1 G1 H1 hf g1 io => ?_, eo.gx R⟩
  have eo1 := eo.go g1
  refine ⟨fun i m σ' H' => m = xs.length - i ∧ i ≤ xs.length ∧ ∃ ρ' μ' G', Rel X.K B ρ' μ' σ' G' H' ∧ Go X.K B μ1 G1 H1 μ' G' H' ∧ forD t db (xs.drop i) P ρ' μ', ⟨xs.length, by omega, Nat.zero_le _, ρ, μ1, G1, R.go g1, .refl g1.ok, hf.un⟩, ?_⟩
  rintro i m σ' H' ⟨rfl, hle, ρ', μ', G', R', g', hf'⟩
  by_cases hlt : i < xs.length
  · rw [drop_get hlt] at hf'
    refine .inr ⟨io.go i μ' G' H' g'.gx R'.ok hlt, fun σ2 H2 => ∃ ρ2 μ2 G2, Rel X.K B ρ2 μ2 σ2 G2 H2 ∧ Go X.K B μ1 G1 H1 μ2 G2 H2 ∧ forD t db (xs.drop (i + 1)) P ρ2 μ2, fun σ2 H2 ⟨ρ2, μ2, G2, R2, g2, h2⟩ => ⟨xs.length - (i + 1), by omega, rfl, hlt, ρ2, μ2, G2, R2, g2, h2⟩, fun v H2 y => ?_⟩
    obtain ⟨G2, g2, r2⟩ := io.yld i μ' G' H' v H2 xs[i] g'.gx R'.ok (List.getElem?_eq_getElem hlt) y
    have g12 := g'.trans g2
    refine tg_ok (own := t.idx) (fun _ z => z) (R'.go g2) r2 hf' fun ρ3 σ3 h3 R3 _ => ?_
    have eo2 := eo1.go g12
    exact ⟨B, ρ3, μ', G2, _, R3, h3, ⟨fun ρ4 σ4 μ4 G4 H4 h4 R4 g4 => ⟨ρ4, μ4, G4, R4, g12.trans g4, h4.un⟩, eo2.rt, eo2.nx, fun ρ4 σ4 μ4 G4 H4 h4 R4 g4 => ⟨ρ4, μ4, G4, R4, g12.trans g4, h4.un⟩, eo2.xc⟩⟩
  · have e : i = xs.length := by omega
    subst e
    rw [List.drop_length] at hf'
    exact .inl ⟨io.stop _ μ' G' H' g'.gx R'.ok (Nat.le_refl _), eo1.nx _ _ _ _ _ hf' R' g'⟩
def wipeE (ρ : En) : List Nat → En
  | [] => ρ
  | v :: vs => (wipeE ρ vs).set v none
theorem wipeE_len (ρ : En) : ∀ vs : List Nat, (wipeE ρ vs).length = ρ.length
  | [] => rfl
  | v :: vs => by unfold wipeE; rw [List.length_set, wipeE_len ρ vs]
theorem wipeE_some {ρ : En} {i : Nat} {s : PV} : ∀ {vs : List Nat}, (wipeE ρ vs)[i]? = some (some s) → ρ[i]? = some (some s) ∧ i ∉ vs
  | [], h => ⟨h, by simp⟩
  | v :: vs, h => by
    unfold wipeE at h
    rcases set_get h with ⟨_, z⟩ | ⟨n, z⟩
    · cases z
    · obtain ⟨h1, h2⟩ := wipeE_some z
      exact ⟨h1, by simp only [List.mem_cons, not_or]; exact ⟨fun e => n e.symm, h2⟩⟩
theorem Rel.wipe {K : Frg} {B : BX} {ρ : En} {μ : Mu} {σ : L2.St} {G H : Hp} (R : Rel K B ρ μ σ G H) (vs : List Nat) : Rel K B (wipeE ρ vs) μ (L2.wipe σ vs) G H :=
  R.weak (by rw [wipe_length, wipeE_len]; exact R.len) fun i s e => by
    obtain ⟨h1, h2⟩ := wipeE_some e
    exact ⟨h1, wipe_get2 h2⟩
def noX : QX := fun _ _ => False
def lcD (t : Tg) (own : List Nat) (dt : DT) (de : DE) (ρ : En) (q : List PV → Mu → Prop) : List PV → List PV → Mu → Prop
  | [], acc, μ => q acc μ
  | y :: ys, acc, μ => setT t y (wipeE ρ own) fun ρ' => dt ρ' μ (fun b μ1 => br b (de ρ' μ1 (fun p μ2 => Lk (lcD t own dt de ρ q ys (acc ++ [p]) μ2)) noX) (Lk (lcD t own dt de ρ q ys acc μ1))) noX
def lComp (t : Tg) (own : List Nat) (di : DI) (dt : DT) (de : DE) : DL := fun ρ μ q x => di ρ μ (fun xs μ1 => xs.length ≤ sizeLine ∧ Lk (lcD t own dt de ρ q xs [] μ1)) x
abbrev Wno : WX := fun _ _ _ _ => False
/-- the tests of a comprehension -/
abbrev TsJ (X : Cx) (W : WX) (ifs : List Expr) (d : DT) : Prop := PTs X ifs (tT X.K W d)
def dYes : DT := fun _ μ q _ => q true μ
theorem ts_nil {X : Cx} {W : WX} : TsJ X W [] dYes := ⟨fun pins s σ H Q J ⟨B, ρ, μ, G, q, x, R, h, gv, gx⟩ => pts_nil.run pins s σ H Q J (gv true μ G H h (.refl R.ok))⟩
theorem tlc_of {K : Frg} {W : WX} {t : Tg} {own : List Nat} {di : DI} {dt : DT} {de : DE} (hw : ∀ i ∈ t.idx, i ∈ own) {σ : L2.St} {H : Hp} {Q : VK} (h : tL K W (lComp t own di dt de) σ H Q) : tLc (tI K W di) (tgOf K t) (tT K Wno dt) (tE K Wno de) own σ H Q := by
  obtain ⟨B, ρ, μ, G, q, x, R, h, gl, gx⟩ := h
  refine ⟨B, ρ, μ, G, _, x, R, h, fun xs J μ1 G1 H1 ⟨hz, hf⟩ g1 io => ?_, gx⟩
  intro D hD
  have o1 := g1.ok
  have g1' := o1.new2 (u := .lst []) hD
  have hD0 : H D = none := g1.st.dom D hD
  have nbD : ¬ isB B D := o1.notB hD
  have gD : G1 D = none := o1.sub.free hD
  have mD : μ1 D = none := o1.freeM hD
  have Rw : Rel K B (wipeE ρ own) μ1 (L2.wipe σ own) G1 (upd H1 D (.lst [])) := (R.go (g1.trans g1')).wipe own
  -- a step that knows nothing of D
  have stays : ∀ {μa μb : Mu} {Ga Ha Gb Hb : Hp} {av : List V}, Go K B μa Ga Ha μb Gb Hb → Ga D = none → μa D = none → Ha D = some (.lst av) → Gb D = none ∧ μb D = none ∧ Hb D = some (.lst av) := fun {μa μb Ga Ha Gb Hb av} g n m e => by
    exact g.hid n m e nbD (by intro _ e; cases e) (by intro _ e; cases e)
  refine ⟨fun i m H' => m = xs.length - i ∧ i ≤ xs.length ∧ ∃ μ' G' acc av, Rel K B (wipeE ρ own) μ' (L2.wipe σ own) G' H' ∧ Go K B μ G H μ' G' H' ∧ Sub G1 G' ∧ G' D = none ∧ μ' D = none ∧ H' D = some (.lst av) ∧ Reps K B G' acc av ∧ acc.length ≤ i ∧ lcD t own dt de ρ q (xs.drop i) acc μ',
    ⟨xs.length, by omega, Nat.zero_le _, μ1, G1, [], [], Rw, g1.trans g1', .refl _, gD, mD, upd_same, .nil, Nat.le_refl _, hf.un⟩, ?_⟩
  rintro i m H' ⟨rfl, hle, μ', G', acc, av, R', g', sb, gD', mD', hD', rs, hal, hf'⟩
  by_cases hlt : i < xs.length
  · rw [drop_get hlt] at hf'
    refine .inr ⟨io.go i μ' G' H' sb R'.ok hlt, fun H2 => ∃ μ2 G2 acc2 av2, Rel K B (wipeE ρ own) μ2 (L2.wipe σ own) G2 H2 ∧ Go K B μ G H μ2 G2 H2 ∧ Sub G1 G2 ∧ G2 D = none ∧ μ2 D = none ∧ H2 D = some (.lst av2) ∧ Reps K B G2 acc2 av2 ∧ acc2.length ≤ i + 1 ∧ lcD t own dt de ρ q (xs.drop (i + 1)) acc2 μ2,
      fun H2 z => ⟨xs.length - (i + 1), by omega, rfl, hlt, z⟩, fun v H2 y => ?_⟩
    obtain ⟨G2, g2, r2⟩ := io.yld i μ' G' H' v H2 xs[i] sb R'.ok (List.getElem?_eq_getElem hlt) y
    refine tg_ok hw (R'.go g2) r2 hf' fun ρ3 σ3 h3 R3 hws => ⟨hws.trans (wipe_ext (wipe_length _ _) fun j hj => wipe_get2 hj), ?_⟩
    obtain ⟨gD2, mD2, hD2⟩ := stays g2 gD' mD' hD'
    refine ⟨B, ρ3, μ', G2, _, noX, R3, h3, fun b μ3 G3 H3 h4 g3 => ?_, fun _ _ _ _ _ z => z.elim⟩
    have g23 := g2.trans g3
    obtain ⟨gD3, mD3, hD3⟩ := stays g3 gD2 mD2 hD2
    cases b with
    | false => exact ⟨μ3, G3, acc, av, R'.go g23, g'.trans g23, sb.trans g23.gx, gD3, mD3, hD3, rs.mono g23.gx, by omega, (h4.f rfl).un⟩
    | true =>
      refine ⟨B, ρ3, μ3, G3, _, noX, R3.go g3, h4.t rfl, fun p u μ4 G4 H4 h5 g4 r4 => ?_, fun _ _ _ _ _ z => z.elim⟩
      obtain ⟨gD4, mD4, hD4⟩ := stays g4 gD3 mD3 hD3
      have hlen := rs.length
      have g24 := g23.trans g4
      have g := g'.trans g24
      have ok5 : Ok K B μ4 G4 (upd H4 D (.lst (av ++ [u]))) := g4.ok.mut hD4 gD4 mD4 nbD
      refine ⟨av, hD4, by omega, μ4, G4, acc ++ [p], av ++ [u], ⟨ok5, (R'.go g24).len, (R'.go g24).at_⟩, ⟨ok5, ⟨g.st.gx, fun a e => ?_, fun a o e nb mm nt => ?_, g.st.new, g.st.cel⟩⟩, sb.trans g24.gx, gD4, mD4, upd_same, (rs.mono g24.gx).append (.cons r4 .nil), by simp; omega, h5.un⟩
      · by_cases z : a = D
        · subst z; exact hD0
        · rw [upd_ne z] at e; exact g.st.dom a e
      · rw [upd_ne (ne_of_none e hD0)]
        exact g.st.keep a o e nb mm nt
  · have e : i = xs.length := by omega
    subst e
    rw [List.drop_length] at hf'
    exact .inl ⟨io.stop _ μ' G' H' sb R'.ok (Nat.le_refl _), gl acc D av μ' G' H' hf' g' hD0 gD' mD' hD' rs⟩
theorem l_comp {X : Cx} {W : WX} {elt tg iter : Expr} {ifs : List Expr} {scope : Scope} {own : List (Str × Nat)} {pos : Pos} {di : DI} {dt : DT} {de : DE} {t : Tg} (hc : X.calm = true) (nd : X.N.Nodup) (hi : IJ X W tg iter di) (ok : BlkOk X.N X.env.scope scope own)
    (hg : ∀ (s : Shared) (H : Hp) (C : Addr) (cl : List (Str × Addr)) (fp : List Addr), PG (X.blk s H scope (compEnvC scope cl C X.env) fp) tg (tgOf X.K t)) (ht : ∀ (s : Shared) (H : Hp) (C : Addr) (cl : List (Str × Addr)) (fp : List Addr), TsJ (X.blk s H scope (compEnvC scope cl C X.env) fp) Wno ifs dt)
    (he : ∀ (s : Shared) (H : Hp) (C : Addr) (cl : List (Str × Addr)) (fp : List Addr), EJ (X.blk s H scope (compEnvC scope cl C X.env) fp) Wno elt de) (hw : ∀ i ∈ t.idx, i ∈ own.map (·.2) := by decide) (hs : ∀ x, foldedSetIterable iter X.env x = pure x := by intro _; rfl) :
    LJ X W (.ListComp elt [⟨tg, iter, ifs, 0⟩] scope pos) (lComp t (own.map (·.2)) di dt de) := pe_imp (pe_lc hc nd hi ok hg ht he hs) fun σ H Q h => tlc_of hw h
theorem forD_c {t : Tg} {db : DS} {x : PV} {xs ys : List PV} {P : DEn} {ρ : En} {μ : Mu} (e : ys = x :: xs) (h : setT t x ρ fun ρ' => db { P with nx := fun ρ'' μ'' => Lk (forD t db xs P ρ'' μ''), ct := fun ρ'' μ'' => Lk (forD t db xs P ρ'' μ''), bk := P.nx } ρ' μ) : Lk (forD t db ys P ρ μ) := by
  subst e
  exact ⟨h⟩
theorem forD_n {t : Tg} {db : DS} {ys : List PV} {P : DEn} {ρ : En} {μ : Mu} (e : ys = []) (h : P.nx ρ μ) : Lk (forD t db ys P ρ μ) := by
  subst e
  exact ⟨h⟩
theorem lcD_c {t : Tg} {own : List Nat} {dt : DT} {de : DE} {ρ : En} {q : List PV → Mu → Prop} {y : PV} {ys zs acc : List PV} {μ : Mu} (e : zs = y :: ys) (h : setT t y (wipeE ρ own) fun ρ' => dt ρ' μ (fun b μ1 => br b (de ρ' μ1 (fun p μ2 => Lk (lcD t own dt de ρ q ys (acc ++ [p]) μ2)) noX) (Lk (lcD t own dt de ρ q ys acc μ1))) noX) : Lk (lcD t own dt de ρ q zs acc μ) := by
  subst e
  exact ⟨h⟩
theorem lcD_n {t : Tg} {own : List Nat} {dt : DT} {de : DE} {ρ : En} {q : List PV → Mu → Prop} {zs acc : List PV} {μ : Mu} (e : zs = []) (h : q acc μ) : Lk (lcD t own dt de ρ q zs acc μ) := by
  subst e
  exact ⟨h⟩
end Px
namespace Px
open PySem PySem.Spec PyProof.Rows L2
def subCl : Cl → Cl → Bool := fun c d => decide (c = d) || (match c, d with
  | .Filter, .Ink => true | .Opaque, .Ink => true | .Bleach, .Ink => true
  | _, _ => false)
def tys : List String := ["int", "str", "bool", "tuple", "list", "dict"]
structure KC (K : Frg) (c : Cl) : Prop where
  cls : Cls K (ca K c)
  k1 : PySem.W.findIn K (.ref (ca K c)) "__class__" = some (some (.builtin "object.__class__"))
  k2 : PySem.W.specialIn K (.builtin "object.__class__") "__get__" = some (some (.builtin "getset_descriptor.__get__"))
  k3 : PySem.W.takesIn K (.builtin "object.__class__") = some true
  k4 : PySem.W.mroIn K (ca K c) (.type "object") = some true
  k5 : PySem.W.findIn K (.ref (ca K c)) "__ne__" = some (some (.builtin "object.__ne__"))
  no : ∀ f ∈ c.flds, NoAttr K (ca K c) f
theorem kcB_ok {K : Frg} {c : Cl} (h : kcB K c = true) : KC K c := by
  obtain ⟨h1, h⟩ := He.ba h
  obtain ⟨h2, h⟩ := He.ba h
  obtain ⟨h3, h⟩ := He.ba h
  obtain ⟨h4, h⟩ := He.ba h
  obtain ⟨h5, h⟩ := He.ba h
  obtain ⟨h7, h6⟩ := He.ba h
  exact ⟨He.cls_ok h1, He.eqO_ok h2, He.eqO_ok h3, of_decide_eq_true h4, of_decide_eq_true h5, He.eqO_ok h7, fun f hf => He.eqO_ok (List.all_eq_true.mp h6 f hf)⟩
def allCl : List Cl := [.Light, .Film, .Ink, .Filter, .Opaque, .Bleach, .Pass, .Row, .Spot, .Chart, .Shape, .Sheet, .Press, .PrintError, .InvalidBand, .InvalidInk, .InvalidTakes, .InvalidPass, .NoSuchPass, .NotAnOrder, .TooLong, .TooManyMasks,
  .Conditional, .CannotCome, .InvalidShape, .WrongSize, .UnknownMask, .UnknownPlace, .InvalidText, .NothingToUndo, .NothingToRedo, .InvalidLimit, .InvalidRun]
theorem allCl_mem (c : Cl) : c ∈ allCl := by cases c <;> simp [allCl]
/-- what an except clause answers -/
def subX (c d : Cl) : Bool := decide (c = d) || decide (d = .PrintError)
def tyn : List String := "NoneType" :: tys
/-- what is known of the classes, pair by pair -/
structure KA (K : Frg) : Prop where
  oo : ∀ c d, kcB K c = true → knB K d = true → PySem.W.kitOne K (.ref (ca K c)) (.ref (ca K d)) = some (subCl c d)
  ot : ∀ c, kcB K c = true → ∀ n ∈ tys, PySem.W.kitOne K (.ref (ca K c)) (.type n) = some false
  to : ∀ c, knB K c = true → ∀ n ∈ tys, PySem.W.kitOne K (.type n) (.ref (ca K c)) = some false
  no : ∀ c, knB K c = true → PySem.W.kitOne K (.type "NoneType") (.ref (ca K c)) = some false
  sb : ∀ c d, kcB K c = true → kcB K d = true → PySem.W.subIn K (.ref (ca K c)) (.ref (ca K d)) = some (subCl c d)
  st : ∀ c, kcB K c = true → ∀ n ∈ tyn, PySem.W.subIn K (.type n) (.ref (ca K c)) = some false
  xm : ∀ c d, xcB K c = true → xcB K d = true → PySem.W.exmOne K (.ref (ca K c)) (.ref (ca K d)) = some (subX c d)
def kaB2 (K : Frg) (hs : List Cl) : Bool := hs.all fun c => (hs.all fun d => decide (PySem.W.subIn K (.ref (ca K c)) (.ref (ca K d)) = some (subCl c d))) && tyn.all fun n => decide (PySem.W.subIn K (.type n) (.ref (ca K c)) = some false)
def kaB1 (K : Frg) (hs xs : List Cl) : Bool := (hs.all fun c => ((hs ++ xs).all fun d => decide (PySem.W.kitOne K (.ref (ca K c)) (.ref (ca K d)) = some (subCl c d))) && tys.all fun n => decide (PySem.W.kitOne K (.ref (ca K c)) (.type n) = some false)) &&
  (((hs ++ xs).all fun c => (tys.all fun n => decide (PySem.W.kitOne K (.type n) (.ref (ca K c)) = some false)) && decide (PySem.W.kitOne K (.type "NoneType") (.ref (ca K c)) = some false)) &&
  xs.all fun c => xs.all fun d => decide (PySem.W.exmOne K (.ref (ca K c)) (.ref (ca K d)) = some (subX c d)))
/-- hs, xs: the classes of the text; the others are not known -/
def kaB (K : Frg) (hs xs : List Cl) : Bool := (allCl.all fun c => (decide (c ∈ hs) || !kcB K c) && (decide (c ∈ xs) || !xcB K c)) && (kaB1 K hs xs && kaB2 K hs)
theorem kaB_ok {K : Frg} {hs xs : List Cl} (h : kaB K hs xs = true) : KA K := by
  obtain ⟨h1, h2⟩ := He.ba h
  obtain ⟨h2, g4⟩ := He.ba h2
  obtain ⟨g1, h2⟩ := He.ba h2
  obtain ⟨g2, g3⟩ := He.ba h2
  have inh : ∀ c, kcB K c = true → c ∈ hs := fun c hc => by
    have := (He.ba (List.all_eq_true.mp h1 c (allCl_mem c))).1
    rw [hc] at this
    simpa using this
  have inx : ∀ c, xcB K c = true → c ∈ xs := fun c hc => by
    have := (He.ba (List.all_eq_true.mp h1 c (allCl_mem c))).2
    rw [hc] at this
    simpa using this
  have ink : ∀ c, knB K c = true → c ∈ hs ++ xs := fun c hc => by
    rcases Bool.or_eq_true_iff.mp hc with z | z
    · exact List.mem_append_left _ (inh c z)
    · exact List.mem_append_right _ (inx c z)
  refine ⟨fun c d hc hd => ?_, fun c hc n hn => ?_, fun c hc n hn => ?_, fun c hc => ?_, fun c d hc hd => ?_, fun c hc n hn => ?_, fun c d hc hd => ?_⟩
  · exact of_decide_eq_true (List.all_eq_true.mp (He.ba (List.all_eq_true.mp g1 c (inh c hc))).1 d (ink d hd))
  · exact of_decide_eq_true (List.all_eq_true.mp (He.ba (List.all_eq_true.mp g1 c (inh c hc))).2 n hn)
  · exact of_decide_eq_true (List.all_eq_true.mp (He.ba (List.all_eq_true.mp g2 c (ink c hc))).1 n hn)
  · exact of_decide_eq_true (He.ba (List.all_eq_true.mp g2 c (ink c hc))).2
  · exact of_decide_eq_true (List.all_eq_true.mp (He.ba (List.all_eq_true.mp g4 c (inh c hc))).1 d (inh d hd))
  · exact of_decide_eq_true (List.all_eq_true.mp (He.ba (List.all_eq_true.mp g4 c (inh c hc))).2 n hn)
  · exact of_decide_eq_true (List.all_eq_true.mp (List.all_eq_true.mp g3 c (inx c hc)) d (inx d hd))
theorem br_and {b : Bool} {A : Prop} (h : br b A False) : b = true ∧ A := by
  cases b
  · exact (h.f rfl).elim
  · exact ⟨rfl, h.t rfl⟩
/-- the place of a field -/
def fldAt (f : Str) : List Str → List PV → Option PV
  | g :: gs, x :: xs => match decEq f g with
    | Decidable.isTrue _ => some x
    | Decidable.isFalse _ => fldAt f gs xs
  | _, _ => none
theorem fldAt_ok {K : Frg} {B : BX} {G : Hp} {f : Str} {x : PV} : ∀ {gs : List Str} {xs : List PV} {vs : List V}, fldAt f gs xs = some x → Reps K B G xs vs → f ∈ gs ∧ ∃ v, (gs.zip vs).lookup f = some v ∧ Rep K B G x v
  | [], xs, vs, e, r => by cases xs <;> simp [fldAt] at e
  | g :: gs, [], vs, e, r => by simp [fldAt] at e
  | g :: gs, y :: xs, vs, e, r => by
    obtain ⟨v, ws, rfl, r1, r2⟩ := r.cons_inv
    unfold fldAt at e
    cases z : decEq f g with
    | isTrue h =>
      rw [z] at e
      cases e
      subst h
      exact ⟨List.mem_cons_self, v, by simp [List.lookup], r1⟩
    | isFalse h =>
      rw [z] at e
      obtain ⟨m, u, e1, e2⟩ := fldAt_ok e r2
      have hb : (f == g) = false := by simpa using h
      exact ⟨List.mem_cons_of_mem _ m, u, by simp [List.lookup, hb, e1], e2⟩
/-- .. among fields told so far -/
def fldIn (f : Str) : List (Str × PV) → Option PV
  | (g, x) :: r => match decEq f g with
    | Decidable.isTrue _ => some x
    | Decidable.isFalse _ => fldIn f r
  | [] => none
theorem fldIn_ok {K : Frg} {B : BX} {G : Hp} {f : Str} {x : PV} : ∀ {fs : List (Str × PV)} {ws : List (Str × V)}, fldIn f fs = some x → FRep K B G fs ws → ∃ v, ws.lookup f = some v ∧ Rep K B G x v
  | [], ws, e, r => by cases e
  | (g, y) :: fs, ws, e, r => by
    cases r with
    | cons q t =>
      rename_i w ws'
      obtain ⟨h, u⟩ := w
      obtain ⟨q1, q2⟩ := q
      have q1 : g = h := q1
      subst q1
      unfold fldIn at e
      cases z : decEq f g with
      | isTrue hh =>
        rw [z] at e
        cases e
        subst hh
        exact ⟨u, by simp [List.lookup], q2⟩
      | isFalse hh =>
        rw [z] at e
        obtain ⟨v, e1, e2⟩ := fldIn_ok e t
        have hb : (f == g) = false := by simpa using hh
        exact ⟨v, by simp [List.lookup, hb, e1], e2⟩
def memS (f : Str) : List Str → Bool
  | [] => false
  | g :: gs => match decEq f g with
    | Decidable.isTrue _ => true
    | Decidable.isFalse _ => memS f gs
theorem memS_ok {f : Str} : ∀ {hs : List Str}, memS f hs = true → f ∈ hs
  | [], h => by cases h
  | d :: ds, h => by
    unfold memS at h
    cases e : decEq f d with
    | isTrue z => subst z; exact List.mem_cons_self
    | isFalse z => rw [e] at h; exact List.mem_cons_of_mem _ (memS_ok h)
def attrP (f : Str) : FU := fun p μ q _ => match p with
  | .obj c xs => (match fldAt f c.flds xs with
    | some x => q x μ
    | none => False)
  | .cell a => (match μ a with
    | some (.ins c fs) => br (memS f c.flds) (match fldIn f fs with
      | some x => q x μ
      | none => False) False
    | _ => False)
  | _ => False
section
variable {X : Cx} {W : WX} {pos p0 : Pos} {e : Expr} {es : List Expr} {d : DE} {ds : DA}
theorem UnJ.or {op : Value → Sem Value} {f g h : FU} (hf : UnJ X W op f) (hg : UnJ X W op g) (i : ∀ a μ q x, h a μ q x → f a μ q x ∨ g a μ q x) : UnJ X W op h := fun pins s σ H B ρ μ G a va u q x Q J R ra ru z gv gx =>
  (i a μ q x z).elim (fun z => hf pins s σ H B ρ μ G a va u q x Q J R ra ru z gv gx) fun z => hg pins s σ H B ρ μ G a va u q x Q J R ra ru z gv gx
theorem e_att {f : Str} {g : FU} (ho : UnJ X W (fun u => getAttr u f true) g) (ha : EJ X W e d) (hb : attributeBase e f X.env (eval e X.env) = eval e X.env := by rfl) : EJ X W (.Attribute e f pos) (dUn g d) := by
  refine ⟨fun pins s σ H Q J ⟨B, ρ, μ, G, q, z, R, h, gv, gx⟩ => ?_⟩
  refine attr_of hb (thn (ha.run pins s σ H (fun v H1 => ∃ μ1 G1 p, Go X.K B μ G H μ1 G1 H1 ∧ Rep X.K B G1 p v ∧ g p μ1 q z) J
    ⟨B, ρ, μ, G, _, z, R, h, fun p v μ1 G1 H1 h1 g1 r1 => ⟨μ1, G1, p, g1, r1, h1⟩, gx⟩) fun u s1 ⟨v, H1, J1, rv, μ1, G1, p, g1, rp, hf⟩ => ?_)
  exact ho pins s1 σ H1 B ρ μ1 G1 p v u q z Q J1 (R.go g1) rp rv hf (gv.go g1) (gx.go g1)
theorem uj_attr {f : Str} : UnJ X W (fun u => getAttr u f true) (attrP f) := fun pins s σ H B ρ μ G p v u q x Q J R rp ru h gv gx => by
  cases p with
  | obj c xs =>
    unfold attrP at h
    cases e2 : fldAt f c.flds xs with
    | none => simp only [e2] at h
    | some y =>
      simp only [e2] at h
      obtain ⟨a, dx, vs, rfl, kc, ea, hl, rs⟩ := rp.obj_inv
      obtain ⟨m, w, e3, r3⟩ := fldAt_ok e2 rs
      obtain rfl : u = Value.ref a := ru
      exact getattr_ok J (R.ok.sub _ _ ea) (kcB_ok kc).cls ((kcB_ok kc).no f m) e3 fun u' s2 I2 ru' => ⟨w, H, I2, ru', gv _ _ _ _ _ h (.refl R.ok) r3⟩
  | cell a =>
    unfold attrP at h
    cases e : μ a with
    | none => simp only [e] at h
    | some c0 =>
      cases c0 with
      | ins c fs =>
        simp only [e] at h
        obtain ⟨hf, h⟩ := br_and h
        have hf := memS_ok hf
        cases e2 : fldIn f fs with
        | none => simp only [e2] at h
        | some y =>
          simp only [e2] at h
          obtain ⟨_, _, o, ha, dx, ws, rfl, kc, fl, fr⟩ := R.ok.cell a _ e
          obtain ⟨w, e3, r3⟩ := fldIn_ok e2 fr
          rw [rp.cell_inv] at ru
          obtain rfl : u = Value.ref a := ru
          exact getattr_ok J ha (kcB_ok kc).cls ((kcB_ok kc).no f hf) e3 fun u' s2 I2 ru' => ⟨w, H, I2, ru', gv _ _ _ _ _ h (.refl R.ok) r3⟩
      | _ => simp only [e] at h
  | _ => exact h.elim
end
abbrev FC := List PV → Mu → QV → QX → Prop
def CaJ (X : Cx) (W : WX) (fn : Value) (f : FC) : Prop := ∀ (pins : List (Addr × Obj)) (s : Shared) (σ : L2.St) (H : Hp) (B : BX) (ρ : En) (μ : Mu) (G : Hp) (ps : List PV) (vs : List V) (us : List Value) (q : QV) (x : QX) (Q : VK), Inv X pins σ H s → Rel X.K B ρ μ σ G H → Reps X.K B G ps vs → Vals vs us →
    f ps μ q x → GoodV X.K B μ G H q Q → GoodX X.K W B μ G H σ x → wpAny (model X.prog X.w) X.A (call fn us) (EP X pins σ Q) X.xe s
/-- f tells what the reading r of a call asks -/
def PCl (K : Frg) (r : List V → Hp → VK → Prop) (f : Mu → List PV → (PV → Prop) → Prop) : Prop := ∀ (B : BX) (μ : Mu) (G H : Hp) (ps : List PV) (vs : List V) (q : PV → Prop) (Q : VK), Ok K B μ G H → Reps K B G ps vs → f μ ps q → (∀ p v G' H', q p → Go K B μ G H μ G' H' → Rep K B G' p v → Q v H') → r vs H Q
def fc (f : Mu → List PV → (PV → Prop) → Prop) : FC := fun ps μ q _ => f μ ps (fun p => q p μ)
def dBlt (f : FC) (ds : DA) : DE := fun ρ μ q x => ds ρ μ (fun ps μ1 => f ps μ1 q x) x
section
variable {X : Cx} {W : WX} {pos p0 : Pos} {e : Expr} {es : List Expr} {d : DE} {ds : DA} {r : List V → Hp → VK → Prop} {f : FC} {x : Str} {id : String}
theorem CaJ.of {fn : Value} {f : Mu → List PV → (PV → Prop) → Prop} (ho : CallR X fn r) (hp : PCl X.K r f) : CaJ X W fn (fc f) := fun pins s σ H B ρ μ G ps vs us q x Q J R rs ru h gv gx =>
  ho pins s σ H vs us Q J ru (hp B μ G H ps vs _ Q R.ok rs h fun p v G' H' hq g rp => gv p v μ G' H' hq g rp)
theorem CaJ.or {fn : Value} {f g h : FC} (hf : CaJ X W fn f) (hg : CaJ X W fn g) (i : ∀ ps μ q x, h ps μ q x → f ps μ q x ∨ g ps μ q x) : CaJ X W fn h := fun pins s σ H B ρ μ G ps vs us q x Q J R rs ru z gv gx =>
  (i ps μ q x z).elim (fun z => hf pins s σ H B ρ μ G ps vs us q x Q J R rs ru z gv gx) fun z => hg pins s σ H B ρ μ G ps vs us q x Q J R rs ru z gv gx
/-- the call's reading once the arguments are known -/
def rC (K : Frg) (W : WX) (f : FC) (Q : VK) (σ : L2.St) (vs : List V) (H1 : Hp) : Prop := ∃ (B : BX) (ρ : En) (μ : Mu) (G : Hp) (ps : List PV) (q : QV) (z : QX), Rel K B ρ μ σ G H1 ∧ Reps K B G ps vs ∧ f ps μ q z ∧ GoodV K B μ G H1 q Q ∧ GoodX K W B μ G H1 σ z
theorem rC_of {K : Frg} {σ : L2.St} {H : Hp} {Q : VK} (h : tE K W (dBlt f ds) σ H Q) : tA K W ds σ H (rC K W f Q σ) := by
  obtain ⟨B, ρ, μ, G, q, x, R, h, gv, gx⟩ := h
  exact ⟨B, ρ, μ, G, _, x, R, h, fun ps vs μ1 G1 H1 h1 g1 r1 => ⟨B, ρ, μ1, G1, ps, q, x, R.go g1, r1, h1, gv.go g1, gx.go g1⟩, gx⟩
theorem CaJ.run {fn : Value} (ho : CaJ X W fn f) {pins : List (Addr × Obj)} {s : Shared} {σ : L2.St} {H : Hp} {Q : VK} {vs : List V} {us : List Value} (J : Inv X pins σ H s) (ru : Vals vs us) (h : rC X.K W f Q σ vs H) : wpAny (model X.prog X.w) X.A (call fn us) (EP X pins σ Q) X.xe s := by
  obtain ⟨B, ρ, μ, G, ps, q, x, R, rs, h, gv, gx⟩ := h
  exact ho pins s σ H B ρ μ G ps vs us q x Q J R rs ru h gv gx
theorem e_blt (hc : CaJ X W (.builtin id) f) (hm : X.mg x = none) (hv : bootBuiltins x = some (.builtin id)) (ha : AJ X W (e :: es) ds) (hg : Gl X x := by rfl) (h1 : x ≠ "__name__" := by decide) (h2 : (x == ("__debug__" : Str)) = false := by decide)
    (h3 : starEach (e :: es) X.env = (false, eval e X.env) :: starEach es X.env := by rfl) (h4 : (backTo pos (starEach es X.env)).any (·.1) = false := by rfl) : EJ X W (.Call (.Name x p0) (e :: es) [] pos) (dBlt f ds) := by
  refine ⟨fun pins s σ H Q I h => ?_⟩
  refine wpAny_Call_Name_kw (ld_blt I hg hm hv ?_ h1 h2)
  exact PyProof.Rows.callWith_builtin1 (thn (ha.run pos pins s σ H _ I (rC_of h)) fun us s1 ⟨vs, H1, I1, r1, q1⟩ => hc.run I1 r1 q1) h3 h4
theorem e_bty (hc : CaJ X W (.type id) f) (hm : X.mg x = none) (hv : bootBuiltins x = some (.type id)) (ha : AJ X W (e :: es) ds) (hg : Gl X x := by rfl) (h1 : x ≠ "__name__" := by decide) (h2 : (x == ("__debug__" : Str)) = false := by decide)
    (h3 : starEach (e :: es) X.env = (false, eval e X.env) :: starEach es X.env := by rfl) (h4 : (backTo pos (starEach es X.env)).any (·.1) = false := by rfl) : EJ X W (.Call (.Name x p0) (e :: es) [] pos) (dBlt f ds) := by
  refine ⟨fun pins s σ H Q I h => ?_⟩
  refine wpAny_Call_Name_kw (ld_blt I hg hm hv ?_ h1 h2)
  exact PyProof.Rows.callWith_type1 (thn (ha.run pos pins s σ H _ I (rC_of h)) fun us s1 ⟨vs, H1, I1, r1, q1⟩ => hc.run I1 r1 q1) h3 h4
/-- a built-in class, as a value -/
theorem e_ty (n : String) {x : Str} (hm : X.mg x = none) (hv : bootBuiltins x = some (.type n)) (hg : Gl X x := by rfl) (h1 : x ≠ "__name__" := by decide) (h2 : (x == ("__debug__" : Str)) = false := by decide) : EJ X W (.Name x pos) (dC (.ty n)) := e_c (pe_bltn hg hm hv (show RelV (.ty n) _ from rfl) h1 h2) fun _ _ => rep_ty n
/-- len(..) of a text, a list, a tuple, a dict -/
def lenP (μ : Mu) (p : PV) (q : Int → Prop) : Prop := match p with
  | .str z => z.length ≤ sizeLine ∧ q z.length
  | p => (match seqOf μ p with
    | some (_, xs) => q xs.length
    | none => False)
def fLen : Mu → List PV → (PV → Prop) → Prop := fun μ ps q => match ps with
  | [p] => lenP μ p fun n => q (.int n)
  | _ => False
theorem pcl_len {K : Frg} : PCl K (fun xs H Q => ∃ x n, xs = [x] ∧ LenV K x H n ∧ Q (.int n) H) fLen := fun B μ G H ps vs q Q o rs h gv => by
  unfold fLen at h
  split at h
  · rename_i p
    obtain ⟨v, ws, rfl, r, rn⟩ := rs.cons_inv
    rw [rn.nil_inv]
    have rest : (match seqOf μ p with | some (_, xs) => q (.int xs.length) | none => False) → ∃ x n, [v] = [x] ∧ LenV K x H n ∧ Q (.int n) H := fun h => by
      cases e : seqOf μ p with
      | none => simp only [e] at h
      | some z =>
        obtain ⟨t, xs⟩ := z
        simp only [e] at h
        obtain ⟨a, us, rfl, rs2, hh⟩ := seq_ok o r e
        have l := rs2.length
        refine ⟨_, us.length, rfl, ?_, by rw [l]; exact gv _ _ _ _ h (.refl o) (rep_int _)⟩
        rcases hh with ⟨_, hh⟩ | ⟨_, hh⟩
        · exact .inl ⟨us, .inl (.inl hh), rfl⟩
        · exact .inr ⟨us, hh, rfl⟩
    cases p with
    | str z => rw [r.str_inv]; exact ⟨_, _, rfl, ⟨h.1, rfl⟩, gv _ _ _ _ h.2 (.refl o) (rep_int _)⟩
    | _ => exact rest h
  · exact h.elim
theorem cj_len : CaJ X W (.builtin "len") (fc fLen) := .of call_len pcl_len
def fInt : Mu → List PV → (PV → Prop) → Prop := fun _ ps q => match ps with
  | [.int i] => q (.int i)
  | [.bl k] => q (.int (if k then 1 else 0))
  | _ => False
theorem pcl_int {K : Frg} : PCl K (fun xs H Q => (∃ i, xs = [.int i] ∧ Q (.int i) H) ∨ ∃ k, xs = [.bl k] ∧ Q (.int (if k then 1 else 0)) H) fInt := fun B μ G H ps vs q Q o rs h gv => by
  unfold fInt at h
  split at h
  · exact .inl ⟨_, rs.int1, gv _ _ _ _ h (.refl o) (rep_int _)⟩
  · obtain ⟨v, ws, rfl, r, rn⟩ := rs.cons_inv
    exact .inr ⟨_, by rw [r.bl_inv, rn.nil_inv], gv _ _ _ _ h (.refl o) (rep_int _)⟩
  · exact h.elim
theorem cj_int : CaJ X W (.type "int") (fc fInt) := .of call_int1 pcl_int
def fBool : Mu → List PV → (PV → Prop) → Prop := fun _ ps q => match ps with
  | [.int i] => q (.bl (i != 0))
  | [.bl k] => q (.bl k)
  | _ => False
theorem pcl_bool {K : Frg} : PCl K (fun xs H Q => (∃ i, xs = [.int i] ∧ Q (.bl (i != 0)) H) ∨ ∃ k, xs = [.bl k] ∧ Q (.bl k) H) fBool := fun B μ G H ps vs q Q o rs h gv => by
  unfold fBool at h
  split at h
  · exact .inl ⟨_, rs.int1, gv _ _ _ _ h (.refl o) (rep_bl _)⟩
  · obtain ⟨v, ws, rfl, r, rn⟩ := rs.cons_inv
    exact .inr ⟨_, by rw [r.bl_inv, rn.nil_inv], gv _ _ _ _ h (.refl o) (rep_bl _)⟩
  · exact h.elim
theorem cj_bool : CaJ X W (.type "bool") (fc fBool) := .of call_bool1 pcl_bool
/-- all(..), any(..), sum(..) of a list -/
def onL (f : List PV → (PV → Prop) → Prop) : Mu → List PV → (PV → Prop) → Prop := fun μ ps q => match ps with
  | [p] => (match seqOf μ p with
    | some (false, xs) => f xs q
    | _ => False)
  | _ => False
theorem onL_inv {K : Frg} {B : BX} {μ : Mu} {G H : Hp} {f : List PV → (PV → Prop) → Prop} {ps : List PV} {vs : List V} {q : PV → Prop} (o : Ok K B μ G H) (rs : Reps K B G ps vs) (h : onL f μ ps q) : ∃ a us xs, vs = [.ref a] ∧ H a = some (.lst us) ∧ Reps K B G xs us ∧ f xs q := by
  unfold onL at h
  split at h
  · rename_i p
    obtain ⟨v, ws, rfl, r, rn⟩ := rs.cons_inv
    rw [rn.nil_inv]
    cases e : seqOf μ p with
    | none => simp only [e] at h
    | some z =>
      obtain ⟨t, xs⟩ := z
      cases t
      · simp only [e] at h
        obtain ⟨a, us, rfl, rs2, hh⟩ := seq_ok o r e
        rcases hh with ⟨_, hh⟩ | ⟨z, _⟩
        · exact ⟨a, us, xs, rfl, hh, rs2, h⟩
        · cases z
      · simp only [e] at h
  · exact h.elim
def fAll := onL fun xs q => ∃ bs : List Bool, xs = bs.map .bl ∧ q (.bl (bs.all fun b => b))
def fAny := onL fun xs q => ∃ bs : List Bool, xs = bs.map .bl ∧ q (.bl (bs.any fun b => b))
def fSum := onL fun xs q => ∃ ns : List Int, xs = ns.map .int ∧ q (.int ns.sum)
theorem pcl_all {K : Frg} : PCl K (rAll K) fAll := fun B μ G H ps vs q Q o rs h gv => by
  obtain ⟨a, us, xs, rfl, ha, r2, bs, rfl, hq⟩ := onL_inv o rs h
  rw [r2.bls] at ha
  exact ⟨a, bs, rfl, .inl (.inl ha), gv _ _ _ _ hq (.refl o) (rep_bl _)⟩
theorem pcl_any {K : Frg} : PCl K (rAny K) fAny := fun B μ G H ps vs q Q o rs h gv => by
  obtain ⟨a, us, xs, rfl, ha, r2, bs, rfl, hq⟩ := onL_inv o rs h
  rw [r2.bls] at ha
  exact ⟨a, bs, rfl, .inl (.inl ha), gv _ _ _ _ hq (.refl o) (rep_bl _)⟩
theorem pcl_sum {K : Frg} : PCl K (rSum K) fSum := fun B μ G H ps vs q Q o rs h gv => by
  obtain ⟨a, us, xs, rfl, ha, r2, bs, rfl, hq⟩ := onL_inv o rs h
  rw [r2.ints] at ha
  exact ⟨a, bs, rfl, .inl (.inl ha), gv _ _ _ _ hq (.refl o) (rep_int _)⟩
/-- tuple(list), tuple(tuple) -/
def fTuple : Mu → List PV → (PV → Prop) → Prop := fun μ ps q => match ps with
  | [p] => (match seqOf μ p with
    | some (_, xs) => q (.tup xs)
    | none => False)
  | _ => False
theorem seq_t {μ : Mu} {p : PV} {xs : List PV} (h : seqOf μ p = some (true, xs)) : p = .tup xs := by
  cases p with
  | tup ys => cases h; rfl
  | lst ys => cases h
  | cell c =>
    have e1 : (match μ c with | some (.lst xs) => some (false, xs) | _ => none) = some (true, xs) := h
    split at e1 <;> cases e1
  | _ => cases h
theorem pcl_tuple {K : Frg} : PCl K (fun xs H Q => ∃ p ys, xs = [.ref p] ∧ ((SqL K H p ys ∧ ∀ l, H l = none → Q (.ref l) (upd H l (.tup ys))) ∨ (SqT K H p ys ∧ Q (.ref p) H))) fTuple := fun B μ G H ps vs q Q o rs h gv => by
  unfold fTuple at h
  split at h
  · rename_i p
    obtain ⟨v, ws, rfl, r, rn⟩ := rs.cons_inv
    rw [rn.nil_inv]
    cases e : seqOf μ p with
    | none => simp only [e] at h
    | some z =>
      obtain ⟨t, xs⟩ := z
      simp only [e] at h
      obtain ⟨a, us, rfl, rs2, hh⟩ := seq_ok o r e
      cases t
      · rcases hh with ⟨_, hh⟩ | ⟨z, _⟩
        · refine ⟨a, us, rfl, .inl ⟨.inl (.inl hh), fun l hl => ?_⟩⟩
          have g := o.new1 (u := .tup us) hl
          exact gv _ _ _ _ h g (rep_tup upd_same (rs2.mono g.gx))
        · cases z
      · rcases hh with ⟨z, _⟩ | ⟨_, hh⟩
        · cases z
        · have := seq_t e
          subst this
          exact ⟨a, us, rfl, .inr ⟨hh, gv _ _ _ _ h (.refl o) r⟩⟩
  · exact h.elim
theorem cj_tuple : CaJ X W (.type "tuple") (fc fTuple) := .of call_tuple_of pcl_tuple
theorem cj_all (hc : X.calm = true) : CaJ X W (.builtin "all") (fc fAll) := .of (cr_all hc) pcl_all
theorem cj_any (hc : X.calm = true) : CaJ X W (.builtin "any") (fc fAny) := .of (cr_any hc) pcl_any
theorem cj_sum (hc : X.calm = true) : CaJ X W (.builtin "sum") (fc fSum) := .of (cr_sum hc) pcl_sum
end
end Px
namespace Px
open PySem PySem.Spec PyProof.Rows L2
def tyOf (μ : Mu) : PV → Option (String ⊕ Cl)
  | .int _ => some (.inl "int")
  | .bl _ => some (.inl "bool")
  | .str _ => some (.inl "str")
  | .tup _ => some (.inl "tuple")
  | .lst _ => some (.inl "list")
  | .non => some (.inl "NoneType")
  | .obj c _ => some (.inr c)
  | .cell a => (match μ a with
    | some (.lst _) => some (.inl "list")
    | some (.ins c _) => some (.inr c)
    | _ => none)
  | _ => none
def isiP (μ : Mu) (p c : PV) : Option Bool := match tyOf μ p with
  | some (.inl t) => (match c with
    | .ty n => kitB t n
    | .cls _ => some false
    | _ => none)
  | some (.inr c0) => (match c with
    | .cls d => some (subCl c0 d)
    | .ty n => (match decide (n ∈ tys) with
      | true => some false
      | false => none)
    | _ => none)
  | none => none
def fIsi : Mu → List PV → (PV → Prop) → Prop := fun μ ps q => match ps with
  | [p, c] => (match isiP μ p c with
    | some b => q (.bl b)
    | none => False)
  | _ => False
theorem tyX_of {K : Frg} {B : BX} {μ : Mu} {G H : Hp} (o : Ok K B μ G H) {p : PV} {v : V} (r : Rep K B G p v) :
    (∀ t, tyOf μ p = some (.inl t) → (t ∈ tys ∨ t = "NoneType") ∧ TyX K H v (.type t)) ∧ (∀ c, tyOf μ p = some (.inr c) → kcB K c = true ∧ TyX K H v (.ref (ca K c))) := by
  cases p with
  | non => refine ⟨fun t e => ?_, fun c e => nomatch e⟩; cases e; rw [r.non_inv]; exact ⟨.inr rfl, .base .non⟩
  | bl b => refine ⟨fun t e => ?_, fun c e => nomatch e⟩; cases e; rw [r.bl_inv]; exact ⟨.inl (by decide), .base (.bl _)⟩
  | int b => refine ⟨fun t e => ?_, fun c e => nomatch e⟩; cases e; rw [r.int_inv]; exact ⟨.inl (by decide), .base (.int _)⟩
  | str b => refine ⟨fun t e => ?_, fun c e => nomatch e⟩; cases e; rw [r.str_inv]; exact ⟨.inl (by decide), .base (.str _)⟩
  | tup xs =>
    refine ⟨fun t e => ?_, fun c e => nomatch e⟩
    cases e
    obtain ⟨a, us, rfl, sq, _⟩ := r.tup_inv
    rcases o.sub.t sq with (z | ⟨ob, z⟩) | ⟨ob, its, n, z, zc, _⟩
    · exact ⟨.inl (by decide), .base (.tup z)⟩
    · exact ⟨.inl (by decide), .fTuple z⟩
    · exact ⟨.inl (by decide), .kTuple z zc⟩
  | lst xs =>
    refine ⟨fun t e => ?_, fun c e => nomatch e⟩
    cases e
    obtain ⟨a, us, rfl, sq, _⟩ := r.lst_inv
    exact ⟨.inl (by decide), .base (.lst (o.sub _ _ sq))⟩
  | obj c0 xs =>
    refine ⟨fun t e => (nomatch e), fun c e => ?_⟩
    cases e
    obtain ⟨a, dx, vs, rfl, kc, ea, _⟩ := r.obj_inv
    have k := kcB_ok kc
    exact ⟨kc, .base (.ins (o.sub _ _ ea) k.cls k.k1 k.k2 k.k3 k.k4)⟩
  | cell a =>
    have hv := r.cell_inv
    subst hv
    cases e0 : μ a with
    | none => exact ⟨fun t e => by simp [tyOf, e0] at e, fun c e => by simp [tyOf, e0] at e⟩
    | some c =>
      obtain ⟨_, _, u, ha, ck⟩ := o.cell a c e0
      cases c with
      | lst xs =>
        obtain ⟨vs, rfl, _⟩ := ck
        refine ⟨fun t e => ?_, fun c e => by simp [tyOf, e0] at e⟩
        simp only [tyOf, e0, Option.some.injEq, Sum.inl.injEq] at e
        subst e
        exact ⟨.inl (by decide), .base (.lst ha)⟩
      | ins c0 fs =>
        obtain ⟨dx, ws, rfl, kc, _⟩ := ck
        refine ⟨fun t e => by simp [tyOf, e0] at e, fun c e => ?_⟩
        simp only [tyOf, e0, Option.some.injEq, Sum.inr.injEq] at e
        subst e
        have k := kcB_ok kc
        exact ⟨kc, .base (.ins ha k.cls k.k1 k.k2 k.k3 k.k4)⟩
      | dK ks xs => exact ⟨fun t e => by simp [tyOf, e0] at e, fun c e => by simp [tyOf, e0] at e⟩
      | dT ks xs => exact ⟨fun t e => by simp [tyOf, e0] at e, fun c e => by simp [tyOf, e0] at e⟩
  | _ => exact ⟨fun t e => (nomatch e), fun c e => (nomatch e)⟩
theorem pcl_isi {K : Frg} (ka : KA K) : PCl K (rIsi K) fIsi := fun B μ G H ps vs q Q o rs h gv => by
  unfold fIsi at h
  split at h
  · rename_i p c
    obtain ⟨v, ws, rfl, r1, rs⟩ := rs.cons_inv
    obtain ⟨u, ws, rfl, r2, rn⟩ := rs.cons_inv
    rw [rn.nil_inv]
    cases eb : isiP μ p c with
    | none => simp only [eb] at h
    | some b =>
      simp only [eb] at h
      have fin : ∀ {t w : Value}, TyX K H v t → ClsV u w → PySem.W.kitOne K t w = some b → rIsi K [v, u] H Q := fun t1 c1 k1 => ⟨v, u, _, _, b, rfl, c1, t1, k1, gv _ _ _ _ h (.refl o) (rep_bl _)⟩
      obtain ⟨tb, tob⟩ := tyX_of o r1
      unfold isiP at eb
      cases et : tyOf μ p with
      | none => simp only [et] at eb; cases eb
      | some z =>
        cases z with
        | inl t =>
          obtain ⟨mt, tx⟩ := tb t et
          simp only [et] at eb
          cases c with
          | ty n => exact fin tx (by rw [r2.ty_inv]; exact .ty n) (kit_ty eb)
          | cls d =>
            simp only at eb
            cases eb
            have cu : ClsV u (.ref (ca K d)) := by rw [r2.cls_inv]; exact .own _
            rcases mt with mt | rfl
            · exact fin tx cu (ka.to d r2.cls_kn t mt)
            · exact fin tx cu (ka.no d r2.cls_kn)
          | _ => cases eb
        | inr c0 =>
          simp only [et] at eb
          obtain ⟨kc, tx⟩ := tob c0 et
          cases c with
          | cls d =>
            simp only at eb
            cases eb
            exact fin tx (by rw [r2.cls_inv]; exact .own _) (ka.oo c0 d kc r2.cls_kn)
          | ty n =>
            cases m : decide (n ∈ tys) with
            | false => simp only [m] at eb; cases eb
            | true =>
              simp only [m] at eb
              cases eb
              exact fin tx (by rw [r2.ty_inv]; exact .ty n) (ka.ot c0 kc n (of_decide_eq_true m))
          | _ => cases eb
  · exact h.elim
section
variable {X : Cx} {W : WX} {pos p0 p1 p2 : Pos} {a b c e : Expr} {da db dc : DE}
theorem cj_isi (ka : KA X.K) : CaJ X W (.builtin "isinstance") (fc fIsi) := .of call_isi (pcl_isi ka)
def ixP : F2 := fun μ a b q => match b with
  | .int i => (match a with
    | .str z => z.length ≤ sizeLine ∧ (match atI z.cps.toList i with
      | some c => q (.str ⟨#[c]⟩)
      | none => False)
    | a => (match seqOf μ a with
      | some (_, xs) => (match atI xs i with
        | some x => q x
        | none => False)
      | none => False))
  | _ => False
theorem atI_rep {K : Frg} {B : BX} {G : Hp} {xs : List PV} {vs : List V} {i : Int} {x : PV} (rs : Reps K B G xs vs) (h : atI xs i = some x) : ∃ v, atI vs i = some v ∧ Rep K B G x v := by
  unfold atI at h ⊢
  rw [rs.length]
  cases e : ixN xs.length i with
  | none => rw [e] at h; cases h
  | some j =>
    rw [e] at h
    exact rs.get h
theorem pop_ix {K : Frg} : POp K (rIx K) ixP := fun B μ G H a b va vb q Q o ra rb h gv => by
  cases b with
  | int i =>
    have rest : (match seqOf μ a with | some (_, xs) => (match atI xs i with | some x => q x | none => False) | none => False) → rIx K va vb H Q := fun h => by
      cases e : seqOf μ a with
      | none => simp only [e] at h
      | some z =>
        obtain ⟨t, xs⟩ := z
        simp only [e] at h
        cases e2 : atI xs i with
        | none => simp only [e2] at h
        | some x =>
          simp only [e2] at h
          obtain ⟨p, vs, rfl, rs, hh⟩ := seq_ok o ra e
          obtain ⟨v, e1, r⟩ := atI_rep rs e2
          rcases hh with ⟨_, hh⟩ | ⟨_, hh⟩
          · exact .inl ⟨p, vs, i, v, rfl, rb.int_inv, .inl (.inl hh), e1, gv _ _ _ _ h (.refl o) r⟩
          · exact .inr (.inl ⟨p, vs, i, v, rfl, rb.int_inv, hh, e1, gv _ _ _ _ h (.refl o) r⟩)
    cases a with
    | str z =>
      obtain ⟨hz, h⟩ := h
      cases e2 : atI z.cps.toList i with
      | none => simp only [e2] at h
      | some c =>
        simp only [e2] at h
        exact .inr (.inr ⟨z, i, c, ra.str_inv, rb.int_inv, hz, e2, gv _ _ _ _ h (.refl o) (rep_str _)⟩)
    | _ => exact rest h
  | _ => exact h.elim
/-- a subscript by values -/
def IxJ (X : Cx) (W : WX) (f : FO) : Prop := ∀ (value slice : Expr) (pins : List (Addr × Obj)) (s : Shared) (σ : L2.St) (H : Hp) (B : BX) (ρ : En) (μ : Mu) (G : Hp) (a b : PV) (va vb : V) (u w : Value) (q : QV) (x : QX) (Q : VK), Inv X pins σ H s → Rel X.K B ρ μ σ G H → Rep X.K B G a va → Rep X.K B G b vb → RelV va u → RelV vb w →
    f a b μ q x → GoodV X.K B μ G H q Q → GoodX X.K W B μ G H σ x → subscripted slice false u w = operate [u, w] (getItem u w) → wpAny (model X.prog X.w) X.A (subscriptTail value slice u w) (EP X pins σ Q) X.xe s
theorem IxJ.of {r : R2} {f : F2} (ho : IxR X r) (hp : POp X.K r f) : IxJ X W (fo f) := fun value slice pins s σ H B ρ μ G a b va vb u w q x Q J R ra rb ru rw' h gv gx hs =>
  ho value slice pins s σ H va vb u w Q J ru rw' (hp B μ G H a b va vb _ Q R.ok ra rb h fun p v G' H' hq g rp => gv p v μ G' H' hq g rp) hs
theorem IxJ.or {f g h : FO} (hf : IxJ X W f) (hg : IxJ X W g) (i : ∀ a b μ q x, h a b μ q x → f a b μ q x ∨ g a b μ q x) : IxJ X W h := fun value slice pins s σ H B ρ μ G a b va vb u w q x Q J R ra rb ru rw' z gv gx hs =>
  (i a b μ q x z).elim (fun z => hf value slice pins s σ H B ρ μ G a b va vb u w q x Q J R ra rb ru rw' z gv gx hs) fun z => hg value slice pins s σ H B ρ μ G a b va vb u w q x Q J R ra rb ru rw' z gv gx hs
theorem e_ixJ {f : FO} (ho : IxJ X W f) (ha : EJ X W a da) (hb : EJ X W b db) (hp : PlainIx b := by exact fun _ _ => rfl) : EJ X W (.Subscript a b pos) (dBin f da db) := by
  refine ⟨fun pins s σ H Q J h => ?_⟩
  exact Subscript_ (thn (ha.run pins s σ H _ J (rB_of h)) fun u s1 ⟨va, H1, J1, ru, h1⟩ => thn (hb.run pins s1 σ H1 _ J1 (rAB_of h1)) fun w s2 ⟨vb, H2, J2, rw', ⟨B, ρ, μ, G, p, p2, q, x, R, ra, rb, h2, gv, gx⟩⟩ =>
    ho a b pins s2 σ H2 B ρ μ G p p2 va vb u w q x Q J2 R ra rb ru rw' h2 gv gx (hp _ _))
theorem ij_seq : IxJ X W (fo ixP) := .of ix_seq pop_ix
def eqF : PV → PV → Bool
  | .non, .non => true
  | .bl a, .bl b => a == b
  | .bl a, .int b => (if a then 1 else 0) == b
  | .int a, .bl b => a == (if b then 1 else 0)
  | .int a, .int b => a == b
  | .str a, .str b => a == b
  | _, _ => false
def flatP : PV → Bool
  | .non => true | .bl _ => true | .int _ => true | .str _ => true
  | _ => false
def inP (x : PV) (xs : List PV) : Bool := xs.any fun y => eqF y x
theorem flat_ok {K : Frg} {B : BX} {G : Hp} {p : PV} {v : V} (r : Rep K B G p v) (h : flatP p = true) : flatV v = true := by
  cases p <;> simp only [flatP, Bool.false_eq_true] at h
  · rw [r.non_inv]; rfl
  · rw [r.bl_inv]; rfl
  · rw [r.int_inv]; rfl
  · rw [r.str_inv]; rfl
theorem eqF_ok {K : Frg} {B : BX} {G : Hp} {p s : PV} {v u : V} (r : Rep K B G p v) (r2 : Rep K B G s u) (h : flatP p = true) (h2 : flatP s = true) : eqV v u = eqF p s := by
  cases p <;> simp only [flatP, Bool.false_eq_true] at h <;> cases s <;> simp only [flatP, Bool.false_eq_true] at h2 <;>
    (first | rw [r.non_inv] | rw [r.bl_inv] | rw [r.int_inv] | rw [r.str_inv]) <;> (first | rw [r2.non_inv] | rw [r2.bl_inv] | rw [r2.int_inv] | rw [r2.str_inv]) <;> rfl
theorem in_ok {K : Frg} {B : BX} {G : Hp} {p : PV} {v : V} (r : Rep K B G p v) (h : flatP p = true) : ∀ {xs : List PV} {vs : List V}, Reps K B G xs vs → xs.all flatP = true → vs.all flatV = true ∧ inV v vs = inP p xs
  | [], vs, rs, _ => by rw [rs.nil_inv]; exact ⟨rfl, rfl⟩
  | x :: xs, vs, rs, ha => by
    obtain ⟨u, ws, rfl, r1, r2⟩ := rs.cons_inv
    simp only [List.all_cons, Bool.and_eq_true] at ha
    obtain ⟨i1, i2⟩ := in_ok r h r2 ha.2
    refine ⟨by simp only [List.all_cons, flat_ok r1 ha.1, i1, Bool.and_self], ?_⟩
    unfold inV inP at i2 ⊢
    rw [List.any_cons, List.any_cons, i2, eqF_ok r1 r ha.1 h]
def sgn (neg b : Bool) : Bool := match neg with
  | true => !b
  | false => b
/-- .. constant tuples too -/
def seqM (μ : Mu) : PV → Option (Bool × List PV)
  | .ctup xs => some (true, xs)
  | p => seqOf μ p
theorem seqM_ok {K : Frg} {B : BX} {μ : Mu} {G H : Hp} {p : PV} {v : V} {t : Bool} {xs : List PV} (o : Ok K B μ G H) (r : Rep K B G p v) (h : seqM μ p = some (t, xs)) :
    ∃ a vs, v = .ref a ∧ Reps K B G xs vs ∧ ((t = false ∧ H a = some (.lst vs)) ∨ (t = true ∧ SqT K H a vs)) := by
  cases p with
  | ctup ys =>
    cases h
    obtain ⟨a, vs, e, g, rs⟩ := r.ctup_inv
    exact ⟨a, vs, e, rs, .inr ⟨rfl, o.sub.t g⟩⟩
  | _ => exact seq_ok o r h
def inF (neg : Bool) : F2 := fun μ x s q => match s with
  | .str z => (match x with
    | .str y => (match y.cps.toList with
      | [c] => q (.bl (sgn neg (decide (c ∈ z.cps.toList))))
      | _ => False)
    | _ => False)
  | s => (match seqM μ s with
    | some (_, xs) => flatP x = true ∧ xs.all flatP = true ∧ q (.bl (sgn neg (inP x xs)))
    | none => False)
theorem pop_in {K : Frg} {neg : Bool} : POp K (rIn K neg) (fun μ x s q => ∃ t xs, seqM μ s = some (t, xs) ∧ flatP x = true ∧ xs.all flatP = true ∧ q (.bl (sgn neg (inP x xs)))) := fun B μ G H a b va vb q Q o ra rb ⟨t, xs, e, h1, h2, hq⟩ gv => by
  obtain ⟨p, vs, rfl, rs, hh⟩ := seqM_ok o rb e
  obtain ⟨i1, i2⟩ := in_ok ra h1 rs h2
  refine ⟨p, vs, rfl, ?_, flat_ok ra h1, i1, ?_⟩
  · rcases hh with ⟨_, hh⟩ | ⟨_, hh⟩
    · exact .inl (.inl (.inl hh))
    · exact .inr hh
  · rw [i2]
    cases neg <;> exact gv _ _ _ _ hq (.refl o) (rep_bl _)
theorem inF_inv {neg : Bool} {μ : Mu} {x s : PV} {q : PV → Prop} (h : inF neg μ x s q) : (∃ (c : Nat) (z : Str), x = .str ⟨#[c]⟩ ∧ s = .str z ∧ q (.bl (sgn neg (decide (c ∈ z.cps.toList))))) ∨ ∃ t xs, seqM μ s = some (t, xs) ∧ flatP x = true ∧ xs.all flatP = true ∧ q (.bl (sgn neg (inP x xs))) := by
  have rest : (match seqM μ s with | some (_, xs) => flatP x = true ∧ xs.all flatP = true ∧ q (.bl (sgn neg (inP x xs))) | none => False) → ∃ t xs, seqM μ s = some (t, xs) ∧ flatP x = true ∧ xs.all flatP = true ∧ q (.bl (sgn neg (inP x xs))) := fun h => by
    cases e : seqM μ s with
    | none => simp only [e] at h
    | some z =>
      obtain ⟨t, xs⟩ := z
      simp only [e] at h
      exact ⟨t, xs, rfl, h⟩
  cases s with
  | str z =>
    refine .inl ?_
    cases x with
    | str y =>
      have h : (match y.cps.toList with | [c] => q (.bl (sgn neg (decide (c ∈ z.cps.toList)))) | _ => False) := h
      split at h
      · rename_i c e
        obtain ⟨arr⟩ := y
        have : arr = #[c] := by
          have e : arr.toList = [c] := e
          calc arr = arr.toList.toArray := by simp
            _ = #[c] := by rw [e]
        subst this
        exact ⟨c, z, rfl, rfl, h⟩
      · exact h.elim
    | _ => exact h.elim
  | _ => exact .inr (rest h)
theorem pop_sign {K : Frg} : POp K (fun x y H Q => ∃ (c : Nat) (z : Str), x = .str ⟨#[c]⟩ ∧ y = .str z ∧ Q (.bl (decide (c ∈ z.cps.toList))) H) (fun μ x s q => ∃ (c : Nat) (z : Str), x = .str ⟨#[c]⟩ ∧ s = .str z ∧ q (.bl (sgn false (decide (c ∈ z.cps.toList))))) := fun B μ G H a b va vb q Q o ra rb ⟨c, z, e1, e2, hq⟩ gv => by
  subst e1 e2
  exact ⟨c, z, ra.str_inv, rb.str_inv, gv _ _ _ _ hq (.refl o) (rep_bl _)⟩
theorem pop_nsign {K : Frg} : POp K (fun x y H Q => ∃ (c : Nat) (z : Str), x = .str ⟨#[c]⟩ ∧ y = .str z ∧ Q (.bl (!decide (c ∈ z.cps.toList))) H) (fun μ x s q => ∃ (c : Nat) (z : Str), x = .str ⟨#[c]⟩ ∧ s = .str z ∧ q (.bl (sgn true (decide (c ∈ z.cps.toList))))) := fun B μ G H a b va vb q Q o ra rb ⟨c, z, e1, e2, hq⟩ gv => by
  subst e1 e2
  exact ⟨c, z, ra.str_inv, rb.str_inv, gv _ _ _ _ hq (.refl o) (rep_bl _)⟩
theorem oj_in : OpJ X W (compareOp .In) (fo (inF false)) := OpJ.or (OpJ.of op_in_sign pop_sign) (OpJ.of op_in_seq pop_in) fun a b μ q x h => inF_inv h
theorem oj_notin : OpJ X W (compareOp .NotIn) (fo (inF true)) := OpJ.or (OpJ.of op_notIn_sign pop_nsign) (OpJ.of op_notIn_seq pop_in) fun a b μ q x h => inF_inv h
def isNone : PV → Bool
  | .non => true
  | _ => false
theorem isNone_ok {K : Frg} {B : BX} {G : Hp} {a : PV} {va : V} (ra : Rep K B G a va) : decide (va = .non) = isNone a := by
  cases a with
  | non => rw [ra.non_inv]; rfl
  | bl b => rw [ra.bl_inv]; rfl
  | int b => rw [ra.int_inv]; rfl
  | str b => rw [ra.str_inv]; rfl
  | tup xs => obtain ⟨p, vs, rfl, _⟩ := ra.tup_inv; rfl
  | ctup xs => obtain ⟨p, vs, rfl, _⟩ := ra.ctup_inv; rfl
  | lst xs => obtain ⟨p, vs, rfl, _⟩ := ra.lst_inv; rfl
  | obj c xs => obtain ⟨p, dx, vs, rfl, _⟩ := ra.obj_inv; rfl
  | cls c => rw [ra.cls_inv]; rfl
  | ty c => rw [ra.ty_inv]; rfl
  | box => obtain ⟨p, _, _, rfl⟩ := ra.box_inv; rfl
  | exc p d c xs => obtain ⟨rfl, _⟩ := ra.exc_inv; rfl
  | cell p => rw [ra.cell_inv]; rfl
  | dK ks xs => obtain ⟨p, vs, _, rfl, _⟩ := ra.dK_inv; rfl
  | dT ks xs => obtain ⟨p, vs, _, rfl, _⟩ := ra.dT_inv; rfl
def isP (neg : Bool) : F2 := fun _ a b q => match b with
  | .non => q (.bl (sgn neg (isNone a)))
  | .bl j => (match a with
    | .bl i => q (.bl (sgn neg (decide (i = j))))
    | _ => False)
  | _ => False
theorem op_isB : OpR X (compareOp .Is) (fun x y H Q => ∃ i j : Bool, x = .bl i ∧ y = .bl j ∧ Q (.bl (decide (i = j))) H) := by
  intro pins s σ H x y v u Q I rx ry h
  obtain ⟨i, j, rfl, rfl, q⟩ := h
  cases rx
  cases ry
  cases i <;> cases j <;> exact wpAny_pure (fin_bl I q (by decide))
theorem op_isnotB : OpR X (compareOp .IsNot) (fun x y H Q => ∃ i j : Bool, x = .bl i ∧ y = .bl j ∧ Q (.bl (!decide (i = j))) H) := by
  intro pins s σ H x y v u Q I rx ry h
  obtain ⟨i, j, rfl, rfl, q⟩ := h
  cases rx
  cases ry
  cases i <;> cases j <;> exact wpAny_pure (fin_bl I q (by decide))
theorem pop_isB {K : Frg} : POp K (fun x y H Q => ∃ i j : Bool, x = .bl i ∧ y = .bl j ∧ Q (.bl (decide (i = j))) H) (fun μ a b q => ∃ i j, a = .bl i ∧ b = .bl j ∧ q (.bl (decide (i = j)))) := fun B μ G H a b va vb q Q o ra rb ⟨i, j, e1, e2, h⟩ gv => by
  subst e1 e2
  exact ⟨_, _, ra.bl_inv, rb.bl_inv, gv _ _ _ _ h (.refl o) (rep_bl _)⟩
theorem pop_isnotB {K : Frg} : POp K (fun x y H Q => ∃ i j : Bool, x = .bl i ∧ y = .bl j ∧ Q (.bl (!decide (i = j))) H) (fun μ a b q => ∃ i j, a = .bl i ∧ b = .bl j ∧ q (.bl (!decide (i = j)))) := fun B μ G H a b va vb q Q o ra rb ⟨i, j, e1, e2, h⟩ gv => by
  subst e1 e2
  exact ⟨_, _, ra.bl_inv, rb.bl_inv, gv _ _ _ _ h (.refl o) (rep_bl _)⟩
theorem pop_isN {K : Frg} : POp K (fun x y H Q => y = .non ∧ Q (.bl (decide (x = .non))) H) (fun μ a b q => b = .non ∧ q (.bl (isNone a))) := fun B μ G H a b va vb q Q o ra rb ⟨e, hq⟩ gv => by
  subst e
  exact ⟨rb.non_inv, by rw [isNone_ok ra]; exact gv _ _ _ _ hq (.refl o) (rep_bl _)⟩
theorem pop_notN {K : Frg} : POp K (fun x y H Q => y = .non ∧ Q (.bl (!decide (x = .non))) H) (fun μ a b q => b = .non ∧ q (.bl (!isNone a))) := fun B μ G H a b va vb q Q o ra rb ⟨e, hq⟩ gv => by
  subst e
  exact ⟨rb.non_inv, by rw [isNone_ok ra]; exact gv _ _ _ _ hq (.refl o) (rep_bl _)⟩
theorem oj_is : OpJ X W (compareOp .Is) (fo (isP false)) := OpJ.or (OpJ.of op_isN pop_isN) (OpJ.of op_isB pop_isB) fun a b μ q x h => by
  cases b with
  | non => exact .inl ⟨rfl, h⟩
  | bl j => cases a <;> first | exact h.elim | exact .inr ⟨_, _, rfl, rfl, h⟩
  | _ => exact h.elim
theorem oj_isnot : OpJ X W (compareOp .IsNot) (fo (isP true)) := OpJ.or (OpJ.of op_notN pop_notN) (OpJ.of op_isnotB pop_isnotB) fun a b μ q x h => by
  cases b with
  | non => exact .inl ⟨rfl, h⟩
  | bl j => cases a <;> first | exact h.elim | exact .inr ⟨_, _, rfl, rfl, h⟩
  | _ => exact h.elim
def lList (d : DE) : DL := fun ρ μ q x => d ρ μ (fun p μ1 => match seqOf μ1 p with
  | some (_, xs) => q xs μ1
  | none => False) x
theorem l_list (hm : X.mg "list" = none) (he : EJ X W e da) (hg : Gl X "list" := by rfl) (h3 : starEach [e] X.env = (false, eval e X.env) :: starEach [] X.env := by rfl) (h4 : (backTo pos (starEach [] X.env)).any (·.1) = false := by rfl) : LJ X W (.Call (.Name "list" p0) [e] [] pos) (lList da) :=
  pe_imp (pe_callTy (call_list_of) hg hm (by decide +kernel) (pa_cons he pa_nil h3) (by decide) (by decide) h3 h4) fun σ H Q ⟨B, ρ, μ, G, q, x, R, h, gv, gx⟩ =>
  ⟨B, ρ, μ, G, _, x, R, h, fun p v μ1 G1 H1 h1 g1 r1 => by
    cases e : seqOf μ1 p with
    | none => simp only [e] at h1
    | some z =>
      obtain ⟨t, xs⟩ := z
      simp only [e] at h1
      obtain ⟨a, vs, rfl, rs, hh⟩ := seq_ok g1.ok r1 e
      refine ⟨a, vs, rfl, ?_, fun l hl => ?_⟩
      · rcases hh with ⟨_, hh⟩ | ⟨_, hh⟩
        · exact .inl (.inl (.inl hh))
        · exact .inr hh
      · have gn := g1.ok.new2 (u := .lst vs) hl
        exact gv xs l vs μ1 G1 _ h1 (g1.trans gn) (g1.st.dom l hl) (g1.ok.sub.free hl) (g1.ok.freeM hl) upd_same rs, gx⟩
def eqS : PV → PV → Option Bool
  | .int i, .int j => some (decide (i = j))
  | .str i, .str j => some (decide (i = j))
  | .bl i, .bl j => some (decide (i = j))
  | .non, .non => some true
  | .non, .str _ => some false
  | .str _, .non => some false
  | .non, .int _ => some false
  | .int _, .non => some false
  | .str _, .int _ => some false
  | .int _, .str _ => some false
  | _, _ => none
def eqSP (neg : Bool) : F2 := fun _ a b q => match eqS a b with
  | some k => q (.bl (sgn neg k))
  | none => False
theorem eqS_ok {K : Frg} {B : BX} {G : Hp} {a b : PV} {va vb : V} {k : Bool} (h : eqS a b = some k) (ra : Rep K B G a va) (rb : Rep K B G b vb) : scal va vb = true ∧ decide (va = vb) = k := by
  cases a <;> cases b <;> simp only [eqS] at h <;> try contradiction
  all_goals (first | rw [ra.non_inv] | rw [ra.bl_inv] | rw [ra.int_inv] | rw [ra.str_inv]) <;> (first | rw [rb.non_inv] | rw [rb.bl_inv] | rw [rb.int_inv] | rw [rb.str_inv]) <;> cases h <;> exact ⟨rfl, by simp⟩
theorem eqSP_inv {neg : Bool} {μ : Mu} {a b : PV} {q : PV → Prop} (h : eqSP neg μ a b q) : ∃ k, eqS a b = some k ∧ q (.bl (sgn neg k)) := by
  unfold eqSP at h
  cases e : eqS a b with
  | none => simp only [e] at h
  | some k => simp only [e] at h; exact ⟨k, rfl, h⟩
theorem pop_eqS {K : Frg} : POp K rEq (eqSP false) := fun B μ G H a b va vb q Q o ra rb h gv => by
  obtain ⟨k, e, hq⟩ := eqSP_inv h
  obtain ⟨e1, e2⟩ := eqS_ok e ra rb
  exact ⟨e1, by rw [e2]; exact gv _ _ _ _ hq (.refl o) (rep_bl _)⟩
theorem pop_neS {K : Frg} : POp K rNe (eqSP true) := fun B μ G H a b va vb q Q o ra rb h gv => by
  obtain ⟨k, e, hq⟩ := eqSP_inv h
  obtain ⟨e1, e2⟩ := eqS_ok e ra rb
  exact ⟨e1, by rw [e2]; exact gv _ _ _ _ hq (.refl o) (rep_bl _)⟩
theorem oj_eqS : OpJ X W (compareOp .Eq) (fo (eqSP false)) := .of op_eq pop_eqS
theorem oj_neS : OpJ X W (compareOp .NotEq) (fo (eqSP true)) := .of op_ne pop_neS
end
end Px
namespace Px
open PySem PySem.Spec PyProof.Rows L2
open PySem.W (findIn typeIn keepIn subIn clsIn nsIn codeIn alongIn fnX envX)
def eArgs (f : Str) (p1 p2 : Pos) : Arguments := { posonlyargs := [], args := [⟨"self", none, p1⟩, ⟨f, none, p2⟩], vararg := none, kwonlyargs := [], kw_defaults := [], kwarg := none, defaults := [] }
def eBody (f msg : Str) (j : Nat) (p1 p2 p3 p4 p5 p6 q1 q2 q3 q4 : Pos) : List Stmt :=
  [.Expr (.Call (.Attribute (.Call (.Name "super" p1) [] [] p2) "__init__" p3) [.Constant (.str msg) j p4] [] p5) p6, .Assign [.Attribute (.Name "self" q1) f q2] (.Name f q3) q4]
def eScope (f : Str) : Scope := { kind := .function, names := [("self", .local), (f, .local), ("__class__", .free), ("super", .globalImplicit)], isGenerator := false, isCoroutine := false, more := [] }
/-- the call's node: a method's call, its line known -/
def MCall (msg : Str) (j : Nat) (p1 p2 p3 p4 p5 : Pos) (env : Env) : Prop := ∃ pl : Sem Bool, eval (.Call (.Attribute (.Call (.Name "super" p1) [] [] p2) "__init__" p3) [.Constant (.str msg) j p4] [] p5) env = (do
  let ov ← attributeBase (.Call (.Name "super" p1) [] [] p2) "__init__" env (eval (.Call (.Name "super" p1) [] [] p2) env)
  standAt p3.atName
  let (g, first) ← holding [ov] (getMethod ov "__init__" pl)
  callWith p5 g first (backTo p5 (starEach [.Constant (.str msg) j p4] env)) [])
/-- what the written part says of such a class at C, its __init__ at fI -/
structure ErrF (P : Program) (K : Frg) (C fI : Addr) (f : Str) : Prop where
  new : PySem.W.excInitIn K C He.veBase "ValueError.__new__" = true
  cd : ∃ cd, clsIn K C = some cd ∧ cd.hasDict = true ∧ HandSPX.refsVE cd.mro = true ∧ alongIn K "__init__" ((cd.mro.dropWhile (· != .ref C)).drop 1) = some (some (.builtin "ValueError.__init__"))
  sa : findIn K (.ref C) "__setattr__" = some (some (.builtin "object.__setattr__"))
  no : findIn K (.ref C) f = some none
  iC : findIn K (.ref C) "__init__" = some (some (.ref fI))
  tI : typeIn K (.ref fI) = some (.type "function")
  kC : keepIn K (.ref C) = true
  ex : subIn K (.ref C) (.type "BaseException") = some true
  ty : typeIn K (.ref C) = some (.type "type")
  ve : subIn K (.ref C) (.type "ValueError") = some true
  me : subIn K (.ref C) (.ref C) = some true
  op : nsIn K cStatics "thirdparty.any" = some none
  fn : ∃ (oc : Value) (od : Option Addr) (qual msg : Str) (j : Nat) (dV kV doc pm : Value) (an : Option Addr) (cda cc : Addr) (ct : Value) (osl : Array (Option Value)) (a1 a2 p1 p2 p3 p4 p5 p6 q1 q2 q3 q4 : Pos) (o2 o3 : Obj) (vs : Array Value) (file : Str) (tf : Tok),
    K.lookup fI = some ⟨oc, od, .func (fnX "__init__" qual (eArgs f a1 a2) (eBody f msg j p1 p2 p3 p4 p5 p6 q1 q2 q3 q4) (eScope f) [("__class__", cc)] dV kV doc pm an (.ref cda) ct), osl⟩ ∧ codeIn K (.ref cda) qual = true ∧
      K.lookup cc = some o2 ∧ o2.data = .cell (some (.ref C)) ∧ K.lookup cda = some o3 ∧ o3.data = .fields vs ∧ vs[2]? = some (.str file tf) ∧ (P.main.file == file) = true ∧
      (∀ u v : Value, bindArgs (fnX "__init__" qual (eArgs f a1 a2) (eBody f msg j p1 p2 p3 p4 p5 p6 q1 q2 q3 q4) (eScope f) [("__class__", cc)] dV kV doc pm an (.ref cda) ct) ⟨[u, v], []⟩ = pure ([("self", u), (f, v)] : List (Str × Value))) ∧ ∀ env : Env, MCall msg j p1 p2 p3 p4 p5 env
  sup : (P.main.scope.names.lookup ("super" : Str)).isSome = false
  nf : f ≠ "self" ∧ f ≠ "super" ∧ f ≠ "__class__" ∧ f ≠ "__debug__"
theorem one_sz (v : Value) : [v].length ≤ sizeLine := by rw [sizeLine_eq]; exact (by decide : 1 ≤ 16777216)
theorem kept1 {K : Frg} {h h' : Heap} {x : Addr} (X : K.In h) (hx : K.lookup x = none) (k : ∀ b o, b ≠ x → h.get? b = some o → h'.get? b = some o) : K.In h' := fun a o e => k a o (fun z => by rw [z, hx] at e; cases e) (X a o e)
/-- what __init__ leaves of a fresh error at x -/
structure EEnd (f : Str) (h h' : Heap) (x C dx t1 : Addr) (v : Value) : Prop where
  keep : ∀ b o, b ≠ x → h.get? b = some o → h'.get? b = some o
  obj : h'.get? x = some { cls := .ref C, dict := some dx, data := .fields #[.ref t1, .none, .none, .none, .bool false, .none] }
  dbig : h.objs.size ≤ dx
  dne : dx ≠ x
  ns : h'.Ns1 dx (fun y => if y = f then some v else none)
section
variable {P : Program} {w : World} {A : Around} {R : Result → Shared → Prop} {s : Shared} {K : Frg} {C fI : Addr} {f : Str} {mg : Str → Option Value}
/-- super().__init__(msg), the wrapper called -/
theorem bw_call {E : Value → Shared → Prop} {Q : Value → Shared → Prop} (T : ErrF P K C fI f) (X : K.In s.heap) {u x t0 : Addr} {rest : List Value} (hu : s.heap.get? u = some (PySem.W.kxs_mw "ValueError.__init__" x)) (hx : s.heap.get? x = some (HandSPX.excO C t0)) (hz : rest.length ≤ sizeLine)
    (hq : ∀ h' t1, (∀ b o, b ≠ x → s.heap.get? b = some o → h'.get? b = some o) → h'.get? x = some (HandSPX.excO C t1) → Q .none { s with heap := h' }) : wpAny (model P w) A (call (.ref u) rest) Q E s := by
  obtain ⟨nm, N', qn, bs, bm, hdct, sn, sub, ab, col, dd, k0, k1, k2, k3, k5, hC, hT⟩ := PySem.W.excInit_of X T.new
  obtain ⟨hh, g, d, tk, os⟩ := s
  refine wpAny_call (codeAny_of_tree ?_)
  show wpAny _ A.in1 (callAny (.ref u) ⟨rest, []⟩) _ _ _
  simp only [callAny]
  refine wpAny_bind (wpAny_load hu ?_)
  simp only [PySem.W.kxs_mw, show (Value.type "method-wrapper" == Value.type "method" || Value.type "method-wrapper" == Value.type "builtin_function_or_method" || Value.type "method-wrapper" == Value.type "method-wrapper") = true by decide, if_true]
  refine PySem.W.KFB.if_so (by decide) ?_
  refine wpAny_bind (PySem.W.check_bound_init PySem.F.excBase_ValueError.toExcCallFacts hC hx rfl ?_)
  refine wpAny_bind (wpAny_pure (wpAny_pure ⟨Code.quiet_builtin _ (by decide +kernel), codeAny_builtin PySem.F.excBase_ValueError.initEntry ?_⟩))
  refine PySem.W.exc_init_tree (cls := .ref C) (t0 := t0) (dv := none) (c2 := .none) (c3 := .none) (b4 := .bool false) hx hz fun h' k e' _ => hq h' _ k e'
theorem err_init (T : ErrF P K C fI f) {mb : Str → Option Value} {x t0 : Addr} {v : Value} (X : K.In s.heap) (hlim : s.heap.NoLimit) (hg : s.heap.Ns mainGlobals mg) (hb : s.heap.Ns builtinsNs mb) (hsu : mg "super" = none) (hbs : mb "super" = some (.type "super"))
    (hx : s.heap.get? x = some (HandSPX.excO C t0)) (hnx : K.lookup x = none) (hxg : x ≠ mainGlobals) (hroom : A.depth < recursionLimit) (hq : ∀ h' tk dx t1, EEnd f s.heap h' x C dx t1 v → R (.ok (.ret .none)) { s with heap := h', toks := tk }) :
    codeAny (model P w) A (.call (.ref fI) ⟨[.ref x, v], []⟩) R s := by
  obtain ⟨oc, od, qual, msg, j, dV, kV, doc, pm, an, cda, cc, ct, osl, a1, a2, p1, p2, p3, p4, p5, p6, q1, q2, q3, q4, o2, o3, vs, file, tf, ho, hcd, hcc, hcell, hcda, hfl, hvs, hfile, hbd, hmc⟩ := T.fn
  obtain ⟨cdd, hcdd, hdict, hmro, halong⟩ := T.cd
  obtain ⟨n1, n2, n3, n4⟩ := T.nf
  have sf : ("self" : Str) ≠ f := fun z => n1 z.symm
  have hself : (eScope f).names.lookup ("self" : Str) = some .local := rfl
  have hfl' : (eScope f).names.lookup f = some .local := by
    show (match f == "self" with | true => some NameKind.local | false => ([(f, NameKind.local), ("__class__", .free), ("super", .globalImplicit)] : List (Str × NameKind)).lookup f) = _
    have : (f == ("self" : Str)) = false := by simpa using n1
    rw [this]
    simp [List.lookup]
  have hcls : (eScope f).names.lookup ("__class__" : Str) = some .free := by
    have h1 : (("__class__" : Str) == f) = false := by simpa using fun z => n3 z.symm
    show ([("self", NameKind.local), (f, .local), ("__class__", .free), ("super", .globalImplicit)] : List (Str × NameKind)).lookup ("__class__" : Str) = _
    have h2 : (("__class__" : Str) == ("self" : Str)) = false := by decide
    simp only [List.lookup, h1, h2]
    rfl
  have hsup : (eScope f).names.lookup ("super" : Str) = some .globalImplicit := by
    have h1 : (("super" : Str) == f) = false := by simpa using fun z => n2 z.symm
    show ([("self", NameKind.local), (f, .local), ("__class__", .free), ("super", .globalImplicit)] : List (Str × NameKind)).lookup ("super" : Str) = _
    have h2 : (("super" : Str) == ("self" : Str)) = false := by decide
    have h3 : (("super" : Str) == ("__class__" : Str)) = false := by decide
    simp only [List.lookup, h1, h2, h3]
    rfl
  refine ks_codeAny_call_defAt (binds := [("self", .ref x), (f, v)]) hroom (X _ _ ho) rfl hlim (PySem.W.codeRec_of X hcd) rfl (BindsTo.of_eq ?_) ?_ ?_ (fun h0 hns k0 => ?_)
  · exact hbd _ _
  · intro y hy
    have hy : y ∈ ([("self", NameKind.local), (f, .local), ("__class__", .free), ("super", .globalImplicit)] : List (Str × NameKind)) := hy
    simp only [List.mem_cons, List.not_mem_nil, or_false] at hy
    rcases hy with rfl | rfl | rfl | rfl <;> exact fun z => nomatch z
  · intro y hy
    have hy : y ∈ ([("self", Value.ref x), (f, v)] : List (Str × Value)) := hy
    simp only [List.mem_cons, List.not_mem_nil, or_false] at hy
    rcases hy with rfl | rfl
    · exact hself
    · exact hfl'
  · have e0 : callEnv (fnX "__init__" qual (eArgs f a1 a2) (eBody f msg j p1 p2 p3 p4 p5 p6 q1 q2 q3 q4) (eScope f) [("__class__", cc)] dV kV doc pm an (.ref cda) ct) s.heap.objs.size fI = envX qual (eScope f) s.heap.objs.size fI (.ref cda) [("__class__", cc)] := rfl
    rw [e0]
    have X0 : K.In h0 := X.keeps k0
    have hx0 := k0 _ _ hx
    have lself : ([("self", Value.ref x), (f, v)] : List (Str × Value)).reverse.lookup ("self" : Str) = some (.ref x) := by
      show ([(f, v), ("self", Value.ref x)] : List (Str × Value)).lookup ("self" : Str) = _
      have h1 : (("self" : Str) == f) = false := by simpa using sf
      simp only [List.lookup, h1]
      rfl
    have lf : ([("self", Value.ref x), (f, v)] : List (Str × Value)).reverse.lookup f = some v := by
      show ([(f, v), ("self", Value.ref x)] : List (Str × Value)).lookup f = _
      simp [List.lookup]
    obtain ⟨nm, N', qn, bs, bm, hdct, sn, sub, ab, col, dd, kk0, kk1, kk2, kk3, kk5, hC, hT⟩ := PySem.W.excInit_of X0 T.new
    have hI0 : PySem.W.InstAt h0 x (HandSPX.excO C t0) C none := ⟨hx0, rfl, rfl, trivial⟩
    obtain ⟨pl, hev⟩ := hmc (envX qual (eScope f) s.heap.objs.size fI (.ref cda) [("__class__", cc)])
    refine ks_wpAt_execs_cons (ks_wpAt_Expr_any (ks_wpAt_MethodCall (pl := pl) ?_ hev) rfl rfl)
    · refine ks_wpAt_super_base (f := fI) (cc := cda) hsup hcls (by decide) rfl (X0 _ _ ho) rfl rfl rfl (X0 _ _ hcda) hfl hvs hfile T.sup ?_
      refine PySem.W.ks_loadName_global rfl hsup (Calls.loadGlobal_builtin (hg.keeps k0) hsu (hb.keeps k0) hbs ⟨rfl, ?_⟩)
      refine wpAny_loadName_free rfl hcls (by simp [List.lookup]) ⟨o2, X0 _ _ hcc, hcell⟩ ?_
      refine wpAny_loadName_local rfl hself hns lself ?_
      refine ks_wpAny_isType_cls hC rfl ⟨rfl, ?_⟩
      refine ks_wpAny_call_super hC rfl hx0 rfl (fun c z => nomatch z) (PySem.W.looks_subIn X0 T.me) fun h1 hso k1 => ?_
      have X1 : K.In h1 := X0.keeps k1
      have hx1 := k1 _ _ hx0
      have I1 : PySem.W.InstAt h1 x (HandSPX.excO C t0) C none := ⟨hx1, rfl, rfl, trivial⟩
      have hne : x ≠ C := PySem.W.ks_ne X1 I1 hcdd
      refine PySem.W.kxs_getMethod PySem.W.kxs_ValueError hso (PySem.W.looks_opaque X1 T.op) (l₀ := cdd.mro) ((PySem.W.looks_clsIn X1 hcdd).andThen .now) rfl X1 halong (I1.type.andThen (PySem.W.looks_subIn X1 T.ve)) hne (by decide) ?_
      have k2 : ∀ b o, h1.get? b = some o → (h1.push (PySem.W.kxs_mw "ValueError.__init__" x)).get? b = some o := fun b o e => Heap.get?_push_of_some _ e
      have hu2 : (h1.push (PySem.W.kxs_mw "ValueError.__init__" x)).get? h1.objs.size = some (PySem.W.kxs_mw "ValueError.__init__" x) := Heap.get?_push_at rfl rfl
      refine PySem.W.kxs_callWith (i := "ValueError.__init__") (x := x) rfl (Calls.evalArgs_plain (Calls.spliced_cons (Calls.Constant_str (k := j) (pos := p4) (Calls.spliced_nil ⟨hu2, ?_⟩))))
      refine bw_call (t0 := t0) T (X1.keeps k2) hu2 (k2 _ _ hx1) (one_sz _) fun h3 t1 k3 hx3 => ?_
      have hnot : ∀ b o, h0.get? b = some o → b ≠ x → h3.get? b = some o := fun b o e hb => k3 b o hb (k2 b o (k1 b o e))
      have X3 : K.In h3 := kept1 (X1.keeps k2) hnx k3
      obtain ⟨oL, es, ep, hL, rL⟩ := hns
      have hxL : s.heap.objs.size ≠ x := Nat.ne_of_gt (Heap.lt_size hx)
      have hns3 : h3.Ns s.heap.objs.size (fun y => ([("self", Value.ref x), (f, v)] : List (Str × Value)).reverse.lookup y) := ⟨oL, es, ep, hnot _ _ hL hxL, rL⟩
      refine wpAt_of_wpAny (wpAny_execs_cons (plainObj_wpAny_Assign_Attribute ?_ rfl))
      refine wpAny_Name (wpAny_loadName_local rfl hfl' hns3 lf (wpAny_Name (wpAny_loadName_local rfl hself hns3 lself ?_) (by decide))) (by simpa using n4)
      refine PySem.W.set_plain X3 (ox := HandSPX.excO C t1) (od := none) ⟨hx3, rfl, rfl, trivial⟩ T.sa ?_
      refine HandSPX.exc_osa X3 hx3 hcdd hmro hdict T.no fun h4 tk4 dx k4 dn dne hx4 hn4 => ?_
      show wpAny _ _ (execs _ _) _ _ _
      refine wpAny_execs_nil (hq h4 tk4 dx t1 ⟨fun b o hb e => k4 b o hb (hnot b o (k0 b o e) hb), hx4, ?_, dne, hn4⟩)
      have z1 : s.heap.objs.size < h0.objs.size := Heap.lt_size hL
      have z2 : s.heap.objs.size < h3.objs.size := Heap.lt_size (hnot _ _ hL hxL)
      exact Nat.le_of_lt (Nat.lt_of_lt_of_le z2 dn)
/-- a made error -/
structure EMade (f : Str) (h h' : Heap) (e C d : Addr) (v : Value) : Prop where
  keep : ∀ b o, h.get? b = some o → h'.get? b = some o
  new : h.objs.size ≤ e
  obj : ∃ t1 : Addr, h'.get? e = some { cls := .ref C, dict := some d, data := .fields #[.ref t1, .none, .none, .none, .bool false, .none] }
  dbig : h.objs.size ≤ d
  dne : d ≠ e
  ns : h'.Ns1 d (fun y => if y = f then some v else none)
theorem err_made (T : ErrF P K C fI f) {mb : Str → Option Value} {v : Value} (X : K.In s.heap) (hlim : s.heap.NoLimit) (hg : s.heap.Ns mainGlobals mg) (hb : s.heap.Ns builtinsNs mb) (hsu : mg "super" = none) (hbs : mb "super" = some (.type "super")) (hroom : A.depth + 1 < recursionLimit)
    (hq : ∀ h' tk e d, EMade f s.heap h' e C d v → R (.ok (.ret (.ref e))) { s with heap := h', toks := tk }) : codeAny (model P w) A (.call (.ref C) ⟨[v], []⟩) R s := by
  obtain ⟨nm, N', qn, bs, bm, hdct, sn, sub, ab, col, dd, kk0, kk1, kk2, kk3, kk5, hC, hT⟩ := PySem.W.excInit_of X T.new
  obtain ⟨hp, g, dr, tk, os⟩ := s
  have k : ∀ b o, hp.get? b = some o → ((hp.push (PySem.W.kdv_tup [v])).push (HandSPX.excO C hp.objs.size)).get? b = some o := fun b o e => Heap.get?_push_of_some _ (Heap.get?_push_of_some _ e)
  have hget : ((hp.push (PySem.W.kdv_tup [v])).push (HandSPX.excO C hp.objs.size)).get? (hp.objs.size + 1) = some (HandSPX.excO C hp.objs.size) := by heap_get
  have hnx : K.lookup (hp.objs.size + 1) = none := by
    cases e : K.lookup (hp.objs.size + 1) with
    | none => rfl
    | some o => exact absurd (Nat.lt_of_succ_lt (Heap.lt_size (show hp.get? (hp.objs.size + 1) = some o from X _ _ e))) (Nat.lt_irrefl _)
  have hmg : hp.objs.size + 1 ≠ mainGlobals := fun z => by
    have := hg.lt
    rw [← z] at this
    exact absurd this (by show ¬ hp.objs.size + 1 < hp.objs.size; omega)
  refine HandSPX.call_own PySem.F.excBase_ValueError hT hC (PySem.W.looks_findIn X T.iC) (fun self => PySem.W.bind_fn X self T.tI) (one_sz v) ?_
  refine err_init (s := ⟨(hp.push (PySem.W.kdv_tup [v])).push (HandSPX.excO C hp.objs.size), g, dr, tk, os⟩) T (X.keeps k) (hlim.keeps k) (hg.keeps k) (hb.keeps k) hsu hbs hget hnx hmg ?_ fun h' tk' dx t1 z => ?_
  · show A.depth + 1 < recursionLimit
    exact hroom
  · have old : ∀ b o, hp.get? b = some o → h'.get? b = some o := fun b o e => z.keep b o (Nat.ne_of_lt (Nat.lt_succ_of_lt (Heap.lt_size e))) (k b o e)
    have zz : hp.objs.size + 1 + 1 ≤ dx := by
      have q := z.dbig
      simpa only [Heap.size_push] using q
    exact ⟨rfl, hq h' tk' (hp.objs.size + 1) dx ⟨old, Nat.le_succ _, ⟨t1, z.obj⟩, (by show hp.objs.size ≤ dx; omega), z.dne, z.ns⟩⟩
end
theorem relO_one {f : Str} {v : V} {u : Value} (r : RelV v u) (g : Str) : RelO (List.lookup g [(f, v)]) (if g = f then some u else none) := by
  by_cases h : g = f
  · subst h
    rw [if_pos rfl]
    have : List.lookup g [(g, v)] = some v := by simp [List.lookup]
    rw [this]; exact r
  · rw [if_neg h]
    have hb : (g == f) = false := by simpa using h
    have : List.lookup g [(f, v)] = none := by simp [List.lookup, hb]
    rw [this]; trivial
/-- a class of the package with one field -/
def tMkE (C : Addr) (f : Str) (ta : TA) : L2.St → Hp → XK → Prop := fun σ H Q => ta σ H fun vs H1 => ∃ v, vs = [v] ∧ ∀ d, H1 d = none → Q (.ref C) (some d) (upd H1 d (.xd [(f, v)]))
section
variable {X : Cx} {C fI : Addr} {f : Str}
theorem pmk_err {x : Str} {a : Expr} {ta : TA} {p pos : Pos} {k : Nat} (T : ErrF X.prog X.K C fI f) (hm : X.mg x = some (.ref C)) (hsu : X.mg "super" = none) (hr : Rm k X.A) (ha : PA X [a] ta) (hg : Gl X x := by rfl) (hd : (x == ("__debug__" : Str)) = false := by decide)
    (he : starEach (a :: []) X.env = (false, eval a X.env) :: starEach [] X.env := by rfl) (hpl : (backTo pos (starEach [] X.env)).any (·.1) = false := by rfl) : L2N.PMk X (.Call (.Name x p) [a] [] pos) (tMkE C f ta) := by
  intro pins s σ H Q J h
  refine wpAny_Call_Name_kw (ld_glob J hg hm ?_ hd)
  refine PySem.W.callWith_K (h₀ := X.base) J.ok.mod.kin T.kC (thn (ha.run pos pins s σ H _ J h) fun us s1 hh => ?_) he hpl
  obtain ⟨vs, H1, J1, r1, v, ev, q1⟩ := hh
  subst ev
  refine ⟨J1.kIn, ?_⟩
  cases r1 with
  | cons rv rn =>
    rename_i v' us'
    cases rn
    show wpAny _ _ (call (.ref C) [v']) _ _ _
    have hlim := J1.nolimit
    obtain ⟨mb, hb1, hb2⟩ := J1.mod.blt
    have hgl := J1.mod.glob.keeps J1.bk
    have hbl := hb1.keeps J1.bk
    obtain ⟨hp, g, dr, tk, os⟩ := s1
    refine wpAny_call (err_made T J1.kIn hlim hgl hbl hsu ((hb2 _ (by decide)).trans (by decide +kernel)) (by have := hr.dp; omega) fun h' tk' e d M => ?_)
    show L2N.MkP X pins σ Q (.ref e) ⟨h', g, dr, tk', os⟩
    obtain ⟨t1, hoe⟩ := M.obj
    have hns := M.ns
    obtain ⟨G', g1, g2⟩ := restrict h' fun b => decide (b ≠ e)
    have gk : ∀ b, b ≠ e → G'.get? b = h'.get? b := fun b hb => g1 b (decide_eq_true hb)
    have ge : G'.get? e = none := g2 e (by simp)
    have old : ∀ b o, hp.get? b = some o → G'.get? b = some o := fun b o q => (gk b (Nat.ne_of_lt (Nat.lt_of_lt_of_le (Heap.lt_size q) M.new))).trans (M.keep b o q)
    have ob : ObjOk X.prog X.w (upd H1 d (.xd [(f, v)])) G' d (.xd [(f, v)]) := ⟨_, hns.at (fun o q => (gk d M.dne).trans q), fun y => relO_one rv y⟩
    have J2 : Inv X pins σ (upd H1 d (.xd [(f, v)])) ⟨G', g, dr, tk', os⟩ := J1.laid (t' := tk') old M.dbig ob
    refine ⟨e, _, _, ⟨G', g, dr, tk', os⟩, _, .ref C, some d, rfl, J2, fun b o q => ?_, ge, hoe, ⟨rfl, rfl, ?_⟩, rfl, rfl, ?_, rfl, J1.bare, raises_own T.ex T.ty, q1 d (J1.hok.fresh M.dbig)⟩
    · by_cases hb : b = e
      · have q' : G'.get? b = some o := q
        rw [hb, ge] at q'; cases q'
      · exact (gk b hb).symm.trans q
    · intro ws ews
      have ews : Data.fields #[.ref t1, .none, .none, .none, .bool false, .none] = .fields ws := ews
      cases ews
      rfl
    · rw [upd_ne (Ne.symm M.dne)]
      exact J1.hok.fresh M.new
end
/-- raise X(e): the error with its one field -/
def dRaise (c : Cl) (ds : DA) : DS := fun P ρ μ => ds ρ μ (fun ps μ1 => match ps with
  | [p] => P.xc (c, [p]) ρ μ1
  | _ => False) (fun xv μ1 => P.xc xv ρ μ1)
theorem s_raise {X : Cx} {W : WX} {c : Cl} {fI : Addr} {f : Str} {a : Expr} {ds : DA} {p pos pos' : Pos} {k : Nat} (hf : c.flds = [f]) (xc : xcB X.K c = true) (T : ErrF X.prog X.K (ca X.K c) fI f) (hm : X.mg c.name = some (.ref (ca X.K c))) (hsu : X.mg "super" = none) (hr : Rm k X.A) (hc : X.calm = true) (hfr : X.env.frame = some X.env.locals) (tk : TkI X W) (ha : AJ X W [a] ds)
    (hg : Gl X c.name := by rfl) (hd : (c.name == ("__debug__" : Str)) = false := by decide) (he : starEach (a :: []) X.env = (false, eval a X.env) :: starEach [] X.env := by rfl) (hpl : (backTo pos (starEach [] X.env)).any (·.1) = false := by rfl) :
    SJ X W (.Raise (some (.Call (.Name c.name p) [a] [] pos)) none pos') (dRaise c ds) := ps_imp (L2N.ps_raise hc (tk.n hfr) (pmk_err T hm hsu hr ha hg hd he hpl)) fun D σ H ⟨B, ρ, μ, G, P, R, h, eo⟩ =>
  ⟨B, ρ, μ, G, _, _, R, h, fun ps vs μ1 G1 H1 h0 g1 r1 => by
    match ps, h0 with
    | [p], h0 =>
      obtain ⟨v, ws, rfl, r, rn⟩ := r1.cons_inv
      rw [rn.nil_inv]
      refine ⟨v, rfl, fun d hd => ?_⟩
      have g2 := g1.ok.new1 (u := .xd [(f, v)]) hd
      have g := g1.trans g2
      exact eo.xc (c, [p]) (some d) ρ σ _ _ _ h0 (R.go g) g ⟨xc, .inr ⟨d, [v], rfl, by rw [hf]; exact upd_same, by rw [hf]; rfl, .cons (r.mono g2.gx) .nil⟩⟩, eo.gx R⟩
end Px
namespace Px
open PySem PySem.Spec PyProof.Rows L2
theorem xcB_xf {K : Frg} {c : Cl} (h : xcB K c = true) : XfC K (ca K c) := xfB_ok (He.ba h).1
theorem xcB_no {K : Frg} {c : Cl} {f : Str} (h : xcB K c = true) (hf : f ∈ c.flds) : PySem.W.findIn K (.ref (ca K c)) f = some none := of_decide_eq_true (List.all_eq_true.mp (He.ba h).2 f hf)
/-- where the error's dict is -/
def XD (c : Cl) (d : Option Addr) (dd : Addr) : Prop := (c.flds = [] ∧ d = none) ∨ d = some dd
/-- c0: the class that the clause names; i: the slot of its name; ds: the suite, by the error's address, dict, class -/
def dTry (c0 : Cl) (i : Nat) (db : DS) (ds : Addr → Addr → Cl → DS) : DS := fun P ρ μ => db { P with xc := fun xv ρ' μ' => br (subX xv.1 c0) (∀ a dd, ds a dd xv.1 { P with nx := fun r m => P.nx (r.set i none) m, bk := fun r m => P.bk (r.set i none) m, ct := fun r m => P.ct (r.set i none) m, xc := fun _ _ _ => False } (ρ'.set i (some (.exc a dd xv.1 xv.2))) μ') (P.xc xv ρ' μ') } ρ μ
theorem subX_eq {c c0 : Cl} (h : subX c c0 = true) (n : c0 ≠ .PrintError) : c = c0 := by
  unfold subX at h
  rcases Bool.or_eq_true_iff.mp h with z | z
  · exact of_decide_eq_true z
  · exact absurd (of_decide_eq_true z) n
theorem takes_no {X : Cx} : TkI X Wno := fun u s' z => by
  obtain ⟨_, _, _, _, _, _, _, _, _, _, _, _, _, _, _, _, w⟩ := z
  exact w.elim
/-- within the suite: e.f -/
def fXf (a dd : Addr) (c : Cl) (f : Str) : FU := fun p μ q _ => match p with
  | .exc a' d' c' ys => a' = a ∧ d' = dd ∧ c' = c ∧ (match fldAt f c.flds ys with
    | some y => q y μ
    | none => False)
  | _ => False
theorem fldAt_mem {f : Str} : ∀ {gs : List Str} {xs : List PV} {x : PV}, fldAt f gs xs = some x → gs ≠ []
  | [], xs, x, e => by cases xs <;> simp [fldAt] at e
  | _ :: _, _, _, _ => by simp
theorem e_xf {X : Cx} {a dd : Addr} {oe : Obj} {c : Cl} {d : Option Addr} {pn : List (Addr × Obj)} {e : Expr} {de : DE} {pos : Pos} {f : Str} (hc : xcB X.K c = true) (hf : f ∈ c.flds) (hz : L2N.Zn (.ref (ca X.K c)) d oe) (hv : ∃ vs, oe.data = .fields vs) (hx : XD c d dd)
    (he : EJ (X.suite a ((a, oe) :: pn)) Wno e de) (hb : attributeBase e f X.env (eval e X.env) = eval e X.env := by rfl) : EJ (X.suite a ((a, oe) :: pn)) Wno (.Attribute e f pos) (dUn (fXf a dd c f) de) := pe_imp (pe_xf (xcB_xf hc) (xcB_no hc hf) hz.zc hv he hb) fun σ H Q ⟨B, ρ, μ, G, q, x, R, h, gv, gx⟩ =>
  ⟨B, ρ, μ, G, _, x, R, h, fun p v μ1 G1 H1 h0 g1 r1 => by
    cases p with
    | exc a' d' c' ys =>
      obtain ⟨rfl, rfl, rfl, h1⟩ := h0
      cases e2 : fldAt f c'.flds ys with
      | none => simp only [e2] at h1
      | some y =>
        simp only [e2] at h1
        obtain ⟨rfl, z⟩ := r1.exc_inv
        rcases z with z | ⟨vs, e3, e4, rs⟩
        · exact absurd z (fldAt_mem e2)
        · obtain ⟨m, u, e5, r5⟩ := fldAt_ok e2 rs
          rcases hx with ⟨hx, _⟩ | hx
          · exact absurd hx (fldAt_mem e2)
          · exact ⟨rfl, rfl, d', _, u, hx, g1.ok.sub _ _ e3, e5, gv _ _ _ _ _ h1 g1 r5⟩
    | _ => exact h0.elim, gx⟩
/-- within the suite defs may be called: what is handled is known -/
theorem suite_md {X : Cx} {a : Addr} {oe : Obj} {cls : Value} {d : Option Addr} {pn : List (Addr × Obj)} (hz : L2N.Zn cls d oe) (hv : ∃ vs, oe.data = .fields vs) : Md (X.suite a ((a, oe) :: pn)) true := by
  obtain ⟨vs, e⟩ := hv
  exact .inr ⟨rfl, (a, oe), ⟨rfl, vs, e, hz.2.2 vs e⟩, List.mem_cons_self⟩
theorem suite_tk {X : Cx} {a : Addr} {pn : List (Addr × Obj)} : TkI (X.suite a pn) Wno := fun u s' z => by
  obtain ⟨_, _, _, _, _, _, _, _, _, _, _, _, _, _, _, _, w⟩ := z
  exact w.elim
theorem suite_rm {X : Cx} {a : Addr} {pn : List (Addr × Obj)} {k : Nat} (h : Rm k X.A) : Rm k (X.suite a pn).A := ⟨h.dp, h.un, h.gd⟩
end Px
namespace Px
open PySem PySem.Spec PyProof.Rows L2
abbrev Fs := List (Str × PV)
def putP (f : Str) (p : PV) : Fs → Fs
  | [] => [(f, p)]
  | (g, x) :: r => match decEq g f with
    | Decidable.isTrue _ => (g, p) :: r
    | Decidable.isFalse _ => (g, x) :: putP f p r
theorem putP_mem {f : Str} {p : PV} {l : List Str} (hf : f ∈ l) : ∀ {fs : Fs}, (∀ z ∈ fs, z.1 ∈ l) → ∀ z ∈ putP f p fs, z.1 ∈ l
  | [], _, z, hz => by
    have : z = (f, p) := by simpa [putP] using hz
    rw [this]; exact hf
  | (g, x) :: fs, h, z, hz => by
    unfold putP at hz
    split at hz
    · rcases List.mem_cons.mp hz with e | e
      · rw [e]; exact h (g, x) List.mem_cons_self
      · exact h z (List.mem_cons_of_mem _ e)
    · rcases List.mem_cons.mp hz with e | e
      · rw [e]; exact h (g, x) List.mem_cons_self
      · exact putP_mem hf (fun y hy => h y (List.mem_cons_of_mem _ hy)) z e
theorem FRep.put {K : Frg} {B : BX} {G : Hp} {f : Str} {p : PV} {v : V} (r : Rep K B G p v) : ∀ {fs : Fs} {ws : List (Str × V)}, FRep K B G fs ws → FRep K B G (putP f p fs) (putF f v ws)
  | [], _, .nil => .cons ⟨rfl, r⟩ .nil
  | (g, x) :: fs, (h, y) :: ws, .cons ⟨e, q⟩ t => by
    have e : g = h := e
    subst e
    unfold putP putF
    cases z : decEq g f with
    | isTrue z1 => rw [if_pos z1]; exact .cons ⟨rfl, r⟩ t
    | isFalse z1 => rw [if_neg z1]; exact .cons ⟨rfl, q⟩ (FRep.put r t)
theorem FRep.len {K : Frg} {B : BX} {G : Hp} {fs : Fs} {ws : List (Str × V)} (h : FRep K B G fs ws) : fs.length = ws.length := Paired.length h
/-- the fields, if they are all there in their order -/
def takeF : List Str → Fs → Option (List PV)
  | [], [] => some []
  | f :: fs, (g, x) :: r => (match decEq f g with
    | Decidable.isTrue _ => (match takeF fs r with
      | some xs => some (x :: xs)
      | none => none)
    | Decidable.isFalse _ => none)
  | _, _ => none
theorem takeF_ok {K : Frg} {B : BX} {G : Hp} : ∀ {gs : List Str} {fs : Fs} {xs : List PV} {ws : List (Str × V)}, takeF gs fs = some xs → FRep K B G fs ws → ∃ vs, ws = gs.zip vs ∧ vs.length = gs.length ∧ Reps K B G xs vs
  | [], [], xs, ws, e, h => by cases e; cases h; exact ⟨[], rfl, rfl, .nil⟩
  | [], _ :: _, xs, ws, e, h => by cases e
  | g :: gs, [], xs, ws, e, h => by cases e
  | g :: gs, (g', x) :: fs, xs, ws, e, h => by
    cases h with
    | cons q t =>
      rename_i w ws'
      obtain ⟨w1, w2⟩ := w
      obtain ⟨q1, q2⟩ := q
      have q1 : g' = w1 := q1
      subst q1
      unfold takeF at e
      cases z : decEq g g' with
      | isFalse z' => rw [z] at e; cases e
      | isTrue z' =>
        rw [z] at e
        subst z'
        cases e2 : takeF gs fs with
        | none => simp only [e2] at e; cases e
        | some ys =>
          simp only [e2] at e
          cases e
          obtain ⟨vs, e3, l, r⟩ := takeF_ok e2 t
          exact ⟨w2 :: vs, by rw [e3]; rfl, by simp [l], .cons q2 r⟩
/-- the new instance at y is as it shall be: it is never changed again -/
def mkEnd (y : Addr) (q : QV) : QV := fun r μ => match r with
  | .non => (match μ y with
    | some (.ins c fs) => (match takeF c.flds fs with
      | some xs => q (.obj c xs) (μ.del y)
      | none => False)
    | _ => False)
  | _ => False
/-- .. or may be changed -/
def mkEndC (y : Addr) (q : QV) : QV := fun r μ => match r with
  | .non => q (.cell y) μ
  | _ => False
def mkQ (fz : Bool) (y : Addr) (q : QV) : QV := match fz with
  | true => mkEnd y q
  | false => mkEndC y q
/-- a promise of C(..) by the promise of its __init__ -/
def MkC (fz : Bool) (c : Cl) (ct kc : Ct) : Prop := ∀ ps μ q x, kc ps μ q x → ∀ y, μ y = none → ct (.cell y :: ps) (μ.put y (.ins c [])) (mkQ fz y q) (fun xv μ2 => x xv (μ2.del y))
theorem spI_of {K : Frg} {W : WX} {fz : Bool} {ct : Ct} {B : BX} {ρ : En} {μ : Mu} {σ : L2.St} {G H : Hp} {c : Cl} {ps : List PV} {us : List V} {q : QV} {x : QX} {Q : VK} {y dx : Addr} (R : Rel K B ρ μ σ G H) (r : Reps K B G ps us) (h : ∀ y, μ y = none → ct (.cell y :: ps) (μ.put y (.ins c [])) (mkQ fz y q) (fun xv μ2 => x xv (μ2.del y)))
    (gv : GoodV K B μ G H q Q) (gx : GoodX K W B μ G H σ x) (kc : kcB K c = true) (hy : H y = none) (hdx : H dx = none) (ne : dx ≠ y) : spP K ct (.ref y :: us) (upd (upd H dx (.own y)) y (.ins (ca K c) dx [])) (fun v H2 => v = .non ∧ Q (.ref y) H2) (fun cls d H' => W cls d σ H') := by
  have o := R.ok
  have g1 := o.new2 (u := .own y) hdx
  have hy1 : upd H dx (.own y) y = none := by rw [upd_ne (Ne.symm ne)]; exact hy
  have g2 := g1.ok.newC (u := .ins (ca K c) dx []) (c := .ins c []) hy1 ⟨dx, [], rfl, kc, fun _ z => (nomatch z), .nil⟩
  have g12 := g1.trans g2
  refine ⟨B, _, G, .cell y :: ps, _, _, g12.ok, .cons (rep_cell y) (r.mono g12.gx), h y (o.freeM hy), fun p v μ' G' H' hp g rr => ?_, fun xv d μ' G' H' hx g rr => ?_⟩
  · have gg := g12.trans g
    cases fz with
    | true =>
      cases p with
      | non =>
        unfold mkQ mkEnd at hp
        cases e : μ' y with
        | none => simp only [e] at hp
        | some cc =>
          cases cc with
          | ins c' fs =>
            simp only [e] at hp
            cases e2 : takeF c'.flds fs with
            | none => simp only [e2] at hp
            | some xs =>
              simp only [e2] at hp
              obtain ⟨ga, nb, u, ha, dx', ws, rfl, kc, fl, fr⟩ := g.ok.cell y _ e
              have gf := g.ok.goFrz (by rw [e]; intro z; cases z) ha ga nb
              obtain ⟨vs, rfl, l, rs⟩ := takeF_ok e2 fr
              refine ⟨rr.non_inv, gv _ _ _ _ _ hp (gg.trans gf) ?_⟩
              simp only [Rep]
              exact ⟨y, dx', vs, rfl, kc, upd_same, l, rs.mono gf.gx⟩
          | _ => simp only [e] at hp
      | _ => exact hp.elim
    | false =>
      cases p with
      | non => exact ⟨rr.non_inv, gv _ _ _ _ _ hp gg (rep_cell y)⟩
      | _ => exact hp.elim
  · have gd := g.ok.goDel y
    exact gx xv d _ G' H' hx ((g12.trans g).trans gd) rr
theorem roomH_make {k : Nat} {A : Around} (r : Rm (k + 1) A) (C : Addr) (us : List Value) (kw : List (Str × Value)) : Rm k (A.under (.builtin "type.__call__" ⟨.ref C :: us, kw⟩)) :=
  ⟨by have := r.dp; rw [make_depth]; omega, by have := r.un; rw [make_units]; omega, by have h := r.gd; first | exact h | simpa [Around.under, Code.guards, Code.isGuard, guardIds, pushGuards] using h⟩
section
variable {X : Cx} {W : WX} {k : Nat} {c : Cl} {fI : Addr} {ks : List Str} {fz : Bool} {ct : Ct} {p0 pos : Pos} {e : Expr} {es : List Expr} {ds dk : DA} {kws : List Keyword}
theorem run_mk {pins : List (Addr × Obj)} {σ : L2.St} {H : Hp} {s : Shared} {Q : VK} {C : Addr} {us wz : List Value} {vs : List V} {sp : Sp} (M : Mk X.K C fI) (Fn : FnS false X.prog X.w X.K X.mg X.base k fI ks sp) (hc : X.calm = true) (hr : Rm (k + 1) X.A) (tk : TkI X W) (J : Inv X pins σ H s) (hl : wz.length = ks.length) (r : Vals vs (us ++ wz))
    (h : ∀ y dx, H y = none → H dx = none → dx ≠ y → sp (.ref y :: vs) (upd (upd H dx (.own y)) y (.ins C dx [])) (fun v H2 => v = .non ∧ Q (.ref y) H2) (fun cls d H' => W cls d σ H')) :
    wpAny (model X.prog X.w) X.A (call (.ref C) us (ks.zip wz)) (EP X pins σ Q) X.xe s := by
  have hq := h (s.heap.objs.size + 1) s.heap.objs.size (J.hok.fresh (Nat.le_succ _)) (J.hok.fresh (Nat.le_refl _)) (Nat.ne_of_lt (Nat.lt_succ_self _))
  have J2 := Inv.made (C := C) J
  have r2 : Vals (V.ref (s.heap.objs.size + 1) :: vs) ((Value.ref (s.heap.objs.size + 1) :: us) ++ wz) := .cons rfl r
  refine wpAny_call (make_map (f := fI) J.kIn M.makes M.init (beq_iff_eq.mp M.fn) (codeAny_mono (Fn _ X.stack _ _ (Value.ref (s.heap.objs.size + 1) :: us) wz _ _ _ (.inl (J.ok.hd hc)) (roomH_make hr C us _) (J2.env0.make C us _) hl r2 hq) fun rr s' hq' => ?_))
  cases rr with
  | error er => exact tk er s' (XI.of_call J2 (fun _ _ _ z => z) hq')
  | ok fl =>
    cases fl with
    | ret u =>
      obtain ⟨v, H', J3, rv, ev, q3⟩ := J2.after hq'
      subst ev
      exact ⟨rv, ⟨V.ref (s.heap.objs.size + 1), H', J3, rfl, q3⟩⟩
    | next => exact False.elim hq'
    | brk => exact False.elim hq'
    | cont => exact False.elim hq'
/-- v(e, ..): v a local that holds the class c -/
def isCls (c : Cl) (p : PV) : Bool := match p with
  | .cls d => decide (d = c)
  | _ => false
theorem isCls_ok {c : Cl} {p : PV} (h : isCls c p = true) : p = .cls c := by
  cases p with
  | cls d => rw [of_decide_eq_true h]
  | _ => cases h
def dMkV (c : Cl) (kc : Ct) (df : DE) (ds : DA) : DE := fun ρ μ q x => df ρ μ (fun p μ1 => br (isCls c p) (dCall kc ds ρ μ1 q x) False) x
theorem star_pv {pins : List (Addr × Obj)} {σ : L2.St} {H G : Hp} {μ : Mu} {s : Shared} {B : BX} {p : PV} {v : V} {u : Value} {t : Bool} {xs : List PV} {E : Value → Shared → Prop} {Q : List Value → Shared → Prop} (J : Inv X pins σ H s) (o : Ok X.K B μ G H) (r : Rep X.K B G p v) (rv : RelV v u) (hp : seqOf μ p = some (t, xs))
    (hQ : ∀ vs us s', Inv X pins σ H s' → Vals vs us → Reps X.K B G xs vs → Q us s') : PySem.W.StarOf (model X.prog X.w) X.A E u Q s := by
  obtain ⟨a, vs, rfl, rs, hh⟩ := seq_ok o r hp
  obtain rfl : u = Value.ref a := rv
  rcases hh with ⟨_, hh⟩ | ⟨_, hh⟩
  · exact StX.star_lst J (.inl (.inl hh)) fun us s' J' rr => hQ vs us s' J' rr rs
  · exact star_tup J hh fun us s' J' rr => hQ vs us s' J' rr rs
/-- v(*e) -/
theorem e_mkVS {x : Str} {p1 : Pos} {df de : DE} {kcc : Ct} (kc : kcB X.K c = true) (mc : MkC fz c ct kcc) (M : Mk X.K (ca X.K c) fI) (Fn : FnS false X.prog X.w X.K X.mg X.base k fI [] (spP X.K ct)) (hc : X.calm = true) (hr : Rm (k + 1) X.A) (tk : TkI X W) (hf : EJ X W (.Name x p0) df) (he : EJ X W e de)
    (h1 : starEach [.Starred e p1] X.env = [(true, eval e X.env)] := by rfl) : EJ X W (.Call (.Name x p0) [.Starred e p1] [] pos) (dMkV c kcc df (dStar de dNil)) := by
  refine ⟨fun pins s σ H Q J ⟨B, ρ, μ, G, q, z, R, h, gv, gx⟩ => ?_⟩
  refine wpAny_Call_Name_kw (thn (hf.run pins s σ H (fun v H1 => ∃ μ1 G1, Go X.K B μ G H μ1 G1 H1 ∧ v = .ref (ca X.K c) ∧ dCall kcc (dStar de dNil) ρ μ1 q z) J
    ⟨B, ρ, μ, G, _, z, R, h, fun p v μ1 G1 H1 h0 g1 r1 => by
      obtain ⟨e1, h1⟩ := br_and h0
      have e1 := isCls_ok e1
      subst e1
      exact ⟨μ1, G1, g1, r1.cls_inv, h1⟩, gx⟩) fun u s1 ⟨v, H1, J1, rv, μ1, G1, g1, ev, hd⟩ => ?_)
  subst ev
  obtain rfl : u = Value.ref (ca X.K c) := rv
  refine PySem.W.callWith_S (h₀ := X.base) J.ok.mod.kin M.kp (thn (he.run pins s1 σ H1 (fun v H2 => ∃ μ2 G2 p t xs, Go X.K B μ G H μ2 G2 H2 ∧ Rep X.K B G2 p v ∧ seqOf μ2 p = some (t, xs) ∧ kcc (xs ++ []) μ2 q z) J1
    ⟨B, ρ, μ1, G1, _, z, R.go g1, hd, fun p v μ2 G2 H2 h2 g2 r2 => by
      cases e0 : seqOf μ2 p with
      | none => simp only [e0] at h2
      | some zz =>
        obtain ⟨t, xs⟩ := zz
        simp only [e0] at h2
        exact ⟨μ2, G2, p, t, xs, g1.trans g2, r2, e0, h2⟩, gx.go g1⟩) fun u2 s2 ⟨v2, H2, J2, rv2, μ2, G2, p, t, xs, g2, r2, hp, h2⟩ => ?_) h1
  refine star_pv J2 g2.ok r2 rv2 hp fun vs us s3 J3 rr rs => ⟨J3.kIn, ?_⟩
  rw [List.append_nil] at h2
  exact run_mk (wz := []) M Fn hc hr tk J3 rfl (by rw [List.append_nil]; exact rr) fun y dx hy hdx ne => spI_of (R.go g2) rs (mc _ _ _ _ h2) (gv.go g2) (gx.go g2) kc hy hdx ne
end
def setAt (f : Str) (o p : PV) (μ : Mu) (q : Mu → Prop) : Prop := match o with
  | .cell a => (match μ a with
    | some (.ins c fs) => br (memS f c.flds && decide (fs.length < 1000)) (q (μ.put a (.ins c (putP f p fs)))) False
    | _ => False)
  | _ => False
def dAttrSet (f : Str) (dO d : DE) : DS := fun P ρ μ => d ρ μ (fun p μ1 => dO ρ μ1 (fun o μ2 => setAt f o p μ2 fun μ3 => P.nx ρ μ3) (fun xv μ' => P.xc xv ρ μ')) (fun xv μ' => P.xc xv ρ μ')
theorem s_attr {X : Cx} {W : WX} {f : Str} {o e : Expr} {d dO : DE} {pos' pos : Pos} (ho : EJ X W o dO) (hv : EJ X W e d)
    (hsw : swapsWith e (some (.Attribute o f pos')) pos.line X.env = pure false := by rfl) : SJ X W (.Assign [.Attribute o f pos'] e pos) (dAttrSet f dO d) :=
  ps_imp (ps_fld ho hv hsw) fun D σ H ⟨B, ρ, μ, G, P, R, h, eo⟩ =>
  ⟨B, ρ, μ, G, _, _, R, h, fun p v μ1 G1 H1 h1 g1 r1 => ⟨B, ρ, μ1, G1, _, _, R.go g1, h1, fun o w μ2 G2 H2 h2 g2 r2 => by
    have g := g1.trans g2
    cases o with
    | cell a =>
      unfold setAt at h2
      cases e0 : μ2 a with
      | none => simp only [e0] at h2
      | some cc =>
        cases cc with
        | ins c fs =>
          simp only [e0] at h2
          obtain ⟨hb, h2⟩ := br_and h2
          obtain ⟨b2, b3⟩ := He.ba hb
          obtain ⟨ga, nb, u, ha, dx, ws, rfl, kc, fl, fr⟩ := g2.ok.cell a _ e0
          have k := kcB_ok kc
          have gp := g2.ok.goPut (d := .ins c (putP f p fs)) (u := .ins (ca X.K c) dx (putF f v ws)) e0 ⟨dx, _, rfl, kc, putP_mem (memS_ok b2) fl, fr.put (r1.mono g2.gx)⟩
          exact ⟨a, ca X.K c, dx, ws, r2.cell_inv, ha, k.cls, k.no f (memS_ok b2), by rw [← fr.len]; exact of_decide_eq_true b3, eo.nx _ _ _ _ _ h2 (R.go (g.trans gp)) (g.trans gp)⟩
        | _ => simp only [e0] at h2
    | _ => exact h2.elim, (eo.go g1).gx (R.go g1)⟩, eo.gx R⟩
section
variable {P : Program} {w : World} {K : Frg} {mg : Str → Option Value} {base : Heap} {x qual : Str} {params : Arguments} {body : List Stmt} {scope : Scope} {dvs : List V} {kws : List (Str × V)} {f : Addr} {fd : FuncData} {N ps : List Str} {k : Nat}
theorem cxUpN : StX.CXUp (CXI K P w) := by
  rintro outer s H s2 H2 E e s' un kp ho ⟨a, B, H', cls, d, ea, fl, hok, ub, na, os, ag, he⟩
  refine ⟨a, B, H', cls, d, ea, fl, hok, ⟨fun b o q n hb => ub.keep b o (kp b o q) (un.free b o q n (by simp)) hb, fun b o q hb => ub.slot b o (kp b o q) hb, fun b o q n => ub.free b o (kp b o q) (un.free b o q n (by simp)),
    fun b o q hb => ub.there b o (kp b o q) hb, fun b xs q => ub.tups b xs (un.tups b xs q), fun b o xs q => ub.frzs b o xs (un.frzs b o xs q), fun b ps q => ?_⟩, na, by rw [os]; exact ho, ag, he⟩
  obtain ⟨m1, e1⟩ := un.tbls b ps q
  obtain ⟨m2, e2⟩ := ub.tbls b _ e1
  exact ⟨m1 ++ m2, by rw [e2, Array.append_assoc]⟩
theorem fnS_of_R {sp : Sp} {k : Nat} (Fn : FnRG P w K mg base (CXI K P w) k f sp) : FnS false P w K mg base k f [] sp := fun A outer s H us ws vs Q E hm hr e0 hl r h => by
  have hw : ws = [] := List.eq_nil_of_length_eq_zero hl
  subst hw
  rw [List.append_nil] at r
  rcases hm with z | ⟨z, _⟩
  · exact Fn A outer s H us vs Q E ⟨z, hr.dp, hr.un, hr.gd⟩ e0 r h
  · cases z
/-- def f(a, .., *v): n by place, the others one tuple -/
def starC (n : Nat) (c : Ct) : Ct := fun as μ q z => n ≤ as.length ∧ (as.drop n).length ≤ sizeLine ∧ c (as.take n ++ [.tup (as.drop n)]) μ q z
theorem spP_star {n : Nat} {c : Ct} {vs : List V} {H : Hp} {Q : VK} {E : XK} (h : spP K (starC n c) vs H Q E) {p : Addr} (hp : H p = none) : spP K c (vs.take n ++ [.ref p]) (upd H p (.tup (vs.drop n))) Q E := by
  obtain ⟨B, μ, G, as, q, z, o, r, ⟨hn, hl, hc⟩, hq, hx⟩ := h
  have g := o.new1 (u := .tup (vs.drop n)) hp
  exact ⟨B, μ, _, _, q, z, g.ok, ((r.take n).mono g.gx).append (.cons (rep_tup upd_same ((r.drop n).mono g.gx)) .nil), hc, hq.go g, fun xv d μ' G' H' h1 g' => hx xv d μ' G' H' h1 (g.trans g')⟩
theorem fn_star {qs : List Str} {pv : Str} (Fn : FunD K x qual params body scope [] kws f fd) (S : FnScope N (qs ++ [pv]) scope) (c : Ct) (d : DS) (hb : ∀ (kV doc pm : Value) (an : Option Addr) (cdv ct : Value) (us rest : List Value), us.length = qs.length → bindArgs (PySem.W.fnOf x qual params body scope .none kV doc pm an cdv ct) ⟨us ++ rest, []⟩ = (newTuple rest >>= fun t => pure (qs.zip us ++ [(pv, t)])))
    (der : ∀ (cm : Bool) (pn : List (Addr × Obj)) (cd : Value) (A : Around) (outer : List Env) (s : Shared) (H : Hp) (E : XK), (false = false → cm = true) → Here false (cxG cm pn P w K mg base N qual scope f cd A outer s H E) (fun cls dd _ H' => E cls dd H') k →
      BJ (cxG cm pn P w K mg base N qual scope f cd A outer s H E) (fun cls dd _ H' => E cls dd H') body d)
    (pure_ : ∀ as μ q z, c as μ q z → d (endsOf q z) (startE N.length as) μ) : FnS false P w K mg base (k + 1) f [] (spP K (starC qs.length c)) := by
  obtain ⟨oc, od, dV, kV, doc, pm, an, cdv, ct, osl, rfl, lk, hcd, hD, _⟩ := Fn.ex
  rcases hD with ⟨_, rfl⟩ | ⟨e, _⟩
  · refine fnS_of_R (FnRG.imp (fn_starG (ps := qs) (pv := pv) (sp := spP K c) lk hcd S cxUpN (fun us rest hu => ?_) fun A outer s H vs Q E hr hs => ⟨_, der true [] cdv A outer s H E (fun _ => rfl) (here_of (rm_of hr) (.inl rfl)), body_of pure_ hs⟩) fun vs H Q E h => ?_)
    · exact hb kV doc pm an cdv ct us rest hu
    · refine ⟨vs.take qs.length, vs.drop qs.length, (List.take_append_drop _ _).symm, ?_, ?_, fun p hp => spP_star h hp⟩
      · obtain ⟨B, μ, G, as, q, z, _, r, ⟨hn, hl, _⟩, _⟩ := h
        rw [List.length_take, r.length]; omega
      · obtain ⟨B, μ, G, as, q, z, _, r, ⟨hn, hl, _⟩, _⟩ := h
        rw [(r.drop _).length]; exact hl
  · exact absurd rfl e
end
section
variable {X : Cx} {W : WX} {hot : Bool} {k : Nat} {m : Str} {p0 apos pos : Pos} {o e : Expr} {es : List Expr} {d : DE} {ds dk : DA} {ks : List Str} {kws : List Keyword}
/-- what is known of a method: for each class of the table the def at f keeps its promise -/
def MTab (hot : Bool) (X : Cx) (k : Nat) (m : Str) (ks : List Str) (tab : Cl → Option Ct) : Prop := ∀ c ct, tab c = some ct → m ∉ c.flds ∧ ∃ f, Cls X.K (ca X.K c) ∧ Meth X.K (ca X.K c) m f ∧ FnS hot X.prog X.w X.K X.mg X.base k f ks (spP X.K ct)
variable {c : Cl} {mc : Value} {pm g : Addr} {ct : Ct}
/-- C.m(e, ..), m a classmethod -/
def dCm (c : Cl) (ct : Ct) (d : DE) (ds : DA) : DE := fun ρ μ q x => d ρ μ (fun p μ1 => br (isCls c p) (ds ρ μ1 (fun ps μ2 => ct (.cls c :: ps) μ2 q x) x) False) x
theorem run_cms {pins : List (Addr × Obj)} {σ : L2.St} {H : Hp} {s : Shared} {C u : Addr} {sp : Sp} {Q : VK} {us : List Value} {vs : List V} (Fn : FnS hot X.prog X.w X.K X.mg X.base k g [] sp) (md : Md X hot) (hr : Rm k X.A) (tk : TkI X W) (J : Inv X ((u, PySem.W.methodObj (.ref g) (.ref C)) :: pins) σ H s)
    (r : Vals vs us) (h : sp (.ref C :: vs) H Q (fun cls d H' => W cls d σ H')) : wpAny (model X.prog X.w) X.A (call (.ref u) us) (EP X pins σ Q) X.xe s := by
  have hm : X.A.handled = none ∨ (hot = true ∧ ∃ p, L2H.Hot1 X.A p ∧ L2H.PinOk X.stack H s p) := by
    rcases md with z | ⟨z, p, hp, mem⟩
    · exact .inl (J.ok.hd z)
    · have P1 := J.pin p (List.mem_append_left _ mem)
      exact .inr ⟨z, p, hp, ⟨P1.1, P1.2.1, fun hq => (List.mem_cons.mp (J.stkSub p.1 hq)).elim P1.2.2.1 P1.2.2.2.1, P1.2.2.2.2⟩⟩
  refine wpAny_call (PySem.W.method_call (ClX.pin_at J) (codeAny_mono (Fn X.A X.stack s H (.ref C :: us) [] (.ref C :: vs) Q _ hm hr J.env0 rfl (by rw [List.append_nil]; exact .cons rfl r) h) fun rr s' hq => ?_))
  cases rr with
  | error er => exact tk er s' (XI.of_call (ClX.unpin J) (fun _ _ _ z => z) hq)
  | ok fl =>
    cases fl with
    | ret u => exact ClX.unpinE (J.after hq)
    | next => exact False.elim hq
    | brk => exact False.elim hq
    | cont => exact False.elim hq
theorem e_cmeth (kn : knB X.K c = true) {pl : Sem Bool} (rd : ClX.CRead X.K (ca X.K c) mc) (cm : ClX.CMet X.K (ca X.K c) mc m pm g) (Fn : FnS hot X.prog X.w X.K X.mg X.base k g [] (spP X.K ct)) (md : Md X hot) (hr : Rm k X.A) (tk : TkI X W) (ho : EJ X W o d) (ha : AJ X W (e :: es) ds)
    (h2 : starEach (e :: es) X.env = (false, eval e X.env) :: starEach es X.env := by rfl) (h3 : (backTo pos (starEach es X.env)).any (·.1) = false := by rfl)
    (h4 : eval (.Call (.Attribute o m apos) (e :: es) [] pos) X.env = (do
      let ov ← eval o X.env
      standAt apos.atName
      let (g, first) ← holding [ov] (getMethod ov m pl)
      callWith pos g first (backTo pos (starEach (e :: es) X.env)) (backToKw pos (keywordEach [] X.env))) := by rfl) : EJ X W (.Call (.Attribute o m apos) (e :: es) [] pos) (dCm c ct d ds) := by
  refine ⟨fun pins s σ H Q J ⟨B, ρ, μ, G, q, z, R, h, gv, gx⟩ => ?_⟩
  refine PySem.W.methodCall_KW (pl := pl) (thn (ho.run pins s σ H (fun v H1 => ∃ μ1 G1, Go X.K B μ G H μ1 G1 H1 ∧ v = .ref (ca X.K c) ∧ ds ρ μ1 (fun ps μ2 => ct (.cls c :: ps) μ2 q z) z) J ⟨B, ρ, μ, G, _, z, R, h, fun p v μ1 G1 H1 h0 g1 r1 => by
      obtain ⟨e1, h1⟩ := br_and h0
      have e1 := isCls_ok e1
      subst e1
      exact ⟨μ1, G1, g1, r1.cls_inv, h1⟩, gx⟩) fun u s1 ⟨v, H1, J1, rv, μ1, G1, g1, ev, h1⟩ => ?_) h4
  subst ev
  obtain rfl : u = Value.ref (ca X.K c) := rv
  refine ClX.getmethcm_ok J1 rd cm fun s2 J2 => ?_
  refine ClX.callwith_cm J2 (ClX.base_none J1 (Nat.le_refl _)) cm.fi (thn (ha.run pos _ s2 σ H1 (fun ws H2 => spP X.K ct (.ref (ca X.K c) :: ws) H2 Q fun cls d H' => W cls d σ H') J2 ⟨B, ρ, μ1, G1, _, z, R.go g1, h1, fun ps ws μ2 G2 H2 h2 g2 r2 => spP_of (R.go (g1.trans g2)) (.cons (rep_cls c kn) r2) h2 (gv.go (g1.trans g2)) (gx.go (g1.trans g2)), gx.go g1⟩) fun us s3 ⟨ws, H2, J3, r, q2⟩ => ⟨⟨ClX.pin_at J3, J3.kIn⟩, ?_⟩) h2 h3
  exact run_cms Fn md hr tk J3 r q2
end
end Px
namespace Px
open PySem PySem.Spec PyProof.Rows L2
/-- where a def stands -/
inductive At where
  | glo (x : Str)
  | meth (c m : Str)
  | cm (c m : Str)
  | pr (c m : Str)
  | ps (c m : Str)
  | st (c m : Str)
/-- the record of a classmethod C.m, its def -/
abbrev cmRec (K : Frg) (C : Addr) (m : Str) : Addr := He.ma K C m
abbrev cmFn (K : Frg) (C : Addr) (m : Str) : Addr := He5.wf K C "classmethod" m
/-- the def of a staticmethod -/
abbrev smFn (K : Frg) (C : Addr) (m : Str) : Addr := He5.wf K C "staticmethod" m
abbrev prFn (K : Frg) (C : Addr) (m : Str) : Addr := He5.wf K C "property" m
/-- the setter of a property -/
def psFn (K : Frg) (C : Addr) (m : Str) : Addr := match PySem.W.recIn K (He.ma K C m) "property" with
  | some (_ :: .ref g :: _) => g
  | _ => 0
def At.ad (K : Frg) : At → Addr
  | .glo x => He.ga K x
  | .meth c m => He.ma K (He.ga K c) m
  | .cm c m => cmFn K (He.ga K c) m
  | .pr c m => prFn K (He.ga K c) m
  | .ps c m => psFn K (He.ga K c) m
  | .st c m => smFn K (He.ga K c) m
/-- one def of the text -/
structure DefP where
  at_ : At
  name : Str
  qual : Str
  params : Arguments
  body : List Stmt
  scope : Scope
  dfl : List He.Dv := []
  kwd : List (Str × He.Dv) := []
abbrev FnV := He.FnW
def fnV (K : Frg) (p : At) : FnV := match K.lookup (p.ad K) with
  | some ⟨_, _, .func fd, _⟩ => some (fd.name, fd.qualname, fd.params, fd.body, fd.scope, fd.globals, fd.closure, fd.builtins)
  | _ => none
def DefP.val (d : DefP) : FnV := some (d.name, d.qual, d.params, .stmts d.body, d.scope, mainGlobals, [], builtinsNs)
def DefP.dvs (K : Frg) (d : DefP) : List V := d.dfl.map (He.Dv.v K)
def DefP.kws (K : Frg) (d : DefP) : List (Str × V) := d.kwd.map fun q => (q.1, q.2.v K)
def DefP.ok (K : Frg) (d : DefP) : Bool := PySem.W.keepIn K (.ref (d.at_.ad K)) && (match K.lookup (d.at_.ad K) with
  | some ⟨_, _, .func fd, _⟩ => PySem.W.codeIn K fd.code d.qual && (He.dflB K fd.defaults (d.dvs K) && He.kwdB K fd.kwdefaults (d.kws K))
  | _ => false)
theorem DefP.funD {K : Frg} {d : DefP} (e : fnV K d.at_ = d.val) (c : d.ok K = true) : ∃ fd, FunD K d.name d.qual d.params d.body d.scope (d.dvs K) (d.kws K) (d.at_.ad K) fd := by
  obtain ⟨kp, c2⟩ := He.ba c
  unfold fnV at e
  cases q : K.lookup (d.at_.ad K) with
  | none => rw [q] at c2; cases c2
  | some o =>
    obtain ⟨oc, od, dt, osl⟩ := o
    rw [q] at c2 e
    cases dt with
    | func fd =>
      obtain ⟨n1, n2, n3, n4, n5, n6, n7, n8, n9, n10, n11, n12, n13, n14, n15⟩ := fd
      have e2 : (some (n1, n2, n3, n4, n5, n6, n7, n15) : FnV) = some (d.name, d.qual, d.params, .stmts d.body, d.scope, mainGlobals, [], builtinsNs) := e
      simp only [Option.some.injEq, Prod.mk.injEq] at e2
      obtain ⟨h1, h2, h3, h4, h5, h6, h7, h8⟩ := e2
      subst h1 h2 h3 h4 h5 h6 h7 h8
      have c3 : (PySem.W.codeIn K n13 d.qual && (He.dflB K n8 (d.dvs K) && He.kwdB K n9 (d.kws K))) = true := c2
      obtain ⟨k1, k2⟩ := He.ba c3
      obtain ⟨k3, k4⟩ := He.ba k2
      exact ⟨_, ⟨oc, od, n8, n9, n10, n11, n12, n13, n14, osl, rfl, q, k1, He.dflB_ok k3, He.kwdB_ok k4⟩, kp⟩
    | _ => cases c2
/-- an error class with its one field: its __init__ -/
structure ErrD where
  c : Cl
  f : Str
  qual : Str
  params : Arguments
  body : List Stmt
  scope : Scope
def errAd (K : Frg) (e : ErrD) : Addr := He.ma K (ca K e.c) "__init__"
/-- the function as it stands: its closure is one cell, which holds the class -/
def errV (K : Frg) (e : ErrD) : FnV := match K.lookup (errAd K e) with
  | some ⟨_, _, .func fd, _⟩ => some (fd.name, fd.qualname, fd.params, fd.body, fd.scope, fd.globals, [], fd.builtins)
  | _ => none
def ErrD.val (e : ErrD) : FnV := some (("__init__" : Str), e.qual, e.params, .stmts e.body, e.scope, mainGlobals, [], builtinsNs)
def ErrD.ok (file : Str) (K : Frg) (e : ErrD) : Bool := PySem.W.excInitIn K (ca K e.c) He.veBase "ValueError.__new__" && ((match PySem.W.clsIn K (ca K e.c) with
    | some cd => cd.hasDict && (HandSPX.refsVE cd.mro && decide (PySem.W.alongIn K "__init__" ((cd.mro.dropWhile (· != .ref (ca K e.c))).drop 1) = some (some (.builtin "ValueError.__init__"))))
    | none => false) && (decide (PySem.W.findIn K (.ref (ca K e.c)) "__setattr__" = some (some (.builtin "object.__setattr__"))) && (decide (PySem.W.findIn K (.ref (ca K e.c)) e.f = some none) && (decide (PySem.W.findIn K (.ref (ca K e.c)) "__init__" = some (some (.ref (errAd K e)))) &&
  (decide (PySem.W.typeIn K (.ref (errAd K e)) = some (.type "function")) && (PySem.W.keepIn K (.ref (ca K e.c)) && (decide (PySem.W.subIn K (.ref (ca K e.c)) (.type "BaseException") = some true) && (decide (PySem.W.typeIn K (.ref (ca K e.c)) = some (.type "type")) && (decide (PySem.W.subIn K (.ref (ca K e.c)) (.type "ValueError") = some true) &&
  (decide (PySem.W.subIn K (.ref (ca K e.c)) (.ref (ca K e.c)) = some true) && (decide (PySem.W.nsIn K cStatics "thirdparty.any" = some none) && (match K.lookup (errAd K e) with
    | some ⟨_, _, .func fd, _⟩ => (match fd.code, fd.closure with
      | .ref cda, [(x, cc)] => decide (fd.defaults = Value.none) && (decide (x = "__class__") && (PySem.W.codeIn K (.ref cda) e.qual && ((match K.lookup cc with
          | some ⟨_, _, .cell (some (.ref C)), _⟩ => decide (C = ca K e.c)
          | _ => false) && (match K.lookup cda with
          | some ⟨_, _, .fields vs, _⟩ => (match (vs[2]? : Option Value) with
            | some (Value.str z _) => decide (z = file)
            | _ => false)
          | _ => false))))
      | _, _ => false)
    | _ => false))))))))))))
theorem ErrD.errF {P : Program} {K : Frg} {e : ErrD} {file : Str} (v : errV K e = e.val) (c : e.ok file K = true) (hfile : (P.main.file == file) = true) (hs : (P.main.scope.names.lookup ("super" : Str)).isSome = false) (nf : e.f ≠ "self" ∧ e.f ≠ "super" ∧ e.f ≠ "__class__" ∧ e.f ≠ "__debug__")
    (hb : ∃ (msg : Str) (j : Nat) (a1 a2 p1 p2 p3 p4 p5 p6 q1 q2 q3 q4 : Pos), e.params = eArgs e.f a1 a2 ∧ e.body = eBody e.f msg j p1 p2 p3 p4 p5 p6 q1 q2 q3 q4 ∧ e.scope = eScope e.f ∧
      (∀ (cc cda : Addr) (kV doc pm ct : Value) (an : Option Addr) (u v : Value), bindArgs (PySem.W.fnX "__init__" e.qual (eArgs e.f a1 a2) (eBody e.f msg j p1 p2 p3 p4 p5 p6 q1 q2 q3 q4) (eScope e.f) [("__class__", cc)] .none kV doc pm an (.ref cda) ct) ⟨[u, v], []⟩ = pure ([("self", u), (e.f, v)] : List (Str × Value))) ∧
      ∀ env : Env, MCall msg j p1 p2 p3 p4 p5 env) : ErrF P K (ca K e.c) (errAd K e) e.f := by
  obtain ⟨c1, c⟩ := He.ba c
  obtain ⟨c2, c⟩ := He.ba c
  obtain ⟨c3, c⟩ := He.ba c
  obtain ⟨c4, c⟩ := He.ba c
  obtain ⟨c5, c⟩ := He.ba c
  obtain ⟨c6, c⟩ := He.ba c
  obtain ⟨c7, c⟩ := He.ba c
  obtain ⟨c8, c⟩ := He.ba c
  obtain ⟨c9, c⟩ := He.ba c
  obtain ⟨c10, c⟩ := He.ba c
  obtain ⟨c11, c⟩ := He.ba c
  obtain ⟨c12, c13⟩ := He.ba c
  refine ⟨c1, ?_, of_decide_eq_true c3, of_decide_eq_true c4, of_decide_eq_true c5, of_decide_eq_true c6, c7, of_decide_eq_true c8, of_decide_eq_true c9, of_decide_eq_true c10, of_decide_eq_true c11, of_decide_eq_true c12, ?_, hs, nf⟩
  · cases q : PySem.W.clsIn K (ca K e.c) with
    | none => rw [q] at c2; cases c2
    | some cd =>
      rw [q] at c2
      obtain ⟨d1, d2⟩ := He.ba c2
      obtain ⟨d3, d4⟩ := He.ba d2
      exact ⟨cd, rfl, d1, d3, of_decide_eq_true d4⟩
  · obtain ⟨msg, j, a1, a2, p1, p2, p3, p4, p5, p6, q1, q2, q3, q4, b1, b2, b3, b4, b5⟩ := hb
    unfold errV at v
    cases q : K.lookup (errAd K e) with
    | none => rw [q] at c13; cases c13
    | some o =>
      obtain ⟨oc, od, dt, osl⟩ := o
      rw [q] at c13 v
      cases dt with
      | func fd =>
        obtain ⟨n1, n2, n3, n4, n5, n6, n7, n8, n9, n10, n11, n12, n13, n14, n15⟩ := fd
        have e2 : (some (n1, n2, n3, n4, n5, n6, [], n15) : FnV) = some (("__init__" : Str), e.qual, e.params, .stmts e.body, e.scope, mainGlobals, [], builtinsNs) := v
        simp only [Option.some.injEq, Prod.mk.injEq] at e2
        obtain ⟨h1, h2, h3, h4, h5, h6, _, h8⟩ := e2
        subst h1 h2 h3 h4 h5 h6 h8
        cases n13 with
        | ref cda =>
          match n7, c13 with
          | [(x, cc)], c13 =>
            obtain ⟨f0, c14⟩ := He.ba c13
            have f0 : n8 = Value.none := of_decide_eq_true f0
            obtain ⟨f1, c15⟩ := He.ba c14
            obtain ⟨f2, c16⟩ := He.ba c15
            obtain ⟨f3, f4⟩ := He.ba c16
            clear c14 c15 c16 c13
            subst f0
            have f1 : x = "__class__" := of_decide_eq_true f1
            subst f1
            cases qc : K.lookup cc with
            | none => rw [qc] at f3; cases f3
            | some o2 =>
              obtain ⟨oc2, od2, dt2, osl2⟩ := o2
              rw [qc] at f3
              cases dt2 with
              | cell cv =>
                match cv, f3 with
                | some (.ref C), f3 =>
                  have f3 : C = ca K e.c := of_decide_eq_true f3
                  subst f3
                  cases qd : K.lookup cda with
                  | none => rw [qd] at f4; cases f4
                  | some o3 =>
                    obtain ⟨oc3, od3, dt3, osl3⟩ := o3
                    rw [qd] at f4
                    cases dt3 with
                    | fields vs =>
                      cases qv : vs[2]? with
                      | none => simp only [qv] at f4; cases f4
                      | some vv =>
                        simp only [qv] at f4
                        cases vv with
                        | str z tz =>
                          have f4 : z = file := of_decide_eq_true f4
                          subst f4
                          exact ⟨oc, od, e.qual, msg, j, .none, n9, n10, n11, n12, cda, cc, n14, osl, a1, a2, p1, p2, p3, p4, p5, p6, q1, q2, q3, q4, _, _, vs, z, tz, by rw [b1, b2, b3], f2, by first | exact qc | rfl, rfl, by first | exact qd | rfl, rfl, qv, hfile, fun u v => b4 cc cda n9 n10 n11 n14 n12 u v, b5⟩
                        | _ => cases f4
                    | _ => cases f4
              | _ => cases f3
        | _ => cases c13
      | _ => cases c13
structure SupD where
  c : Cl
  m : Str
  qual : Str
  params : Arguments
  body : List Stmt
  scope : Scope
  kwd : List (Str × He.Dv) := []
def SupD.kws (K : Frg) (e : SupD) : List (Str × V) := e.kwd.map fun q => (q.1, q.2.v K)
def supAd (K : Frg) (e : SupD) : Addr := He.ma K (ca K e.c) e.m
def supV (K : Frg) (e : SupD) : FnV := match K.lookup (supAd K e) with
  | some ⟨_, _, .func fd, _⟩ => some (fd.name, fd.qualname, fd.params, fd.body, fd.scope, fd.globals, [], fd.builtins)
  | _ => none
def SupD.val (e : SupD) : FnV := some (e.m, e.qual, e.params, .stmts e.body, e.scope, mainGlobals, [], builtinsNs)
def SupD.ok (file : Str) (K : Frg) (e : SupD) : Bool := (PySem.W.clsIn K (ca K e.c)).isSome && (decide (PySem.W.nsIn K cStatics "thirdparty.any" = some none) && (match K.lookup (supAd K e) with
    | some ⟨_, _, .func fd, _⟩ => (match fd.code, fd.closure with
      | .ref cda, [(x, cc)] => decide (fd.defaults = Value.none) && (decide (x = "__class__") && (PySem.W.codeIn K (.ref cda) e.qual && ((match K.lookup cc with
          | some ⟨_, _, .cell (some (.ref C)), _⟩ => decide (C = ca K e.c)
          | _ => false) && ((match K.lookup cda with
          | some ⟨_, _, .fields vs, _⟩ => (match (vs[2]? : Option Value) with
            | some (Value.str z _) => decide (z = file)
            | _ => false)
          | _ => false) && He.kwdB K fd.kwdefaults (e.kws K)))))
      | _, _ => false)
    | _ => false))
end Px
namespace Px
open PySem PySem.Spec PyProof.Rows L2
/-- a set of addresses, by their binary digits -/
inductive Tr where
  | nil
  | node (l r : Tr) (b : Bool)
def Tr.has : Nat → Tr → Nat → Bool
  | 0, _, _ => false
  | _ + 1, .nil, _ => false
  | f + 1, .node l r b, n => (match n with
    | 0 => b
    | n => (match Nat.beq (n % 2) 0 with
      | true => Tr.has f l (n / 2)
      | false => Tr.has f r (n / 2)))
def Tr.put : Nat → Tr → Nat → Tr
  | 0, t, _ => t
  | f + 1, .nil, n => (match n with
    | 0 => .node .nil .nil true
    | n => (match Nat.beq (n % 2) 0 with
      | true => .node (Tr.put f .nil (n / 2)) .nil false
      | false => .node .nil (Tr.put f .nil (n / 2)) false))
  | f + 1, .node l r b, n => (match n with
    | 0 => .node l r true
    | n => (match Nat.beq (n % 2) 0 with
      | true => .node (Tr.put f l (n / 2)) r b
      | false => .node l (Tr.put f r (n / 2)) b))
/-- those of the addresses that are new, and all -/
def newA : List Addr → Tr → List Addr → Tr × List Addr
  | [], t, acc => (t, acc)
  | a :: as, t, acc => (match Tr.has 40 t a with
    | true => newA as t acc
    | false => newA as (Tr.put 40 t a) (a :: acc))
def nextA (g : Addr → Option Obj) : List Addr → Tr → List Addr → Tr × List Addr
  | [], t, acc => (t, acc)
  | a :: as, t, acc => (match g a with
    | some o => (match newA (He.refsD o) t acc with
      | (t, acc) => nextA g as t acc)
    | none => nextA g as t acc)
def growA (g : Addr → Option Obj) : Nat → List Addr → Tr → List Addr → List Addr
  | 0, _, _, all => all
  | n + 1, as, t, all => (match nextA g as t [] with
    | (t, new) => growA g n new t (all ++ new))
def asP (g : Addr → Option Obj) (n : Nat) : List Addr := growA g n [mainGlobals, cStatics] (Tr.put 40 (Tr.put 40 .nil mainGlobals) cStatics) [mainGlobals, cStatics]
structure Want where
  n : Nat
  file : Str
  fa : List He.Fa
  hs : List Cl
  xs : List Cl
  more : Frg → Bool
  fn : List DefP
  er : List ErrD
  su : List SupD := []
abbrev AlP : Type := Bool × List FnV
def Want.ok (t : Want) (K : Frg) : Bool := (t.fa.all fun f => f.ok K) && (kaB K t.hs t.xs && ((t.hs.all (kcB K) && t.xs.all (xcB K)) && (t.more K && ((t.fn.all fun d => d.ok K) && ((t.er.all fun e => e.ok t.file K) && t.su.all fun e => e.ok t.file K)))))
def Want.see (t : Want) (K : Frg) : AlP := (t.ok K, (t.fn.map fun d => fnV K d.at_) ++ ((t.er.map fun e => errV K e) ++ t.su.map fun e => supV K e))
def Want.val (t : Want) : AlP := (true, t.fn.map DefP.val ++ (t.er.map ErrD.val ++ t.su.map SupD.val))
def Says (t : Want) (K : Frg) : Prop := t.see K = t.val
/-- an empty table -/
def isT0 : Option Obj → Bool
  | some ⟨.none, none, .fields ⟨[]⟩, ⟨[]⟩⟩ => true
  | _ => false
theorem isT0_ok {o : Option Obj} (h : isT0 o = true) : o = some { cls := .none, data := .fields #[] } := by
  unfold isT0 at h
  split at h
  · rfl
  · cases h
def csK (K : Frg) : List (Addr × Addr) := LAM.filterMap (tabP K)
theorem Tbs_cs {K : Frg} {p : Addr × Str} (h : p ∈ Tbs K) : ∃ c, (c, p.1) ∈ csK K := by
  unfold Tbs at h
  obtain ⟨nm, hn, e⟩ := List.mem_filterMap.mp h
  cases q : tabP K nm with
  | none => rw [q] at e; cases e
  | some z =>
    rw [q] at e
    cases e
    exact ⟨z.1, List.mem_filterMap.mpr ⟨nm, hn, q⟩⟩
/-- what the making of a lambda asks of the code object -/
def codeB (K : Frg) (c P : Addr) : Bool := match K.lookup c with
  | some o => (match o.cls, o.data with
    | .type t, .fields vs => decide (t = "code") && ((match (show Option Value from vs[11]?) with
      | some (.ref q) => decide (q = P)
      | _ => false) && ((match vs.getD 11 .none with
      | .ref q => decide (q = P)
      | _ => false) && ((match vs.getD 18 .none with
      | .str _ _ => true
      | _ => false) && ((match vs.getD 7 .none with
      | .int _ _ => true
      | _ => false) && ((match vs.getD 9 .none with
      | .bool _ => true
      | _ => false) && ((match vs.getD 10 .none with
      | .int _ _ => true
      | _ => false) && decide (c ≠ P)))))))
    | _, _ => false)
  | none => false
theorem codeB_ok {K : Frg} {c P : Addr} {h : Heap} (hK : K.In h) (e : codeB K c P = true) : PySem.W.CodeHd h c P := by
  unfold codeB at e
  split at e
  · rename_i o ho
    split at e
    · rename_i t vs ec ed
      obtain ⟨h1, e⟩ := He.ba e
      obtain ⟨h2, e⟩ := He.ba e
      obtain ⟨h3, e⟩ := He.ba e
      obtain ⟨h4, e⟩ := He.ba e
      obtain ⟨h5, e⟩ := He.ba e
      obtain ⟨h6, e⟩ := He.ba e
      obtain ⟨h7, h8⟩ := He.ba e
      obtain rfl := of_decide_eq_true h1
      split at h2
      · rename_i q e2
        obtain rfl := of_decide_eq_true h2
        split at h3
        · rename_i q3 e3
          obtain rfl := of_decide_eq_true h3
          split at h4
          · rename_i fl tf e4
            split at h5
            · rename_i fi tg e5
              split at h6
              · rename_i b e6
                split at h7
                · rename_i i t7 e7
                  exact ⟨o, vs, fl, tf, fi, tg, b, i, t7, hK _ _ ho, ec, ed, e2, e3, e4, e5, e6, e7, of_decide_eq_true h8⟩
                · cases h7
              · cases h6
            · cases h5
          · cases h4
        · cases h3
      · cases h2
    · cases e
  · cases e
theorem tabP_out {K : Frg} {nm : Str} {z : Addr × Addr} (h : tabP K nm = some z) : K.lookup z.2 = none := by
  unfold tabP at h
  repeat' (split at h)
  all_goals first
    | (cases h; assumption)
    | cases h
def tabsB (g : Addr → Option Obj) (K : Frg) : Bool := (csK K).all fun p => isT0 (g p.2) && codeB K p.1 p.2
def asT (g : Addr → Option Obj) (n : Nat) : List Addr := (asP g n).filter fun a => !isT0 (g a)
def Want.obs (t : Want) (g : Addr → Option Obj) : Bool × AlP := (tabsB g (He.frG g (asT g t.n)), t.see (He.frG g (asT g t.n)))
/-- the tables at h -/
def TabH (K : Frg) (h : Heap) : Prop := ∀ p ∈ csK K, h.get? p.2 = some { cls := .none, data := .fields #[] } ∧ codeB K p.1 p.2 = true
def Want.hook (t : Want) : PySem.W.Hook where
  α := Bool × AlP
  obs := fun s => t.obs s.heap.get?
  val := fun _ => (true, t.val)
  says := fun _ h => ∃ K : Frg, K.In h ∧ Says t K ∧ TabH K h
  of := fun _ s e => ⟨He.frG s.heap.get? (asT s.heap.get? t.n), He.frG_in, (show t.see (He.frG s.heap.get? (asT s.heap.get? t.n)) = t.val from congrArg Prod.snd e), fun p hp => by
    have e1 : tabsB s.heap.get? (He.frG s.heap.get? (asT s.heap.get? t.n)) = true := congrArg Prod.fst e
    obtain ⟨h1, h2⟩ := He.ba (List.all_eq_true.mp e1 p hp)
    exact ⟨isT0_ok h1, h2⟩⟩
  keeps := fun _ _ _ ⟨K, hK, c, T⟩ k => ⟨K, PySem.W.Frag.In.keeps hK k, c, fun p hp => ⟨k _ _ (T p hp).1, (T p hp).2⟩⟩
theorem Want.obs_eq {t : Want} {g : Addr → Option Obj} {s : Shared} (h : ∀ a, g a = s.heap.get? a) : t.obs g = t.hook.obs s := by
  have e : g = s.heap.get? := funext h
  rw [e] <;> rfl
section
variable {t : Want} {K : Frg}
theorem Says.ok (c : Says t K) : t.ok K = true := congrArg (fun z : AlP => z.1) c
theorem Says.ka (c : Says t K) : KA K := kaB_ok (He.ba (He.ba c.ok).2).1
theorem Says.kc (c : Says t K) {d : Cl} (h : d ∈ t.hs) : kcB K d = true := List.all_eq_true.mp (He.ba (He.ba (He.ba (He.ba c.ok).2).2).1).1 d h
theorem Says.xc (c : Says t K) {d : Cl} (h : d ∈ t.xs) : xcB K d = true := List.all_eq_true.mp (He.ba (He.ba (He.ba (He.ba c.ok).2).2).1).2 d h
theorem Says.more (c : Says t K) : t.more K = true := (He.ba (He.ba (He.ba (He.ba c.ok).2).2).2).1
theorem Says.vals (c : Says t K) : (t.fn.map fun d => fnV K d.at_) ++ ((t.er.map fun e => errV K e) ++ (t.su.map fun e => supV K e)) = t.fn.map DefP.val ++ (t.er.map ErrD.val ++ t.su.map SupD.val) := congrArg (fun z : AlP => z.2) c
theorem Says.def_ (c : Says t K) (i : Nat) {d : DefP} (h : t.fn[i]? = some d := by rfl) : ∃ fd, FunD K d.name d.qual d.params d.body d.scope (d.dvs K) (d.kws K) (d.at_.ad K) fd := by
  have c2 := (He.ba (He.ba (He.ba (He.ba (He.ba c.ok).2).2).2).2).1
  have e1 := (List.append_inj c.vals (by simp)).1
  have e2 : (t.fn.map fun d => fnV K d.at_)[i]? = (t.fn.map DefP.val)[i]? := by rw [e1]
  rw [List.getElem?_map, List.getElem?_map, h] at e2
  exact DefP.funD (Option.some.inj e2) (List.all_eq_true.mp c2 d (List.mem_of_getElem? h))
theorem Says.err (c : Says t K) (i : Nat) {d : ErrD} (h : t.er[i]? = some d := by rfl) : errV K d = d.val ∧ d.ok t.file K = true := by
  have c2 := (He.ba (He.ba (He.ba (He.ba (He.ba (He.ba c.ok).2).2).2).2).2).1
  have e0 := (List.append_inj c.vals (by simp)).2
  have e1 := (List.append_inj e0 (by simp)).1
  have e2 : (t.er.map fun e => errV K e)[i]? = (t.er.map ErrD.val)[i]? := by rw [e1]
  rw [List.getElem?_map, List.getElem?_map, h] at e2
  exact ⟨Option.some.inj e2, List.all_eq_true.mp c2 d (List.mem_of_getElem? h)⟩
theorem Says.sup (c : Says t K) (i : Nat) {d : SupD} (h : t.su[i]? = some d := by rfl) : supV K d = d.val ∧ d.ok t.file K = true := by
  have c2 := (He.ba (He.ba (He.ba (He.ba (He.ba (He.ba c.ok).2).2).2).2).2).2
  have e0 := (List.append_inj c.vals (by simp)).2
  have e1 := (List.append_inj e0 (by simp)).2
  have e2 : (t.su.map fun e => supV K e)[i]? = (t.su.map SupD.val)[i]? := by rw [e1]
  rw [List.getElem?_map, List.getElem?_map, h] at e2
  exact ⟨Option.some.inj e2, List.all_eq_true.mp c2 d (List.mem_of_getElem? h)⟩
end
end Px
namespace Px
open PySem PySem.Spec PyProof.Rows L2
def cmB (K : Frg) (c : Cl) (m : Str) : Bool := PySem.W.readsIn K (ca K c) (.type "type") && (He5.wrapB K (ca K c) "classmethod" "classmethod.__get__" m && PySem.W.fnIn K (cmFn K (ca K c) m))
def isVal (i : Int) : Option PySem.W.CFound → Bool
  | some (.val v) => (match v with
    | .int j _ => decide (j = i)
    | _ => false)
  | _ => false
def cvB (K : Frg) (c : Cl) (f : Str) (i : Int) : Bool := PySem.W.readsIn K (ca K c) (.type "type") && isVal i (PySem.W.findCls K (.ref (ca K c)) (.type "type") f)
def strsOf : List Value → Option (List Str)
  | [] => some []
  | v :: vs => (match v with
    | .str z _ => (match strsOf vs with
      | some zs => some (z :: zs)
      | none => none)
    | _ => none)
def tupB (K : Frg) (zs : List Str) (v : Value) : Bool := match v with
  | .ref a => (match K.lookup a with
    | some o => decide (o.cls = .type "tuple") && (match o.data with
      | .seq its _ => decide (its.size ≤ sizeLine) && decide (strsOf its.toList = some zs)
      | _ => false)
    | none => false)
  | _ => false
def cvTB (K : Frg) (c : Cl) (f : Str) (zs : List Str) : Bool := PySem.W.readsIn K (ca K c) (.type "type") && (match PySem.W.findCls K (.ref (ca K c)) (.type "type") f with
  | some (.val v) => tupB K zs v
  | _ => false)
def prB (K : Frg) (c : Cl) (f : Str) : Bool :=
  (match PySem.W.findIn K (.ref (ca K c)) f with
    | some (some (.ref _)) => true
    | _ => false) && ((match PySem.W.specialIn K (.ref (He.ma K (ca K c) f)) "__get__" with
    | some (some (.builtin g)) => decide (g = "property.__get__")
    | _ => false) && ((match PySem.W.takesIn K (.ref (He.ma K (ca K c) f)) with
    | some true => true
    | _ => false) && (match PySem.W.recIn K (He.ma K (ca K c) f) "property" with
    | some (.ref _ :: _) => true
    | _ => false)))
section
open PySem.Calls PySem.W
def excB (K : Frag) (D : PySem.Addr) : Bool :=
  isB (findIn K (.ref D) "__getattribute__") "BaseException.__getattribute__" && (isN (findIn K (.ref D) "__getattr__") && (isT (subIn K (.ref D) (.type "BaseException")) && (hasDictIn K D && (isB (findIn K (.ref D) "__class__") "object.__class__" && (isB (specialIn K (.builtin "object.__class__") "__get__") "getset_descriptor.__get__" && (isT (takesIn K (.builtin "object.__class__")) && isT (mroIn K D (.type "object"))))))))
where
  isB (r : Option (Option Value)) (n : String) : Bool := match r with
    | some (some (.builtin g)) => decide (g = n)
    | _ => false
  isN (r : Option (Option Value)) : Bool := match r with
    | some none => true
    | _ => false
  isT (r : Option Bool) : Bool := match r with
    | some true => true
    | _ => false
end
def errC (d : Cl) : Bool := match d with
  | .Light | .Film | .Ink | .Filter | .Opaque | .Bleach | .Pass | .Row | .Spot | .Chart | .Shape | .Sheet | .Press => false
  | _ => true
def eqOB (a : Option Bool) (b : Bool) : Bool := match a with
  | some x => x == b
  | none => false
def isxB (K : Frg) (hs xs : List Cl) : Bool := (hs.all fun c => !errC c) && xs.all fun c => excB K (ca K c) && (eqOB (PySem.W.kitOne K (.ref (ca K c)) (.type "ValueError")) true && xs.all fun d => eqOB (PySem.W.kitOne K (.ref (ca K c)) (.ref (ca K d))) (subX c d))
section
open PySem.Calls PySem.W
/-- c has the property f with a setter -/
def psB (K : Frg) (c : Cl) (f : Str) : Bool := decide (PySem.W.takerIn K (ca K c) f = some (some (.ref (He.ma K (ca K c) f)))) && (decide (PySem.W.typeIn K (.ref (He.ma K (ca K c) f)) = some (.type "property")) && (match PySem.W.recIn K (He.ma K (ca K c) f) "property" with
  | some (_ :: .ref _ :: _) => true
  | _ => false))
/-- the method m of c may be handed on as a value -/
def bmB (K : Frg) (c : Cl) (m : Str) : Bool := (match PySem.W.specialIn K (.ref (He.ma K (ca K c) m)) "__get__" with
    | some (some (.builtin g)) => decide (g = "function.__get__")
    | _ => false) && (decide (PySem.W.takesIn K (.ref (He.ma K (ca K c) m)) = some false) && !PySem.W.copiedNames.contains m)
/-- c has the staticmethod m -/
def ssB (K : Frg) (c : Cl) (m : Str) : Bool := PySem.W.readsIn K (ca K c) (.type "type") && (He5.wrapB K (ca K c) "staticmethod" "staticmethod.__get__" m && PySem.W.keepIn K (.ref (smFn K (ca K c) m)))
/-- no StopIteration -/
def stopB (K : Frg) (c : Cl) : Bool := decide (PySem.W.subIn K (.ref (ca K c)) (.type "StopIteration") = some false)
def noAddB (K : Frg) (c : Cl) : Bool := (PySem.W.clsIn K (ca K c)).any (fun cd => decide (cd.mro = [.ref (ca K c), .type "object"])) && (decide (PySem.W.findIn K (.ref (ca K c)) (PySem.dunder "add") = some none) && (decide (PySem.W.findIn K (.ref (ca K c)) (PySem.dunderR "add") = some none) && (decide (PySem.W.findIn K (.type "object") (PySem.dunder "add") = some none) && decide (PySem.W.findIn K (.type "object") (PySem.dunderR "add") = some none))))
end
inductive Kst where
  | int (i : Int)
  | str (z : Str)
  | txs (zs : List Str)
  deriving DecidableEq
structure Stt where
  P : Program
  nms : List (Nat × Str)
  fre : List Str
  hs : List Cl
  xs : List Cl
  gl : List Nat := []
  cms : List (Cl × Nat) := []
  mks : List Cl := []
  ms : List (Cl × Nat) := []
  sa : List (Cl × Cl × Nat) := []
  er : List (Cl × Str) := []
  cv : List (Cl × Str × Kst) := []
  gc : List (Str × Kst) := []
  prs : List (Cl × Nat) := []
  isx : Bool := false
  ow : List Cl := []
def dun : Nat → Option Str
  | 0 => some "__add__" | 1 => some "__sub__" | 2 => some "__and__" | 3 => some "__or__" | 4 => some "__xor__" | 5 => some "__invert__" | 6 => some "__contains__" | 7 => some "__len__" | 8 => some "__bool__" | 9 => some "__eq__"
  | 10 => some "__str__" | 11 => some "__repr__" | 12 => some "__call__" | 13 => some "__init__" | 14 => some "__getitem__" | 15 => some "__iter__"
  | _ => none
def Stt.nm (S : Stt) (i : Nat) : Str := match dun i with
  | some s => s
  | none => (S.nms.lookup i).getD Str.empty
def owB (K : Frg) (c : Cl) : Bool := PySem.W.excIn K (ca K c) [.type "ValueError", .type "Exception", .type "BaseException", .type "object"] "ValueError.__new__" && (PySem.W.keepIn K (.ref (ca K c)) && (decide (PySem.W.subIn K (.ref (ca K c)) (.type "BaseException") = some true) && decide (PySem.W.typeIn K (.ref (ca K c)) = some (.type "type"))))
def Stt.msB (S : Stt) (K : Frg) (p : Cl × Nat) : Bool := (He.Fa.meth p.1.name (S.nm p.2)).ok K && (PySem.W.fnIn K (He.ma K (ca K p.1) (S.nm p.2)) && (PySem.W.selfFirst K (ca K p.1) && (!decide (S.nm p.2 ∈ p.1.flds) && decide (p.1 ∈ S.hs))))
def Stt.cvB (K : Frg) (p : Cl × Str × Kst) : Bool := match p.2.2 with
  | .int i => Px.cvB K p.1 p.2.1 i
  | .txs zs => cvTB K p.1 p.2.1 zs
  | .str _ => false
def Stt.gcB (K : Frg) (p : Str × Kst) : Bool := match p.2 with
  | .int i => (He.Fa.int p.1 i).ok K
  | .str z => (He.Fa.str p.1 z).ok K
  | .txs _ => false
def Stt.fas (S : Stt) : List He.Fa := S.fre.map .free ++ ((S.hs ++ S.xs).map (fun c => .glo c.name) ++ (S.gl.map (fun i => .glo (S.nm i)) ++ (S.gl.map (fun i => .keep (S.nm i)) ++ S.mks.map fun c => .mkr c.name)))
def Stt.more (S : Stt) (K : Frg) : Bool := (S.cms.all fun p => cmB K p.1 (S.nm p.2) && decide (p.1 ∈ S.hs)) && (S.ms.all (S.msB K) && ((S.sa.all fun p => decide (He.ma K (ca K p.1) (S.nm p.2.2) = He.ma K (ca K p.2.1) (S.nm p.2.2))) && (S.cv.all (Stt.cvB K) && (S.gc.all (Stt.gcB K) && ((S.mks.all fun c => decide (c ∈ S.hs)) && S.prs.all fun p => prB K p.1 (S.nm p.2) && (!decide (S.nm p.2 ∈ p.1.flds) && decide (p.1 ∈ S.hs)))))) && ((!S.isx || isxB K S.hs S.xs) && S.ow.all (owB K)))
def Stt.want (S : Stt) (fn : List DefP) (er : List ErrD) (su : List SupD) (more : Frg → Bool) : Want := { n := 5, file := S.P.main.file, fa := S.fas, hs := S.hs, xs := S.xs, more := fun K => S.more K && more K, fn := fn, er := er, su := su }
end Px
namespace Px
open PySem PySem.Spec PyProof.Rows L2
end Px
namespace K59
open PySem PySem.Spec PyProof.Rows L2 NdefX Px
abbrev TP : Program := PySem.Challenge.pw_laidink_k59_shape_signs
def top (i : Nat) : Stmt := TP.main.body.getD i (.Pass ⟨0, 0, 0, 0⟩)
def inC (i j : Nat) : Stmt := match top i with
  | .ClassDef (body := b) .. => b.getD j (.Pass ⟨0, 0, 0, 0⟩)
  | _ => .Pass ⟨0, 0, 0, 0⟩
def S : Stt := { P := TP, nms := [(28, ("_law_asked" : Str)), (36, ("_law_box" : Str)), (48, ("_law_draw" : Str)), (80, ("_law_int" : Str)), (81, ("_law_is" : Str)), (83, ("_law_joint" : Str)), (99, ("_law_lines" : Str)), (144, ("_law_refused" : Str)), (166, ("_law_same_names" : Str)), (175, ("_law_same_shape" : Str)), (181, ("_law_same_text" : Str)), (257, ("first_bad_line" : Str)), (269, ("joined_shapes" : Str)), (276, ("law" : Str)), (295, ("of" : Str))], fre := ["all", "any", "bool", "enumerate", "int", "isinstance", "len", "list", "range", "str", "super", "tuple", "zip"], hs := [.Shape], xs := [.InvalidShape, .PrintError, .WrongSize], gl := [28, 36, 48, 80, 81, 83, 99, 144, 166, 175, 181, 257, 269, 276], cms := [(.Shape, 295)], mks := [.Shape], ms := [(.Shape, 2), (.Shape, 9), (.Shape, 5), (.Shape, 3), (.Shape, 1)], sa := [], er := [(.InvalidShape, ("line" : Str)), (.WrongSize, ("mask" : Str))], cv := [], gc := [("MOST_PLACES", (.int 40))], prs := [], isx := false, ow := [] }
abbrev st__law_box : Stmt := top 11
abbrev n__law_box : List Str := ["_law_script", "_law_cell"]
theorem sc__law_box : FnScope n__law_box ["_law_script"] (defScope st__law_box) := ⟨rfl, rfl, rfl, by decide +kernel, rfl, by decide +kernel, by decide +kernel⟩
def dp__law_box : DefP := { at_ := .glo (S.nm 36), name := "_law_box", qual := "_law_box", params := defArgs st__law_box, body := defBody st__law_box, scope := defScope st__law_box, dfl := [], kwd := [] }
abbrev st__law_draw : Stmt := top 12
abbrev n__law_draw : List Str := ["_law_box_here", "_law_size", "_law_cells", "_law_place", "_law_cell", "_law_state", "_law_power"]
theorem sc__law_draw : FnScope n__law_draw ["_law_box_here", "_law_size"] (defScope st__law_draw) := ⟨rfl, rfl, rfl, by decide +kernel, rfl, by decide +kernel, by decide +kernel⟩
def dp__law_draw : DefP := { at_ := .glo (S.nm 48), name := "_law_draw", qual := "_law_draw", params := defArgs st__law_draw, body := defBody st__law_draw, scope := defScope st__law_draw, dfl := [], kwd := [] }
abbrev st__law_lines : Stmt := top 13
abbrev n__law_lines : List Str := ["_law_box_here", "_law_wide", "_law_high", "_law_x", "_law_y"]
theorem sc__law_lines : FnScope n__law_lines ["_law_box_here", "_law_wide", "_law_high"] (defScope st__law_lines) := ⟨rfl, rfl, rfl, by decide +kernel, rfl, by decide +kernel, by decide +kernel⟩
def dp__law_lines : DefP := { at_ := .glo (S.nm 99), name := "_law_lines", qual := "_law_lines", params := defArgs st__law_lines, body := defBody st__law_lines, scope := defScope st__law_lines, dfl := [], kwd := [] }
abbrev st_first_bad_line : Stmt := top 7
abbrev n_first_bad_line : List Str := ["lines", "at", "line", "sign"]
theorem sc_first_bad_line : FnScope n_first_bad_line ["lines"] (defScope st_first_bad_line) := ⟨rfl, rfl, rfl, by decide +kernel, rfl, by decide +kernel, by decide +kernel⟩
def dp_first_bad_line : DefP := { at_ := .glo (S.nm 257), name := "first_bad_line", qual := "first_bad_line", params := defArgs st_first_bad_line, body := defBody st_first_bad_line, scope := defScope st_first_bad_line, dfl := [], kwd := [] }
abbrev st_Shape___init__ : Stmt := inC 8 0
abbrev n_Shape___init__ : List Str := ["self", "lines", "bad"]
theorem sc_Shape___init__ : FnScope n_Shape___init__ ["self", "lines"] (defScope st_Shape___init__) := ⟨rfl, rfl, rfl, by decide +kernel, rfl, by decide +kernel, by decide +kernel⟩
def dp_Shape___init__ : DefP := { at_ := .meth "Shape" (S.nm 13), name := "__init__", qual := "Shape.__init__", params := defArgs st_Shape___init__, body := defBody st_Shape___init__, scope := defScope st_Shape___init__, dfl := [], kwd := [] }
abbrev st_Shape_of : Stmt := inC 8 1
abbrev n_Shape_of : List Str := ["cls", "lines"]
theorem sc_Shape_of : FnScope n_Shape_of ["cls", "lines"] (defScope st_Shape_of) := ⟨rfl, rfl, rfl, by decide +kernel, rfl, by decide +kernel, by decide +kernel⟩
def dp_Shape_of : DefP := { at_ := .cm "Shape" (S.nm 295), name := "of", qual := "Shape.of", params := defArgs st_Shape_of, body := defBody st_Shape_of, scope := defScope st_Shape_of, dfl := [], kwd := [] }
abbrev st__law_is : Stmt := top 14
abbrev n__law_is : List Str := ["_law_actual", "_law_expected"]
theorem sc__law_is : FnScope n__law_is ["_law_actual", "_law_expected"] (defScope st__law_is) := ⟨rfl, rfl, rfl, by decide +kernel, rfl, by decide +kernel, by decide +kernel⟩
def dp__law_is : DefP := { at_ := .glo (S.nm 81), name := "_law_is", qual := "_law_is", params := defArgs st__law_is, body := defBody st__law_is, scope := defScope st__law_is, dfl := [], kwd := [] }
abbrev st__law_same_text : Stmt := top 15
abbrev n__law_same_text : List Str := ["_law_actual", "_law_expected"]
theorem sc__law_same_text : FnScope n__law_same_text ["_law_actual", "_law_expected"] (defScope st__law_same_text) := ⟨rfl, rfl, rfl, by decide +kernel, rfl, by decide +kernel, by decide +kernel⟩
def dp__law_same_text : DefP := { at_ := .glo (S.nm 181), name := "_law_same_text", qual := "_law_same_text", params := defArgs st__law_same_text, body := defBody st__law_same_text, scope := defScope st__law_same_text, dfl := [], kwd := [] }
abbrev st__law_same_names : Stmt := top 16
abbrev n__law_same_names : List Str := ["_law_actual", "_law_names", "_law_k"]
theorem sc__law_same_names : FnScope n__law_same_names ["_law_actual", "_law_names"] (defScope st__law_same_names) := ⟨rfl, rfl, rfl, by decide +kernel, rfl, by decide +kernel, by decide +kernel⟩
def dp__law_same_names : DefP := { at_ := .glo (S.nm 166), name := "_law_same_names", qual := "_law_same_names", params := defArgs st__law_same_names, body := defBody st__law_same_names, scope := defScope st__law_same_names, dfl := [], kwd := [] }
abbrev st__law_int : Stmt := top 17
abbrev n__law_int : List Str := ["_law_actual", "_law_expected"]
theorem sc__law_int : FnScope n__law_int ["_law_actual", "_law_expected"] (defScope st__law_int) := ⟨rfl, rfl, rfl, by decide +kernel, rfl, by decide +kernel, by decide +kernel⟩
def dp__law_int : DefP := { at_ := .glo (S.nm 80), name := "_law_int", qual := "_law_int", params := defArgs st__law_int, body := defBody st__law_int, scope := defScope st__law_int, dfl := [], kwd := [] }
abbrev st__law_same_shape : Stmt := top 18
abbrev n__law_same_shape : List Str := ["_law_shape", "_law_lines_here"]
theorem sc__law_same_shape : FnScope n__law_same_shape ["_law_shape", "_law_lines_here"] (defScope st__law_same_shape) := ⟨rfl, rfl, rfl, by decide +kernel, rfl, by decide +kernel, by decide +kernel⟩
def dp__law_same_shape : DefP := { at_ := .glo (S.nm 175), name := "_law_same_shape", qual := "_law_same_shape", params := defArgs st__law_same_shape, body := defBody st__law_same_shape, scope := defScope st__law_same_shape, dfl := [], kwd := [] }
abbrev st_Shape___invert__ : Stmt := inC 8 10
abbrev n_Shape___invert__ : List Str := ["self", "line"]
theorem sc_Shape___invert__ : FnScope n_Shape___invert__ ["self"] (defScope st_Shape___invert__) := ⟨rfl, rfl, rfl, by decide +kernel, rfl, by decide +kernel, by decide +kernel⟩
def dp_Shape___invert__ : DefP := { at_ := .meth "Shape" (S.nm 5), name := "__invert__", qual := "Shape.__invert__", params := defArgs st_Shape___invert__, body := defBody st_Shape___invert__, scope := defScope st_Shape___invert__, dfl := [], kwd := [] }
abbrev st__law_joint : Stmt := top 19
abbrev n__law_joint : List Str := ["_law_one", "_law_two", "_law_way", "_law_lines_here", "_law_y", "_law_line", "_law_x", "_law_a", "_law_b"]
theorem sc__law_joint : FnScope n__law_joint ["_law_one", "_law_two", "_law_way"] (defScope st__law_joint) := ⟨rfl, rfl, rfl, by decide +kernel, rfl, by decide +kernel, by decide +kernel⟩
def dp__law_joint : DefP := { at_ := .glo (S.nm 83), name := "_law_joint", qual := "_law_joint", params := defArgs st__law_joint, body := defBody st__law_joint, scope := defScope st__law_joint, dfl := [], kwd := [] }
abbrev st_joined_shapes : Stmt := top 9
abbrev n_joined_shapes : List Str := ["first", "second", "table", "rows", "one", "two", "signs", "a", "b", "part"]
theorem sc_joined_shapes : FnScope n_joined_shapes ["first", "second", "table"] (defScope st_joined_shapes) := ⟨rfl, rfl, rfl, by decide +kernel, rfl, by decide +kernel, by decide +kernel⟩
def dp_joined_shapes : DefP := { at_ := .glo (S.nm 269), name := "joined_shapes", qual := "joined_shapes", params := defArgs st_joined_shapes, body := defBody st_joined_shapes, scope := defScope st_joined_shapes, dfl := [], kwd := [] }
abbrev st_Shape___and__ : Stmt := inC 8 7
abbrev n_Shape___and__ : List Str := ["self", "other"]
theorem sc_Shape___and__ : FnScope n_Shape___and__ ["self", "other"] (defScope st_Shape___and__) := ⟨rfl, rfl, rfl, by decide +kernel, rfl, by decide +kernel, by decide +kernel⟩
def dp_Shape___and__ : DefP := { at_ := .meth "Shape" (S.nm 2), name := "__and__", qual := "Shape.__and__", params := defArgs st_Shape___and__, body := defBody st_Shape___and__, scope := defScope st_Shape___and__, dfl := [], kwd := [] }
abbrev st_Shape___or__ : Stmt := inC 8 8
abbrev n_Shape___or__ : List Str := ["self", "other"]
theorem sc_Shape___or__ : FnScope n_Shape___or__ ["self", "other"] (defScope st_Shape___or__) := ⟨rfl, rfl, rfl, by decide +kernel, rfl, by decide +kernel, by decide +kernel⟩
def dp_Shape___or__ : DefP := { at_ := .meth "Shape" (S.nm 3), name := "__or__", qual := "Shape.__or__", params := defArgs st_Shape___or__, body := defBody st_Shape___or__, scope := defScope st_Shape___or__, dfl := [], kwd := [] }
abbrev st_Shape___sub__ : Stmt := inC 8 9
abbrev n_Shape___sub__ : List Str := ["self", "other"]
theorem sc_Shape___sub__ : FnScope n_Shape___sub__ ["self", "other"] (defScope st_Shape___sub__) := ⟨rfl, rfl, rfl, by decide +kernel, rfl, by decide +kernel, by decide +kernel⟩
def dp_Shape___sub__ : DefP := { at_ := .meth "Shape" (S.nm 1), name := "__sub__", qual := "Shape.__sub__", params := defArgs st_Shape___sub__, body := defBody st_Shape___sub__, scope := defScope st_Shape___sub__, dfl := [], kwd := [] }
abbrev st__law_asked : Stmt := top 20
abbrev n__law_asked : List Str := ["_law_a", "_law_b", "_law_way"]
theorem sc__law_asked : FnScope n__law_asked ["_law_a", "_law_b", "_law_way"] (defScope st__law_asked) := ⟨rfl, rfl, rfl, by decide +kernel, rfl, by decide +kernel, by decide +kernel⟩
def dp__law_asked : DefP := { at_ := .glo (S.nm 28), name := "_law_asked", qual := "_law_asked", params := defArgs st__law_asked, body := defBody st__law_asked, scope := defScope st__law_asked, dfl := [], kwd := [] }
abbrev st__law_refused_v5 : Stmt := top 21
abbrev n__law_refused_v5 : List Str := ["_law_a", "_law_b", "_law_raised", "_law_way", "e"]
theorem sc__law_refused_v5 : FnScope n__law_refused_v5 ["_law_a", "_law_b"] (defScope st__law_refused_v5) := ⟨rfl, rfl, rfl, by decide +kernel, rfl, by decide +kernel, by decide +kernel⟩
def dp__law_refused_v5 : DefP := { at_ := .glo (S.nm 144), name := "_law_refused", qual := "_law_refused", params := defArgs st__law_refused_v5, body := defBody st__law_refused_v5, scope := defScope st__law_refused_v5, dfl := [], kwd := [] }
abbrev st_Shape___eq__ : Stmt := inC 8 11
abbrev n_Shape___eq__ : List Str := ["self", "other"]
theorem sc_Shape___eq__ : FnScope n_Shape___eq__ ["self", "other"] (defScope st_Shape___eq__) := ⟨rfl, rfl, rfl, by decide +kernel, rfl, by decide +kernel, by decide +kernel⟩
def dp_Shape___eq__ : DefP := { at_ := .meth "Shape" (S.nm 9), name := "__eq__", qual := "Shape.__eq__", params := defArgs st_Shape___eq__, body := defBody st_Shape___eq__, scope := defScope st_Shape___eq__, dfl := [], kwd := [] }
abbrev st_law_k59 : Stmt := top 22
abbrev n_law_k59 : List Str := ["_law_script", "_law_box_here", "_law_wide", "_law_high", "_law_one", "_law_two", "_law_way", "_law_line", "_law_a", "_law_b", "_law_turn", "_law_three", "_law_c"]
theorem sc_law_k59 : FnScope n_law_k59 ["_law_script"] (defScope st_law_k59) := ⟨rfl, rfl, rfl, by decide +kernel, rfl, by decide +kernel, by decide +kernel⟩
def dp_law_k59 : DefP := { at_ := .glo (S.nm 276), name := "law", qual := "law", params := defArgs st_law_k59, body := defBody st_law_k59, scope := defScope st_law_k59, dfl := [], kwd := [] }
abbrev st_InvalidShape : Stmt := inC 3 0
def de_InvalidShape : ErrD := { c := .InvalidShape, f := "line", qual := "InvalidShape.__init__", params := defArgs st_InvalidShape, body := defBody st_InvalidShape, scope := defScope st_InvalidShape }
abbrev st_WrongSize : Stmt := inC 4 0
def de_WrongSize : ErrD := { c := .WrongSize, f := "mask", qual := "WrongSize.__init__", params := defArgs st_WrongSize, body := defBody st_WrongSize, scope := defScope st_WrongSize }
def moreB (K : Frg) : Bool := true
def want : Want := S.want [dp__law_box, dp__law_draw, dp__law_lines, dp_first_bad_line, dp_Shape___init__, dp_Shape_of, dp__law_is, dp__law_same_text, dp__law_same_names, dp__law_int, dp__law_same_shape, dp_Shape___invert__, dp__law_joint, dp_joined_shapes, dp_Shape___and__, dp_Shape___or__, dp_Shape___sub__, dp__law_asked, dp__law_refused_v5, dp_Shape___eq__, dp_law_k59] [de_InvalidShape, de_WrongSize] [] moreB
abbrev R : PySem.W.OpenRow := PySem.W.OpenLaw.row PySem.Challenge.rw_laidink_k59_shape_signs
abbrev hk : PySem.W.Hook := want.hook
def ob (s : PySem.W.SharedT) : Bool × AlP := want.obs (HandSHeadRun.getT s)
theorem ob_eq (s : PySem.W.SharedT) : ob s = hk.obs s.abs := Want.obs_eq (HandSHeadRun.getT_eq s)
theorem run (w : World) : HandSHeadRun.RunEq R (PySem.W.view R.prog [22]) hk ob 20000 ["_wall", "PrintError", "InvalidShape", "WrongSize", "first_bad_line", "Shape", "joined_shapes", "_law_box", "_law_draw", "_law_lines", "_law_is", "_law_same_text", "_law_same_names", "_law_int", "_law_same_shape", "_law_joint", "_law_asked", "_law_refused", "MOST_PLACES"] w := by
  intro os
  kernel_rfl
end K59
namespace Px
open PySem PySem.Spec PyProof.Rows L2
/-- one clause: the class it names, the slot of its name, its suite -/
structure Hd where
  c : Value
  i : Option Nat
  ts : Addr → Value → Option Addr → TS
def Hd.ends (h : Hd) (D : Ends) : Ends := match h.i with
  | none => { nx := D.nx, rt := D.rt, bk := D.bk, ct := D.ct }
  | some i => { nx := fun r G => D.nx (r.set i none) G, rt := D.rt, bk := fun r G => D.bk (r.set i none) G, ct := fun r G => D.ct (r.set i none) G }
def Hd.slots (h : Hd) (σ : L2.St) (a : Addr) : L2.St := match h.i with
  | none => σ
  | some i => σ.set i (some (.ref a))
/-- what the clauses wish of an error -/
def wHds (K : Frg) (Wo : WX) (D : Ends) : List Hd → WX
  | [] => Wo
  | h :: l => fun cls d σ H => ∃ b, PySem.W.exmOne K cls h.c = some b ∧ (b = true → ∀ a, H a = none → h.ts a cls d (h.ends D) (h.slots σ a) H) ∧ (b = false → wHds K Wo D l cls d σ H)
/-- a clause's suite keeps what is said of it -/
def SuOk (X : Cx) (sts : List Stmt) (ts : Addr → Value → Option Addr → TS) : Prop := ∀ (a : Addr) (oe : Obj) (cls : Value) (d : Option Addr) (pn : List (Addr × Obj)), Zi X.K cls d oe → (∃ vs, oe.data = .fields vs) → PSs (X.suite a ((a, oe) :: pn)) sts (ts a cls d)
inductive HN (X : Cx) : List ExceptHandler → List Hd → Prop
  | nil : HN X [] []
  | bare {x : Str} {c : Value} {ts : Addr → Value → Option Addr → TS} {b0 : Stmt} {su : List Stmt} {np hp : Pos} {hs : List ExceptHandler} {l : List Hd} (hc : Names X x c) (ok : SuOk X (b0 :: su) ts) (r : HN X hs l) : HN X (.ExceptHandler (some (.Name x np)) none (b0 :: su) hp :: hs) (⟨c, none, ts⟩ :: l)
  | named {x n : Str} {i : Nat} {c : Value} {ts : Addr → Value → Option Addr → TS} {b0 : Stmt} {su : List Stmt} {np hp : Pos} {hs : List ExceptHandler} {l : List Hd} (hc : Names X x c) (hi : X.N[i]? = some n) (hl : X.env.kindOf n = some .local) (ok : SuOk X (b0 :: su) ts) (r : HN X hs l) : HN X (.ExceptHandler (some (.Name x np)) (some n) (b0 :: su) hp :: hs) (⟨c, some i, ts⟩ :: l)
/-- an error that has come down to a try, in the heap h -/
structure Down (X : Cx) (pins : List (Addr × Obj)) (a : Addr) (cls : Value) (d : Option Addr) (σ : L2.St) (H : Hp) (Bs : Heap) (s : Shared) (h : Heap) : Prop where
  fly : HandSPX.FlyingZ Bs (X.env :: X.outer) a (Zi X.K cls d) h
  inv : ∀ h', HandSPX.FlyingZ Bs (X.env :: X.outer) a (Zi X.K cls d) h' → h.UpToSlots h' → Inv X pins σ H { s with heap := h' }
  new : H a = none
  nL : a ≠ X.env.locals
  nF : a ∉ X.fs
section
variable {X : Cx} {pins : List (Addr × Obj)} {a : Addr} {cls : Value} {d : Option Addr} {σ : L2.St} {H : Hp} {Bs : Heap} {s : Shared} {h : Heap} {D : Ends}
theorem Down.here (z : Down X pins a cls d σ H Bs s h) : Inv X pins σ H { s with heap := h } := z.inv h z.fly (Heap.UpToSlots.refl _)
/-- the clause's class is looked at -/
theorem Down.test {x : Str} {c : Value} {np : Pos} {b : Bool} {Q : Bool → Shared → Prop} {E : Value → Shared → Prop} (z : Down X pins a cls d σ H Bs s h) (hc : Names X x c) (e : PySem.W.exmOne X.K cls c = some b) (q : Q b { s with heap := h }) :
    wpAny (model X.prog X.w) (X.A.mark (some (.ref a))) (eval (.Name x np) X.env) (fun u s1 => wpAny (model X.prog X.w) (X.A.mark (some (.ref a))) (excMatches (.ref a) u) Q E s1) E { s with heap := h } := by
  obtain ⟨oe, vs, ho, hz, hv⟩ := z.fly.there
  have look : PySem.W.Looks (model X.prog X.w) h (typeOf (.ref a)) cls := fun A Q E s k y => wpAny_typeOf_ref (k _ _ ho) (by rw [hz.1]; exact y)
  have mt := PySem.W.exm_one (M := model X.prog X.w) z.here.kIn look e
  have S := z.here.suite ho hv z.new z.nL z.nF
  obtain ⟨g1, g2, g3 | ⟨g3, g4, g5⟩⟩ := hc
  · exact ld_glob (X := X.suite a ((a, oe) :: (X.pn ++ pins))) S g1 g3 (mt.here q) g2
  · exact ld_blt (X := X.suite a ((a, oe) :: (X.pn ++ pins))) S g1 g3 g4 (mt.here q) g5 g2
/-- no clause takes it -/
theorem Down.on {Wo : WX} {sI s0 : Shared} (hs : X.stack = X.env :: X.outer) (hf : X.env.frame = some X.env.locals) (tk : TkI X Wo) (z : Down X pins a cls d σ H Bs s h) (xe : ∀ h4, HandSPX.HeldZ Bs (X.env :: X.outer) a (Zi X.K cls d) X.env.locals h4 → h.UpToSlots h4 → XI X Wo (.ref a) { s with heap := h4 }) :
    wpAny (model X.prog X.w) X.A (handleBy (.ref a) X.env []) (SP X pins D) X.xe { s with heap := h } := by
  have fly := z.fly
  refine wpAny_handleBy_nil ?_
  obtain ⟨_, _, _, oe, vs, T, oT, tr, ho, _, hv, v1, _⟩ := id fly
  have up : wpAny (model X.prog X.w) X.A (setFlight (.ref a) X.env.frame) (fun _ s4 => wpAny (model X.prog X.w) X.A (throw (.ref a) : Sem Flow) (SP X pins D) X.xe s4) X.xe { s with heap := h } := by
    rw [hf]
    exact HandSPX.setFlight_upZ fly fun h4 held u4 => wpAny_throw (tk _ _ (xe h4 held u4))
  unfold PySem.passOn
  refine wpAny_bind (wpAny_field ho hv v1 ?_)
  rw [if_neg (by simp : ¬ ((Value.ref T == Value.none) = true))]
  first
    | exact wpAny_bind (wpAny_pure (wpAny_bind up))
    | exact wpAny_bind up
theorem sp_map {pins' : List (Addr × Obj)} {X' : Cx} {D' : Ends} {fl : Flow} {s' : Shared} (hn : ∀ r G, D'.nx r G → D.nx r G) (hb : ∀ r G, D'.bk r G → D.bk r G) (hc : ∀ r G, D'.ct r G → D.ct r G) (hr : ∀ r G, D'.rt r G → D.rt r G) (i : ∀ r G, Inv X' pins' r G s' → Inv X pins r G s') (q : SP X' pins' D' fl s') : SP X pins D fl s' := by
  cases fl with
  | next => obtain ⟨r, G, J, y⟩ := q; exact ⟨r, G, i _ _ J, hn _ _ y⟩
  | brk => obtain ⟨r, G, J, y⟩ := q; exact ⟨r, G, i _ _ J, hb _ _ y⟩
  | cont => obtain ⟨r, G, J, y⟩ := q; exact ⟨r, G, i _ _ J, hc _ _ y⟩
  | ret u => obtain ⟨v, r, G, J, e, y⟩ := q; exact ⟨v, r, G, i _ _ J, e, hr _ _ y⟩
/-- the clauses, one behind the other -/
theorem Down.hds {Wo : WX} (hs : X.stack = X.env :: X.outer) (hf : X.env.frame = some X.env.locals) (nd : X.N.Nodup) (tk : TkI X Wo) (z : Down X pins a cls d σ H Bs s h) (ok : X.Ok)
    (xe : Wo cls d σ H → ∀ h4, HandSPX.HeldZ Bs (X.env :: X.outer) a (Zi X.K cls d) X.env.locals h4 → h.UpToSlots h4 → XI X Wo (.ref a) { s with heap := h4 }) :
    ∀ {hs' : List ExceptHandler} {l : List Hd}, HN X hs' l → wHds X.K Wo D l cls d σ H → wpAny (model X.prog X.w) X.A (handleBy (.ref a) X.env hs') (SP X pins D) X.xe { s with heap := h } := by
  intro hs' l hn
  induction hn with
  | nil => exact fun w => z.on (sI := s) (s0 := s) hs hf tk (xe w)
  | @bare x c ts b0 su np hp hs2 l2 hc su_ok r ih =>
    rintro ⟨b, e, yes, no⟩
    refine wpAny_handleBy_cons (codeAny_handlers_test (z.test hc e ?_)) (fun y => nomatch y)
    cases b with
    | false => exact ih (no rfl)
    | true =>
      refine codeAny_handlers_suite (HandSPX.lands_againZ z.fly fun h4 fly4 up4 => ?_)
      obtain ⟨oe, vs, ho, hz, hv⟩ := fly4.there
      have S := (z.inv h4 fly4 up4).suite ho hv z.new z.nL z.nF
      refine wpAny_mono ((su_ok a oe cls d (X.pn ++ pins) hz ⟨_, hv⟩).run [] _ _ H _ S (yes rfl a z.new)) (fun fl s6 q => ?_) fun _ _ y => y.elim
      exact sp_map (D := D) (pins := pins) (fun _ _ y => y) (fun _ _ y => y) (fun _ _ y => y) (fun _ _ y => y) (fun _ _ J => J.unsuite ok) q
  | @named x n i c ts b0 su np hp hs2 l2 hc hi hl su_ok r ih =>
    rintro ⟨b, e, yes, no⟩
    refine wpAny_handleBy_cons (codeAny_handlers_test (z.test hc e ?_)) (fun y => nomatch y)
    cases b with
    | false => exact ih (no rfl)
    | true =>
      refine codeAny_handlers_suite_as (HandSPX.lands_againZ z.fly fun h4 fly4 up4 => ?_)
      obtain ⟨oe, vs, ho, hz, hv⟩ := fly4.there
      have S := (z.inv h4 fly4 up4).suite ho hv z.new z.nL z.nF
      refine store_ok (v := .ref a) (X := X.suite a ((a, oe) :: (X.pn ++ pins))) S nd hi (.inl hl) rfl (fun s5 S5 => ?_) (.inr hl)
      refine wpAny_mono ((su_ok a oe cls d (X.pn ++ pins) hz ⟨_, hv⟩).run [] s5 _ H _ S5 (yes rfl a z.new)) (fun fl s6 q => ?_) fun _ _ y => y.elim
      have bye : ∀ {r : L2.St} {G : Hp} {F : Shared → Prop}, Inv (X.suite a ((a, oe) :: (X.pn ++ pins))) [] r G s6 → (∀ s7, Inv X pins (r.set i none) G s7 → F s7) → wpAny (model X.prog X.w) X.A (do bindName X.env n .none; unbindBehindTheSuite X.env n hp) (fun _ s7 => F s7) X.xe s6 := fun {r G F} J y => gone_ok (J.unsuite ok) nd hi hl y
      cases fl with
      | next => obtain ⟨r, G, J, y⟩ := q; exact bye J fun s7 J7 => ⟨_, _, J7, y⟩
      | brk => obtain ⟨r, G, J, y⟩ := q; exact bye J fun s7 J7 => ⟨_, _, J7, y⟩
      | cont => obtain ⟨r, G, J, y⟩ := q; exact bye J fun s7 J7 => ⟨_, _, J7, y⟩
      | ret u => obtain ⟨v, r, G, J, e, y⟩ := q; exact bye J fun s7 J7 => ⟨_, _, _, J7, e, y⟩
end
/-- a try with clauses -/
theorem ps_tryN {X : Cx} {body : List Stmt} {h0 : ExceptHandler} {hs' : List ExceptHandler} {l : List Hd} {pos : Pos} {tb : WX → TS} {Wo : WX} (hs : X.stack = X.env :: X.outer) (hf : X.env.frame = some X.env.locals) (nd : X.N.Nodup) (tk : TkI X Wo)
    (hb : ∀ (W : WX) (pn : List (Addr × Obj)) (xe : Value → Shared → Prop), TkI (X.tr pn xe) W → PassesOwn (model X.prog X.w) X.A X.env xe → PSs (X.tr pn xe) body (tb W))
    (hh : HN X (h0 :: hs') l) : PS X (.Try body (h0 :: hs') [] [] pos) (fun D σ H => tb (wHds X.K Wo D l) D σ H) := by
  refine ⟨fun pins s σ H D I q => wpAny_Try_except ?_⟩
  have ok := I.ok
  have fr : X.A.frames = some (X.env :: X.outer) := by rw [ok.frames, hs]
  refine wpAny_mono ((hb (wHds X.K Wo D l) (X.pn ++ pins) (fun e s1 => wpAny (model X.prog X.w) X.A (noteFrame e X.env) (fun _ s2 => wpAny (model X.prog X.w) X.A (setFlight e none) (fun _ s3 =>
    wpAny (model X.prog X.w) X.A (handleBy e X.env (h0 :: hs')) (SP X pins D) X.xe s3) X.xe s2) X.xe s1) (fun u s' x => ?_) PassesOwn.looking).run [] s σ H D (I.toTry _) q) (fun fl s1 y => ?_) (fun _ _ y => y)
  · obtain ⟨a, Bs, sI, pins', r, G, cls, d, rfl, J', nb, up, sky, na, os, ag, w⟩ := x
    have J : Inv X pins r G sI := J'.ofTry ok
    rw [show (X.tr (X.pn ++ pins) _).stack = X.env :: X.outer from hs] at sky
    rw [show frL (X.tr (X.pn ++ pins) _) = X.env.locals from frL_of (X := X.tr (X.pn ++ pins) _) hf] at sky
    show wpAny (model X.prog X.w) X.A (noteFrame (.ref a) X.env) _ _ _
    refine L2N.Sky.land Zi.steady fr hf sky fun h3 fly up3 => ?_
    have far : a ∉ frs (X.env :: X.outer) := fun hm => by
      obtain ⟨oe, vs, ho, _, hv⟩ := fly.there
      obtain ⟨_, o', e', nf⟩ := fly.2.2.1.mem hm
      rw [ho] at e'
      cases e'
      exact nf _ hv
    have z : Down X pins a cls d r G Bs s' h3 :=
      ⟨fly, fun h4 fly4 up4 => J.landed nb fly4.1 ((up.trans up3).trans up4) os ag, na, fun y => far (List.mem_filterMap.mpr ⟨X.env, List.mem_cons_self, by rw [hf, y]⟩), fun hm => by
        obtain ⟨e, he, y⟩ := List.mem_filterMap.mp hm
        exact far (List.mem_filterMap.mpr ⟨e, List.mem_cons_of_mem _ he, y⟩)⟩
    exact z.hds hs hf nd tk ok (fun w h4 held u4 => ⟨a, Bs, sI, pins, r, G, cls, d, rfl, J, nb, (up.trans up3).trans u4, .inr (.inr (by rw [hs, frL_of hf]; exact held)), na, os, ag, w⟩) hh w
  · cases fl with
    | next => obtain ⟨r, G, J, y⟩ := y; exact wpAny_execs_nil ⟨r, G, J.ofTry ok, y⟩
    | brk => obtain ⟨r, G, J, y⟩ := y; exact ⟨r, G, J.ofTry ok, y⟩
    | cont => obtain ⟨r, G, J, y⟩ := y; exact ⟨r, G, J.ofTry ok, y⟩
    | ret u => obtain ⟨v, r, G, J, e, y⟩ := y; exact ⟨v, r, G, J.ofTry ok, e, y⟩
/-- a class of errors that is neither the base class nor InvalidRun -/
def plainX : Cl → Bool
  | .PrintError => false
  | .InvalidRun => false
  | _ => true
theorem plainX_run {c : Cl} (h : plainX c = true) : c ≠ .InvalidRun := fun e => by rw [e] at h; cases h
theorem plainX_pe {c : Cl} (h : plainX c = true) : c ≠ .PrintError := fun e => by rw [e] at h; cases h
theorem zi_zn {K : Frg} {c : Cl} {d : Option Addr} {o : Obj} (ka : KA K) (hc : xcB K c = true) (n : c ≠ .InvalidRun) (h : Zi K (.ref (ca K c)) d o) : L2N.Zn (.ref (ca K c)) d o := h.zn fun x e => by
  have e1 := ka.xm c .InvalidRun hc x
  have e2 := ka.xm .InvalidRun .InvalidRun x x
  have e : Value.ref (ca K c) = .ref (ca K .InvalidRun) := e
  rw [e, e2] at e1
  have e3 : subX .InvalidRun .InvalidRun = subX c .InvalidRun := Option.some.inj e1
  have e4 : subX c .InvalidRun = false := by simp [subX, n]
  rw [e4] at e3
  exact absurd e3 (by decide)
theorem s_try {X : Cx} {W : WX} {c0 : Cl} {n : Str} {i : Nat} {body suite : List Stmt} {b0 : Stmt} {np pos pos' : Pos} {db : DS} {ds : Addr → Addr → Cl → DS} (ka : KA X.K) (hc0 : xcB X.K c0 = true) (hm : X.mg c0.name = some (.ref (ca X.K c0))) (nd : X.N.Nodup) (tk : TkI X W)
    (hb : ∀ (W' : WX) (pn : List (Addr × Obj)) (xe : Value → Shared → Prop), TkI (X.tr pn xe) W' → PassesOwn (model X.prog X.w) X.A X.env xe → BJ (X.tr pn xe) W' body db)
    (hnr : c0 ≠ .InvalidRun) (hnp : c0 ≠ .PrintError)
    (hs : ∀ (a : Addr) (oe : Obj) (d : Option Addr) (pn : List (Addr × Obj)) (c : Cl) (dd : Addr), xcB X.K c = true → subX c c0 = true → L2N.Zn (.ref (ca X.K c)) d oe → (∃ vs, oe.data = .fields vs) → XD c d dd → BJ (X.suite a ((a, oe) :: pn)) Wno (b0 :: suite) (ds a dd c))
    (hi : X.N[i]? = some n := by rfl) (hln : X.env.kindOf n = some .local := by rfl) (h1 : X.stack = X.env :: X.outer := by rfl) (h2 : X.env.frame = some X.env.locals := by rfl) (hg : Gl X c0.name := by rfl) (hd : (c0.name == ("__debug__" : Str)) = false := by decide) :
    SJ X W (.Try body [.ExceptHandler (some (.Name c0.name np)) (some n) (b0 :: suite) pos'] [] [] pos) (dTry c0 i db ds) := by
  have su : SuOk X (b0 :: suite) (fun a cls d D σ H => ∃ c dd, xcB X.K c = true ∧ subX c c0 = true ∧ cls = .ref (ca X.K c) ∧ XD c d dd ∧ tS X.K Wno (ds a dd c) D σ H) := fun a oe cls d pn hz hf => ⟨fun pins s σ H D J ⟨c, dd, hc, hsb, e, hx, hh⟩ => by
    subst e
    exact (hs a oe d pn c dd hc hsb (zi_zn ka hc (by rw [subX_eq hsb hnp]; exact hnr) hz) hf hx).run pins s σ H D J hh⟩
  refine ps_imp (ps_tryN (tb := fun W' => tS X.K W' db) (Wo := W) (l := [⟨.ref (ca X.K c0), some i, fun a cls d D σ H => ∃ c dd, xcB X.K c = true ∧ subX c c0 = true ∧ cls = .ref (ca X.K c) ∧ XD c d dd ∧ tS X.K Wno (ds a dd c) D σ H⟩]) h1 h2 nd tk hb (.named ⟨hg, hd, .inl hm⟩ hi hln su .nil)) fun D σ H ⟨B, ρ, μ, G, P, R, h, eo⟩ => ?_
  · refine ⟨B, ρ, μ, G, _, R, h, ⟨eo.nx, eo.rt, eo.bk, eo.ct, fun xv d ρ' σ' μ' G' H' h0 R' g rr => ?_⟩⟩
    obtain ⟨hc, rr'⟩ := rr
    refine ⟨subX xv.1 c0, ka.xm xv.1 c0 hc hc0, fun hb a ha => ?_, fun hb => ?_⟩
    · have h0 := h0.t hb
      obtain ⟨dd, hx, rx⟩ : ∃ dd, XD xv.1 d dd ∧ Rep X.K B G' (.exc a dd xv.1 xv.2) (.ref a) := by
        rcases rr' with ⟨e1, e2, e3⟩ | ⟨dd, vs, e1, e2, e3, e4⟩
        · exact ⟨0, .inl ⟨e1, e3⟩, by simp only [Rep]; exact ⟨trivial, .inl e1⟩⟩
        · exact ⟨dd, .inr e1, by simp only [Rep]; exact ⟨trivial, .inr ⟨vs, e2, e3, e4⟩⟩⟩
      have eo2 := eo.go g
      exact ⟨xv.1, dd, hc, hb, rfl, hx, B, _, μ', G', _, R'.set i rx, h0 a dd, ⟨fun r s μ2 G2 H2 z R2 g2 => eo2.nx _ _ μ2 G2 H2 z (R2.clear i) g2, eo2.rt, fun r s μ2 G2 H2 z R2 g2 => eo2.bk _ _ μ2 G2 H2 z (R2.clear i) g2, fun r s μ2 G2 H2 z R2 g2 => eo2.ct _ _ μ2 G2 H2 z (R2.clear i) g2, fun _ _ _ _ _ _ _ z => z.elim⟩⟩
    · have h0 := h0.f hb
      exact eo.xc xv d ρ' σ' μ' G' H' h0 R' g ⟨hc, rr'⟩
end Px
namespace Gk
open PySem
open Sem (wp)
/-- woken, it does nothing that is known -/
def dead : Resume → Sem PySem.Fin := fun _ => .unsupported ""
theorem dead_no {M : Model} {Γ : Ctx} {p : Pos} {fs : List Frame} {s s' : Shared} {e : End} {w : String} (h : Runs M Γ p (.unsupported w) fs s e s') : False := by
  generalize ht : (Sem.unsupported w : Sem PySem.Fin) = t at h
  induction h <;> simp_all
/-- which sleep, and how they truly are -/
abbrev Sl := Nat → Option GenState
def fillA (S : Sl) (a : Array GenState) : Array GenState := a.mapIdx fun i x => (S i).getD x
def fill (S : Sl) (s : Shared) : Shared := { s with gens := fillA S s.gens }
structure Good (S : Sl) (s : Shared) : Prop where
  at_ : ∀ i o, S i = some o → ∃ l c p fs, s.gens[i]? = some (.suspended dead l c p fs false) ∧ o.seen = (GenState.suspended dead l c p fs false).seen
  rest : ∀ i k l c p fs cl, S i = none → s.gens[i]? = some (.suspended k l c p fs cl) → splitAtGen fs = none
theorem fillA_get (S : Sl) (a : Array GenState) (i : Nat) : (fillA S a)[i]? = a[i]?.map fun x => (S i).getD x := by
  unfold fillA; simp
theorem fillA_size (S : Sl) (a : Array GenState) : (fillA S a).size = a.size := by unfold fillA; simp
theorem fillA_set {S : Sl} {i : Nat} (h : S i = none) (a : Array GenState) (x : GenState) : fillA S (a.setIfInBounds i x) = (fillA S a).setIfInBounds i x := by
  apply Array.ext_getElem?
  intro j
  rw [fillA_get]
  by_cases e : i = j
  · subst e
    simp only [Array.getElem?_setIfInBounds, fillA_size]
    simp [h]
  · rw [Array.getElem?_setIfInBounds_ne e, Array.getElem?_setIfInBounds_ne e, fillA_get]
theorem fillA_push {S : Sl} (a : Array GenState) (h : S a.size = none) (x : GenState) : fillA S (a.push x) = (fillA S a).push x := by
  apply Array.ext_getElem?
  intro j
  rw [fillA_get, Array.getElem?_push, Array.getElem?_push, fillA_size, fillA_get]
  split
  · rename_i e; subst e; simp [h]
  · rfl
theorem Good.free {S : Sl} {s : Shared} (G : Good S s) : S s.gens.size = none := by
  cases e : S s.gens.size with
  | none => rfl
  | some o =>
    obtain ⟨l, c, p, fs, h, _⟩ := G.at_ _ o e
    simp at h
theorem Good.heap {S : Sl} {s s' : Shared} (G : Good S s) (h : s'.gens = s.gens) : Good S s' := ⟨fun i o e => by rw [h]; exact G.at_ i o e, fun i k l c p fs cl e q => by rw [h] at q; exact G.rest i k l c p fs cl e q⟩
def StOk : GenState → Prop
  | .suspended _ _ _ _ fs _ => splitAtGen fs = none
  | _ => True
theorem set_get {a : Array GenState} {i j : Nat} {x y : GenState} (h : (a.setIfInBounds i x)[j]? = some y) : (i = j ∧ y = x) ∨ (i ≠ j ∧ a[j]? = some y) := by
  by_cases e : i = j
  · subst e
    rw [Array.getElem?_setIfInBounds] at h
    simp only [if_true] at h
    split at h
    · cases h; exact .inl ⟨rfl, rfl⟩
    · cases h
  · rw [Array.getElem?_setIfInBounds_ne e] at h
    exact .inr ⟨e, h⟩
theorem Good.set {S : Sl} {s : Shared} (G : Good S s) {i : Nat} {x : GenState} (h : S i = none) (hx : StOk x) : Good S (s.setGen i x) := by
  refine ⟨fun j o e => ?_, fun j k l c p fs cl e q => ?_⟩
  · obtain ⟨l, c, p, fs, q, r⟩ := G.at_ j o e
    refine ⟨l, c, p, fs, ?_, r⟩
    show (s.gens.setIfInBounds i x)[j]? = _
    rw [Array.getElem?_setIfInBounds_ne (fun z => by subst z; rw [h] at e; cases e)]
    exact q
  · rcases set_get q with ⟨_, z⟩ | ⟨_, z⟩
    · subst z; exact hx
    · exact G.rest j k l c p fs cl e z
theorem Good.push {S : Sl} {s : Shared} (G : Good S s) {c : Code} : Good S { s with gens := s.gens.push (.fresh c) } := by
  refine ⟨fun j o e => ?_, fun j k l c' p fs cl e q => ?_⟩
  · obtain ⟨l, c', p, fs, q, r⟩ := G.at_ j o e
    refine ⟨l, c', p, fs, ?_, r⟩
    show (s.gens.push _)[j]? = _
    have : j < s.gens.size := by
      rw [Array.getElem?_eq_some_iff] at q
      exact q.1
    rw [Array.getElem?_push_lt this, ← q]
    simp [this]
  · have q : (s.gens.push (.fresh c))[j]? = some _ := q
    rw [Array.getElem?_push] at q
    split at q
    · cases q
    · exact G.rest j k l c' p fs cl e q
theorem fill_set {S : Sl} {i : Nat} (h : S i = none) (s : Shared) (x : GenState) : fill S (s.setGen i x) = (fill S s).setGen i x := by
  show { s with gens := fillA S (s.gens.setIfInBounds i x) } = { s with gens := (fillA S s.gens).setIfInBounds i x }
  rw [fillA_set h]
def EndOk : End → Prop
  | .ret _ => True
  | .susp _ _ _ _ _ _ fs => splitAtGen fs = none
theorem EndOk.st {e : End} (h : EndOk e) : StOk e.genState := by
  cases e with
  | ret _ => trivial
  | susp v g l k c p fs => exact h
theorem split_app : ∀ {fs gs : List Frame}, splitAtGen fs = none → splitAtGen gs = none → splitAtGen (fs ++ gs) = none
  | [], gs, _, h => h
  | .gen _ _ _ _ _ :: fs, gs, h, _ => by simp [splitAtGen] at h
  | .ret k a b c d e f :: fs, gs, h, h2 => by
    have h : (splitAtGen fs).map _ = none := h
    have h1 : splitAtGen fs = none := by
      cases q : splitAtGen fs with
      | none => rfl
      | some x => rw [q] at h; cases h
    show (splitAtGen (fs ++ gs)).map _ = none
    rw [split_app h1 h2]; rfl
theorem split_tail {F : Frame} {fs : List Frame} (h : splitAtGen (F :: fs) = none) : splitAtGen fs = none := by
  cases F with
  | gen _ _ _ _ _ => simp [splitAtGen] at h
  | ret k a b c d e f =>
    have h : (splitAtGen fs).map _ = none := h
    cases q : splitAtGen fs with
    | none => rfl
    | some x => rw [q] at h; cases h
theorem Good.no {S : Sl} {s : Shared} (G : Good S s) {i : Nat} {x : GenState} (h : s.gens[i]? = some x) (hx : ∀ k l c p fs cl, x ≠ .suspended k l c p fs cl) : S i = none := by
  cases e : S i with
  | none => rfl
  | some o =>
    obtain ⟨l, c, p, fs, q, _⟩ := G.at_ i o e
    rw [h] at q; cases q; exact absurd rfl (hx _ _ _ _ _ _)
theorem fill_get {S : Sl} {s : Shared} {i : Nat} {x : GenState} (h : S i = none) (e : s.gens[i]? = some x) : (fill S s).gens[i]? = some x := by
  show (fillA S s.gens)[i]? = _
  rw [fillA_get, e, h]; rfl
theorem seen_fill {S : Sl} {s : Shared} (G : Good S s) {g : Nat} {st : GenState} (q : s.gens[g]? = some st) : ∃ o, (fill S s).gens[g]? = some o ∧ o.seen = st.seen := by
  cases eS : S g with
  | none => exact ⟨st, fill_get eS q, rfl⟩
  | some o =>
    obtain ⟨l, c0, p0, fs0, q0, r0⟩ := G.at_ g o eS
    rw [q] at q0
    cases q0
    refine ⟨o, ?_, r0⟩
    show (fillA S s.gens)[g]? = _
    rw [fillA_get, q, eS]; rfl
theorem fill_push {S : Sl} {s : Shared} (G : Good S s) {x : GenState} : fill S { s with gens := s.gens.push x } = { fill S s with gens := (fill S s).gens.push x } := by
  show { s with gens := fillA S (s.gens.push x) } = { s with gens := (fillA S s.gens).push x }
  rw [fillA_push _ G.free]
theorem runs_fill {M : Model} {S : Sl} {Γ : Ctx} {p : Pos} {t : Sem PySem.Fin} {fs : List Frame} {s s' : Shared} {e : End} (h : Runs M Γ p t fs s e s') : Good S s → splitAtGen fs = none → Good S s' ∧ EndOk e ∧ Runs M Γ p t fs (fill S s) e (fill S s') := by
  induction h with
  | done => exact fun G _ => ⟨G, trivial, .done⟩
  | raise => exact fun G _ => ⟨G, trivial, .raise⟩
  | again q _ ih => exact fun G f => let ⟨a, b, c⟩ := ih G f; ⟨a, b, .again q c⟩
  | rule _ ih => exact fun G f => let ⟨a, b, c⟩ := ih G f; ⟨a, b, .rule c⟩
  | «at» _ ih => exact fun G f => let ⟨a, b, c⟩ := ih G f; ⟨a, b, .at c⟩
  | load q _ ih => exact fun G f => let ⟨a, b, c⟩ := ih G f; ⟨a, b, .load q c⟩
  | update q _ ih => exact fun G f => let ⟨a, b, c⟩ := ih (G.heap rfl) f; ⟨a, b, .update q c⟩
  | loadIfAlive _ ih => exact fun G f => let ⟨a, b, c⟩ := ih G f; ⟨a, b, .loadIfAlive c⟩
  | point _ ih => exact fun G f => let ⟨a, b, c⟩ := ih G f; ⟨a, b, .point c⟩
  | alloc _ ih => exact fun G f => let ⟨a, b, c⟩ := ih (G.heap rfl) f; ⟨a, b, .alloc c⟩
  | fresh _ ih => exact fun G f => let ⟨a, b, c⟩ := ih (G.heap rfl) f; ⟨a, b, .fresh c⟩
  | ask _ ih => exact fun G f => let ⟨a, b, c⟩ := ih G f; ⟨a, b, .ask c⟩
  | choose q _ ih => exact fun G f => let ⟨a, b, c⟩ := ih (G.heap rfl) f; ⟨a, b, .choose q c⟩
  | os _ ih => exact fun G f => let ⟨a, b, c⟩ := ih (G.heap rfl) f; ⟨a, b, .os c⟩
  | handled _ ih => exact fun G f => let ⟨a, b, c⟩ := ih G f; ⟨a, b, .handled c⟩
  | genState q _ ih =>
    intro G f
    obtain ⟨a, b, c⟩ := ih G f
    obtain ⟨o, q1, r⟩ := seen_fill G q
    exact ⟨a, b, .genState q1 (by rw [r]; exact c)⟩
  | stack _ ih => exact fun G f => let ⟨a, b, c⟩ := ih G f; ⟨a, b, .stack c⟩
  | thread _ ih => exact fun G f => let ⟨a, b, c⟩ := ih G f; ⟨a, b, .thread c⟩
  | newGen _ ih =>
    intro G f
    obtain ⟨a, b, c⟩ := ih G.push f
    rw [fill_push G] at c
    exact ⟨a, b, .newGen (by rw [show (fill S _).gens.size = _ from fillA_size _ _]; exact c)⟩
  | call _ _ ih1 ih2 => exact fun G f => let ⟨a, b, c⟩ := ih1 G rfl; let ⟨a2, b2, c2⟩ := ih2 a f; ⟨a2, b2, .call c c2⟩
  | callSusp _ ih => exact fun G f => let ⟨a, b, c⟩ := ih G rfl; ⟨a, split_app b rfl, .callSusp c⟩
  | yield => exact fun G f => ⟨G, rfl, .yield⟩
  | resumeFresh q _ hq _ ih1 ih2 =>
    intro G f
    have n := G.no q (fun _ _ _ _ _ _ z => by cases z)
    obtain ⟨a, b, c⟩ := ih1 (G.set n trivial) rfl
    obtain ⟨a2, b2, c2⟩ := ih2 (a.set n b.st) f
    rw [fill_set n] at c c2
    exact ⟨a2, b2, .resumeFresh (fill_get n q) c hq c2⟩
  | @resumeSuspended Γ p g r l k s k₀ l₀ c₀ p₀ fs cl e₁ s₁ e s' q h1 hq _ ih1 ih2 =>
    intro G f
    cases eS : S g with
    | some o =>
      obtain ⟨l, c0, p0, fs0, q0, r0⟩ := G.at_ g o eS
      rw [q] at q0
      cases q0
      exact (dead_no h1).elim
    | none =>
      obtain ⟨a, b, c⟩ := ih1 (G.set eS trivial) (G.rest _ _ _ _ _ _ _ eS q)
      obtain ⟨a2, b2, c2⟩ := ih2 (a.set eS b.st) f
      rw [fill_set eS] at c c2
      exact ⟨a2, b2, .resumeSuspended (fill_get eS q) c hq c2⟩
  | resumeJustStarted q hv _ ih => exact fun G f => let ⟨a, b, c⟩ := ih G f; ⟨a, b, .resumeJustStarted (fill_get (G.no q (fun _ _ _ _ _ _ z => by cases z)) q) hv c⟩
  | resumeThrowFresh q _ ih =>
    intro G f
    have n := G.no q (fun _ _ _ _ _ _ z => by cases z)
    obtain ⟨a, b, c⟩ := ih (G.set n trivial) f
    rw [fill_set n] at c
    exact ⟨a, b, .resumeThrowFresh (fill_get n q) c⟩
  | resumeRunning q _ ih => exact fun G f => let ⟨a, b, c⟩ := ih G f; ⟨a, b, .resumeRunning (fill_get (G.no q (fun _ _ _ _ _ _ z => by cases z)) q) c⟩
  | resumeFinished q _ ih => exact fun G f => let ⟨a, b, c⟩ := ih G f; ⟨a, b, .resumeFinished (fill_get (G.no q (fun _ _ _ _ _ _ z => by cases z)) q) c⟩
  | segRet _ _ ih1 ih2 => exact fun G f => let ⟨a, b, c⟩ := ih1 G rfl; let ⟨a2, b2, c2⟩ := ih2 a (split_tail f); ⟨a2, b2, .segRet c c2⟩
  | segGen _ _ ih1 ih2 => exact fun G f => by simp [splitAtGen] at f
  | segSuspOut q _ ih => exact fun G f => let ⟨a, b, c⟩ := ih G rfl; ⟨a, split_app b q, .segSuspOut q c⟩
  | segSuspGen q _ _ _ ih1 ih2 => exact fun G f => by rw [f] at q; cases q
theorem wakes_fill {M : Model} {S : Sl} {Γ : Ctx} {p : Pos} {g : Nat} {r : Resume} {s s' : Shared} {res : GenResult} (G : Good S s) (h : Wakes M Γ p g r s res s') : Good S s' ∧ Wakes M Γ p g r (fill S s) res (fill S s') := by
  unfold Wakes at h ⊢
  split at h
  · exact h.elim
  · rename_i c q
    have n := G.no q (fun _ _ _ _ _ _ z => by cases z)
    rw [fill_get n q]
    dsimp only
    split at h
    · obtain ⟨e₁, s₁, hr, hq, hres, rfl⟩ := h
      obtain ⟨a, b, c⟩ := runs_fill hr (G.set n trivial) rfl
      rw [fill_set n] at c
      exact ⟨a.set n b.st, e₁, _, c, hq, hres, fill_set n _ _⟩
    · obtain ⟨h1, rfl⟩ := h
      exact ⟨G, h1, rfl⟩
    · obtain ⟨h1, rfl⟩ := h
      exact ⟨G.set n trivial, h1, fill_set n _ _⟩
  · rename_i k₀ l₀ c₀ p₀ fs cl q
    obtain ⟨e₁, s₁, hr, hq, hres, rfl⟩ := h
    cases eS : S g with
    | some o =>
      obtain ⟨l, c0, p0, fs0, q0, r0⟩ := G.at_ g o eS
      rw [q] at q0
      cases q0
      exact (dead_no hr).elim
    | none =>
      rw [fill_get eS q]
      obtain ⟨a, b, c⟩ := runs_fill hr (G.set eS trivial) (G.rest _ _ _ _ _ _ _ eS q)
      rw [fill_set eS] at c
      exact ⟨a.set eS b.st, e₁, _, c, hq, hres, fill_set eS _ _⟩
  · rename_i q
    obtain ⟨h1, rfl⟩ := h
    rw [fill_get (G.no q (fun _ _ _ _ _ _ z => by cases z)) q]
    exact ⟨G, h1, rfl⟩
  · rename_i q
    obtain ⟨h1, rfl⟩ := h
    rw [fill_get (G.no q (fun _ _ _ _ _ _ z => by cases z)) q]
    exact ⟨G, h1, rfl⟩
/-- what a run's end looks like with the sleepers as they are -/
def Fl (S : Sl) (P : Shared → Prop) (s' : Shared) : Prop := ∃ s1, Good S s1 ∧ s' = fill S s1 ∧ P s1
theorem wp_fill {α : Type} (M : Model) (S : Sl) (Γ : Ctx) (t : Sem α) : ∀ (Q : α → Pos → Shared → Prop) (E : Value → Pos → Shared → Prop) (p : Pos) (s : Shared), Good S s → wp M Γ t Q E p s →
    wp M Γ t (fun a p' => Fl S (Q a p')) (fun e p' => Fl S (E e p')) p (fill S s) := by
  induction t with
  | pure a => intro Q E p s G h; exact ⟨s, G, rfl, h⟩
  | raise e => intro Q E p s G h; exact ⟨s, G, rfl, h⟩
  | unsupported _ => intro Q E p s _ h; exact h
  | finish _ => intro Q E p s _ h; exact h
  | rule _ k ih => intro Q E p s G h; exact ih () Q E p s G h
  | «at» p' k ih => intro Q E p s G h; exact ih () Q E p' s G h
  | load a _ k ih => intro Q E p s G h; obtain ⟨o, ho, h⟩ := h; exact ⟨o, ho, ih o Q E p s G h⟩
  | update a _ f k ih => intro Q E p s G h; exact ⟨h.1, ih () Q E p { s with heap := s.heap.update a f } (G.heap rfl) h.2⟩
  | loadIfAlive a k ih => intro Q E p s G h; exact ih _ Q E p s G h
  | point _ k ih => intro Q E p s G h; exact ih () Q E p s G h
  | register _ _ => intro Q E p s _ h; exact h
  | alloc o k ih => intro Q E p s G h; exact ih _ Q E p { s with heap := s.heap.push o } (G.heap rfl) h
  | fresh k ih => intro Q E p s G h; exact ih _ Q E p { s with toks := s.toks + 1 } (G.heap rfl) h
  | ask k ih => intro Q E p s G h; exact ih _ Q E p s G h
  | choose src m k ih => intro Q E p s G h; exact ⟨h.1, ih _ Q E p { s with drawn := s.drawn.bump src } (G.heap rfl) h.2⟩
  | os q _ k ih => intro Q E p s G h; exact ih _ Q E p { s with os := (Os.step s.os q).1 } (G.heap rfl) h
  | call c hd _ _ k ih =>
    intro Q E p s G h
    obtain ⟨r, s', hr, h⟩ := h
    obtain ⟨a, b, c'⟩ := runs_fill hr G rfl
    exact ⟨r, fill S s', c', ih r Q E p s' a h⟩
  | handled own k ih => intro Q E p s G h; exact ih _ Q E p s G h
  | genState g k ih =>
    intro Q E p s G h
    obtain ⟨st, q, h⟩ := h
    obtain ⟨o, q1, r⟩ := seen_fill G q
    exact ⟨o, q1, by rw [r]; exact ih _ Q E p s G h⟩
  | newGen c k ih =>
    intro Q E p s G h
    have e1 : (fill S s).gens.size = s.gens.size := fillA_size _ _
    show wp M Γ (k (fill S s).gens.size) _ _ p { fill S s with gens := (fill S s).gens.push (.fresh c) }
    rw [e1]
    rw [← fill_push G]
    exact ih _ Q E p _ G.push h
  | resume g r _ k ih =>
    intro Q E p s G h
    obtain ⟨res, s', hw, h⟩ := h
    obtain ⟨a, b⟩ := wakes_fill G hw
    exact ⟨res, fill S s', b, ih res Q E p s' a h⟩
  | yield _ _ _ _ => intro Q E p s _ h; exact h
  | stack k ih => intro Q E p s G h; exact ih _ Q E p s G h
  | fork _ _ => intro Q E p s _ h; exact h
  | thread k ih => intro Q E p s G h; exact ih _ Q E p s G h
  | await _ _ _ _ _ => intro Q E p s _ h; exact h
theorem wpAny_fill {α : Type} {M : Model} {S : Sl} {A : Around} {t : Sem α} {Q : α → Shared → Prop} {E : Value → Shared → Prop} {s : Shared} (G : Good S s) (h : wpAny M A t Q E s) : wpAny M A t (fun a => Fl S (Q a)) (fun e => Fl S (E e)) (fill S s) :=
  fun Γ p hΓ => wp_fill M S Γ t _ _ p s G (h Γ p hΓ)
theorem bare_fill {S : Sl} {s : Shared} (h : PyProof.Rows.AllBare s.gens) (hS : ∀ i o, S i = some o → o.bare = true) : PyProof.Rows.AllBare (fill S s).gens := fun y hy => by
  obtain ⟨i, hi, e⟩ := Array.mem_iff_getElem.mp hy
  have q : (fillA S s.gens)[i]? = some y := by
    have : (fill S s).gens[i]? = some y := by rw [Array.getElem?_eq_getElem hi, e]
    exact this
  rw [fillA_get] at q
  cases z : s.gens[i]? with
  | none => rw [z] at q; cases q
  | some x =>
    rw [z] at q
    cases eS : S i with
    | none => rw [eS] at q; cases q; exact h _ (Array.mem_of_getElem? z)
    | some o => rw [eS] at q; cases q; exact hS i o eS
def NF (s s' : Shared) : Prop := s.heap.objs.size ≤ s'.heap.objs.size ∧ ∀ b, b < s.heap.objs.size → s.heap.get? b = none → s'.heap.get? b = none
theorem NF.refl (s : Shared) : NF s s := ⟨Nat.le_refl _, fun _ _ h => h⟩
theorem NF.trans {a b c : Shared} (x : NF a b) (y : NF b c) : NF a c := ⟨Nat.le_trans x.1 y.1, fun d h e => y.2 d (Nat.lt_of_lt_of_le h x.1) (x.2 d h e)⟩
theorem NF.same {s s1 s' : Shared} (x : NF s1 s') (h : s1.heap = s.heap) : NF s s' := by unfold NF at x ⊢; rw [← h]; exact x
end Gk
namespace Px
open PySem PySem.Spec PyProof.Rows L2
section
variable {M : Model} {A : Around} {F : End → Shared → Prop} {c : Code} {fs : List Frame} {s : Shared}
/-- a generator's code runs until it sleeps or ends, in a state that F tells -/
def Wk (M : Model) (A : Around) (F : End → Shared → Prop) (c : Code) (t : Sem PySem.Fin) (fs : List Frame) (s : Shared) : Prop :=
  ∀ (g : PySem.Ctx) (q : Pos), g.code = c → g.Woken A → ∃ e s', Runs M g q t fs s e s' ∧ F e s'
theorem Wk.mono {F' : End → Shared → Prop} {t : Sem PySem.Fin} (h : Wk M A F c t fs s) (i : ∀ e s1, F e s1 → F' e s1) : Wk M A F' c t fs s := fun G q e hg => by
  obtain ⟨e1, s1, z1, z2⟩ := h G q e hg
  exact ⟨e1, s1, z1, i _ _ z2⟩
/-- what a sleeping or new generator does when it is woken -/
def WkG (M : Model) (A : Around) (F : End → Shared → Prop) (gs : GenState) (s : Shared) : Prop := match gs with
  | .fresh c => Wk M A F c (M.den c) [] s
  | .suspended k _ c _ fs _ => Wk M A F c (k (.send .none)) fs s
  | _ => False
theorem res_wk {α : Type} {g : Nat} {gs : GenState} {l : List Value} {k : GenResult → Sem α} {Q : α → Shared → Prop} {E : Value → Shared → Prop} (hg : s.gens[g]? = some gs) (h : WkG M A F gs (s.setGen g .running))
    (hF : ∀ e s1, F e s1 → s.gens.size ≤ s1.gens.size → e.quiet = true ∧ wpAny M A (k e.result) Q E (s1.setGen g e.genState)) : wpAny M A (.resume g (.send .none) l k) Q E s := fun G q hG => by
  rw [Sem.wp_resume]
  cases gs with
  | running => exact h.elim
  | finished => exact h.elim
  | fresh c1 =>
    obtain ⟨e1, s1, z1, z2⟩ := h (G.wake c1 q) q rfl (hG.wake c1 q)
    have sz := GenW.runs_gsz z1
    rw [GenW.setGen_size] at sz
    obtain ⟨h1, h2⟩ := hF e1 s1 z2 sz
    exact ⟨_, _, by unfold Wakes; rw [hg]; exact ⟨e1, s1, z1, h1, rfl, rfl⟩, h2 G q hG⟩
  | suspended k0 l0 c1 q0 fs0 cl =>
    obtain ⟨e1, s1, z1, z2⟩ := h (G.wake c1 q) q0 rfl (hG.wake c1 q)
    have sz := GenW.runs_gsz z1
    rw [GenW.setGen_size] at sz
    obtain ⟨h1, h2⟩ := hF e1 s1 z2 sz
    exact ⟨_, _, by unfold Wakes; rw [hg]; exact ⟨e1, s1, z1, h1, rfl, rfl⟩, h2 G q hG⟩
/-- it sleeps again: what it handed out, how it sleeps -/
def Slp (e : End) (v : Value) (k : Resume → Sem PySem.Fin) (c : Code) (fs : List Frame) : Prop := ∃ l q, e = .susp v false l k c q fs ∧ fs.any Frame.guarded = false
end
section
variable {P : Program} {w : World} {A : Around} {E : Value → Shared → Prop} {s : Shared} {F : End → Shared → Prop}
/-- next of a generator: no exception comes out -/
theorem next_wk {a : Addr} {g : Nat} {gs : GenState} {Q : Option Value → Shared → Prop} (hh : A.handled = none) (nl : s.heap.NoLimit) (room : A.depth < recursionLimit) (hg : s.heap.IsGen a g) (hgs : s.gens[g]? = some gs)
    (h : WkG (model P w) A.in1 F gs (s.setGen g .running))
    (hF : ∀ e s1, F e s1 → s.gens.size ≤ s1.gens.size → (∃ v k c fs l q, e = .susp v false l k c q fs ∧ fs.any Frame.guarded = false ∧ Q (some v) (s1.setGen g (.suspended k l c q fs false))) ∨
      ((e = .ret (.ok (.ret .none)) ∨ e = .ret (.ok .next)) ∧ ∀ h', (∀ b o, s1.heap.get? b = some o → h'.get? b = some o) → Q none { s1.setGen g .finished with heap := h' })) :
    wpAny (model P w) A (pyNext (.ref a)) Q E s := by
  unfold pyNext
  refine wpAny_bind (wpAny_attempt (wpAny_callSpecial?_slot (name := Str.ofString "__next__") hg.typeIs slot_gen_next (wpAny_call_entry slot_gen_next hg.typeIs entry_gen_next ?_ (args_gen_next _))))
  show wpAny _ A.in1 (Builtin.Generator.genWake (.ref a) (.send .none)) _ _ s
  unfold Builtin.Generator.genWake
  refine wpAny_bind (wpAny_holding (wpAny_genNumber hg (wpAny_bind (wpAny_genState hgs ?_))))
  have go : wpAny (model P w) A.in1 roomToWake (fun _ s1 => s1 = s) (fun _ _ => False) s := wpAny_roomToWake nl room rfl
  cases gs with
  | running => exact h.elim
  | finished => exact h.elim
  | _ =>
    refine wpAny_bind (wpAny_mono go (fun _ s1 e1 => ?_) fun _ _ z => z.elim)
    subst e1
    show wpAny _ A.in1 (.resume g (.send .none) [] _) _ _ _
    refine res_wk hgs h fun e s1 z sz => ?_
    rcases hF e s1 z sz with ⟨v, k, c, fs, l, q, e1, ga, hq⟩ | ⟨he, hq⟩
    · subst e1
      have e2 : (End.susp v false l k c q fs).genState = .suspended k l c q fs false := by
        show GenState.suspended k l c q fs (false || fs.any Frame.guarded) = _
        rw [ga]; rfl
      refine ⟨by show (!(false || fs.any Frame.guarded)) = true; rw [ga]; rfl, ?_⟩
      rw [e2]
      exact wpAny_pure ⟨v, rfl, wpAny_pure hq⟩
    · have hres : e.result = .returned .none ∧ e.genState = .finished ∧ e.quiet = true := by rcases he with he | he <;> (subst he; exact ⟨rfl, rfl, rfl⟩)
      obtain ⟨r1, r2, r3⟩ := hres
      refine ⟨r3, ?_⟩
      rw [r1, r2]
      show wpAny _ A.in1 (newExc (.type "StopIteration") [] >>= _) _ _ _
      refine wpAny_bind ?_
      simp only [newExc, newTuple]
      refine wpAny_bind (wpAny_newObj_type ?_ (by size_fits))
      refine wpAny_bind (m := firstArgMember _ _) (wpAny_of_eq (a := Value.none) (by first | rfl | (simp only [firstArgMember]; rfl)) ?_)
      refine wpAny_newObj_type ?_ (by size_fits)
      simp only [raiseNew]
      refine wpAny_bind (wpAny_bind (wpAny_handled ?_))
      first | rw [show A.in1.handled = none from hh] | rw [hh]
      refine wpAny_throw (wpAny_bind (wpAny_isInstance (T := "StopIteration") (b := true) ⟨_, Heap.get?_push_size _ rfl, rfl⟩ isSubtype_stop (wpAny_pure (hq _ fun b o hb => ?_))))
      exact Heap.get?_push_of_some _ (Heap.get?_push_of_some _ hb)
/-- the loop stands ahead of item i of the list at l -/
structure TailAt (env : Env) (it l : Addr) (i : Nat) (h : Heap) : Prop where
  iter : h.IsListIter it l i
  ns : ∃ m, h.Ns env.locals m
  nl : l ≠ it
  nL : env.locals ≠ it
  lL : l ≠ env.locals
theorem TailAt.at_ {env : Env} {it l : Addr} {i : Nat} {h h' : Heap} (t : TailAt env it l i h) (k1 : ∀ o, h.get? it = some o → h'.get? it = some o) (k2 : ∀ o, h.get? env.locals = some o → h'.get? env.locals = some o) : TailAt env it l i h' :=
  ⟨t.iter.at k1, let ⟨m, o, es, ep, e, r⟩ := t.ns; ⟨m, o, es, ep, k2 _ e, r⟩, t.nl, t.nL, t.lL⟩
/-- written: the iterator and the locals alone -/
def Two (it L : Addr) (s s' : Shared) : Prop := s'.os = s.os ∧ s'.gens = s.gens ∧ ∀ b o, b ≠ it → b ≠ L → s.heap.get? b = some o → s'.heap.get? b = some o
/-- a sleeping loop ahead of item i, at most n items to come: woken, it does as T says -/
def SleepsOf (M : Model) (A : Around) (env : Env) (it l : Addr) (T : Array Value → Shared → End → Shared → Prop) (n i : Nat) (k : Resume → Sem PySem.Fin) (c : Code) (fs : List Frame) : Prop :=
  ∀ (s : Shared) (its : Array Value), TailAt env it l i s.heap → s.heap.IsList l its → its.size ≤ i + n → Wk M A (T its s) c (k (.send .none)) fs s
def TailF (M : Model) (A : Around) (env : Env) (it l : Addr) : Nat → Nat → Array Value → Shared → End → Shared → Prop
  | 0, i, its, s, e, s' => e = .ret (.ok (.ret .none)) ∧ its[i]? = none ∧ Two it env.locals s s'
  | n + 1, i, its, s, e, s' => (e = .ret (.ok (.ret .none)) ∧ its[i]? = none ∧ Two it env.locals s s') ∨
    ∃ v k c fs, Slp e v k c fs ∧ its[i]? = some v ∧ TailAt env it l (i + 1) s'.heap ∧ Two it env.locals s s' ∧ SleepsOf M A env it l (TailF M A env it l n (i + 1)) n (i + 1) k c fs
abbrev Sleeps (M : Model) (A : Around) (env : Env) (it l : Addr) (n i : Nat) := SleepsOf M A env it l (TailF M A env it l n i) n i
theorem TailF.done {M : Model} {A : Around} {env : Env} {it l : Addr} {n i : Nat} {its : Array Value} {s s' : Shared} (h1 : its[i]? = none) (h2 : Two it env.locals s s') : TailF M A env it l n i its s (.ret (.ok (.ret .none))) s' := by
  cases n with
  | zero => exact ⟨rfl, h1, h2⟩
  | succ n => exact .inl ⟨rfl, h1, h2⟩
end
end Px
namespace Px
open PySem PySem.Spec PyProof.Rows L2
/-- no exception -/
abbrev noE : XK := fun _ _ _ => False
/-- the context of a generator's body: no exception leaves it -/
abbrev gX (P : Program) (w : World) (K : Frg) (mg : Str → Option Value) (base : Heap) (N : List Str) (qual : Str) (scope : Scope) (f : Addr) (cd : Value) (A : Around) (outer : List Env) (s : Shared) (H : Hp) (pn : List (Addr × Obj)) : Cx :=
  { cxOf (CXI K P w) P w K mg base N qual scope f cd A outer s H noE with pn := pn, xe := fun _ _ => False }
/-- the state behind the first wake: e: it sleeps or has ended -/
structure Woke (P : Program) (w : World) (A : Around) (outer : List Env) (H : Hp) (s : Shared) (env : Env) (pins : List (Addr × Obj)) (Q : VK) (e : End) (s3 : Shared) (l it : Addr) (H3 : Hp) (its : Array Value) (xs : List V) : Prop where
  os : s3.os = s.os
  bare : AllBare s3.gens
  un : Un (frs outer) [] H H3 s.heap s3.heap
  hok : HOk P w H3 s3.heap
  pin : ∀ p ∈ pins, s3.heap.get? p.1 = some p.2 ∧ H3 p.1 = none ∧ p.1 < it
  lst : H3 l = some (.lst xs)
  q : Q (.ref l) H3
  hit : H3 it = none
  hL : H3 env.locals = none
  new : s.heap.objs.size ≤ it
  end_ : (e = .ret (.ok (.ret .none)) ∧ xs = []) ∨ ∃ v k c fs, Slp e v k c fs ∧ (∃ x, xs[0]? = some x ∧ RelV x v) ∧ TailAt env it l 1 s3.heap ∧ Sleeps (model P w) A env it l sizeLine 1 k c fs
def FirstF (P : Program) (w : World) (A : Around) (outer : List Env) (H : Hp) (s : Shared) (env : Env) (pins : List (Addr × Obj)) (Q : VK) (e : End) (s3 : Shared) : Prop := ∃ l it H3 its xs, Woke P w A outer H s env pins Q e s3 l it H3 its xs
/-- a new generator u behind the state s -/
structure GNew (P : Program) (w : World) (k : Nat) (outer : List Env) (H : Hp) (s : Shared) (sp : Sp) (vs : List V) (s1 : Shared) (a : Addr) (g : Nat) (gs : GenState) (env : Env) (oa : Obj) : Prop where
  a1 : s.heap.objs.size ≤ a
  a2 : a < s1.heap.objs.size
  ge : s1.heap.get? a = some oa
  isg : ∀ h : Heap, h.get? a = some oa → h.IsGen a g
  noc : ∀ v, oa.data ≠ .cell v
  gen : s1.gens[g]? = some gs
  os : s1.os = s.os
  bare : AllBare s1.gens
  keep : ∀ b o, s.heap.get? b = some o → s1.heap.get? b = some o
  L1 : s.heap.objs.size ≤ env.locals
  L2 : env.locals < a
  wake : ∀ (A : Around) (s2 : Shared) (H2 : Hp) (Q : VK) (pins : List (Addr × Obj)), A.handled = none → Rm k A → A.frames = some outer → (∀ b o, s1.heap.get? b = some o → s2.heap.get? b = some o) → s2.os = s.os → AllBare s2.gens → HOk P w H2 s2.heap →
    Un (frs outer) [] H H2 s.heap s2.heap → (∀ b, s.heap.get? b = none → b < s1.heap.objs.size → H2 b = none) → (∀ p ∈ pins, s2.heap.get? p.1 = some p.2 ∧ H2 p.1 = none ∧ s1.heap.objs.size ≤ p.1 ∧ ∀ v, p.2.data ≠ .cell v) → sp vs H2 Q noE →
    WkG (model P w) A (FirstF P w A outer H s env ((a, oa) :: pins) Q) gs s2
/-- the generator def at f -/
def GnS (P : Program) (w : World) (K : Frg) (mg : Str → Option Value) (base : Heap) (k : Nat) (f : Addr) (n : Nat) (sp : Sp) : Prop :=
  ∀ (A : Around) (outer : List Env) (s : Shared) (H : Hp) (us : List Value) (vs : List V), A.handled = none → Rm k A → Env0 P w K mg base A outer s H → us.length = n → Vals vs us →
    codeAny (model P w) A (.call (.ref f) ⟨us, []⟩) (fun r s1 => ∃ a g gs env oa, r = .ok (.ret (.ref a)) ∧ GNew P w k outer H s sp vs s1 a g gs env oa) s
end Px
namespace Px
open PySem PySem.Spec PyProof.Rows L2
section
variable {X : Cx} {pins : List (Addr × Obj)} {σ : L2.St} {H : Hp} {s : Shared}
/-- what is wanted of an exception does not hang on who sleeps -/
def XeK (X : Cx) : Prop := ∀ (S : Gk.Sl) (e : Value) (s : Shared), Gk.Good S s → (∀ i o, S i = some o → o.bare = true) → X.xe e s → X.xe e (Gk.fill S s)
theorem xek_cx {cm : Bool} {P : Program} {w : World} {K : Frg} {mg : Str → Option Value} {base : Heap} {N : List Str} {qual : Str} {scope : Scope} {f : Addr} {cd : Value} {A : Around} {outer : List Env} {s : Shared} {H : Hp} {E : XK} {pn : List (Addr × Obj)} :
    XeK { cxOf (CXI K P w) P w K mg base N qual scope f cd A outer s H E with calm := cm, pn := pn } := fun S e s1 G hS h => by
  have cx : ∀ e' s2, Gk.Fl S (CXI K P w outer H s E e') s2 → CXI K P w outer H s E e' s2 := fun e' s2 ⟨s3, G3, e3, a, B, H', cls, d, h1, h2, h3, h4, h5, h6, h7, h8⟩ => by
    subst e3
    exact ⟨a, B, H', cls, d, h1, h2, h3, h4, h5, h6, Gk.bare_fill h7 hS, h8⟩
  exact wpAny_mono (Gk.wpAny_fill G h) (fun _ s2 z => cx _ s2 z) fun e' s2 z => cx e' s2 z
/-- an expression whose value is a new generator -/
structure PGn (X : Cx) (k n : Nat) (m : Bool) (e : Expr) (ga : TA) (sp : Sp) : Prop where
  run : ∀ (pins : List (Addr × Obj)) (s : Shared) (σ : L2.St) (H : Hp) (R : List V → Hp → Prop), Inv X pins σ H s → ga σ H (fun vs H1 => vs.length = n ∧ (m = true ∧ R vs H1)) → wpAny (model X.prog X.w) X.A (eval e X.env)
    (fun u s1 => ∃ vs H1 sc a g gs env oa, u = .ref a ∧ Inv X pins σ H1 sc ∧ R vs H1 ∧ GNew X.prog X.w k X.stack H1 sc sp vs s1 a g gs env oa ∧ Gk.NF sc s1) X.xe s
end
/-- asleep ahead of item i -/
structure Asleep (X : Cx) (pins : List (Addr × Obj)) (env : Env) (oa : Obj) (a it l : Addr) (g i : Nat) (H : Hp) (s : Shared) : Prop where
  ge : s.heap.get? a = some oa
  tail : TailAt env it l i s.heap
  gen : ∃ k lv c p fs m, s.gens[g]? = some (.suspended k lv c p fs false) ∧ Sleeps (model X.prog X.w) X.A.in1 env it l m i k c fs ∧ m + i = sizeLine + 1
  fa : FpOk X pins H a
  fi : FpOk X pins H it
  fL : FpOk X pins H env.locals
  ne : a ≠ it ∧ a ≠ env.locals
section
variable {X : Cx} {pins : List (Addr × Obj)} {σ : L2.St} {H : Hp} {s : Shared}
theorem fpAt {b : Addr} {H' : Hp} (h : FpOk X pins H b) (n : H' b = none) : FpOk X pins H' b := ⟨n, h.2⟩
theorem Asleep.tnc {env : Env} {oa : Obj} {a it l : Addr} {g i : Nat} (z : Asleep X pins env oa a it l g i H s) (hoa : ∀ v, oa.data ≠ .cell v) : ∀ b ∈ [a, it, env.locals], ∃ o, s.heap.get? b = some o ∧ ∀ v, o.data ≠ .cell v := fun b hb => by
  simp only [List.mem_cons, List.not_mem_nil, or_false] at hb
  rcases hb with rfl | rfl | rfl
  · exact ⟨oa, z.ge, hoa⟩
  · obtain ⟨o, e, _, d⟩ := z.tail.iter
    exact ⟨o, e, fun v q => by rw [d] at q; cases q⟩
  · obtain ⟨m, o, es, ep, e, d, _⟩ := z.tail.ns
    exact ⟨o, e, fun v q => by rw [d] at q; cases q⟩
theorem Asleep.fp {env : Env} {oa : Obj} {a it l : Addr} {g i : Nat} (z : Asleep X pins env oa a it l g i H s) : ∀ b ∈ [a, it, env.locals], FpOk X pins H b := fun b hb => by
  simp only [List.mem_cons, List.not_mem_nil, or_false] at hb
  rcases hb with rfl | rfl | rfl
  · exact z.fa
  · exact z.fi
  · exact z.fL
/-- the consumer ran on: the sleeper sleeps -/
theorem Asleep.keep {env : Env} {oa : Obj} {a it l : Addr} {g i : Nat} {σ' : L2.St} {H' : Hp} {s' : Shared} (z : Asleep X pins env oa a it l g i H s) (hoa : ∀ v, oa.data ≠ .cell v) (I : Inv X (pins ++ pinsAt [a, it, env.locals] s.heap) σ' H' s')
    (hg : ∀ k l c p fs cl, s.gens[g]? = some (GenState.suspended k l c p fs cl) → s'.gens[g]? = some (GenState.suspended k l c p fs cl)) : Asleep X pins env oa a it l g i H' s' := by
  have pin : ∀ b ∈ [a, it, env.locals], ∀ o, s.heap.get? b = some o → s'.heap.get? b = some o ∧ H' b = none := fun b hb o e => by
    have q := I.pin (b, o) (List.mem_append_right _ (List.mem_append_right _ (mem_pinsAt hb e)))
    exact ⟨q.1, q.2.1⟩
  have nn : ∀ b ∈ [a, it, env.locals], H' b = none := fun b hb => by
    obtain ⟨o, e, _⟩ := z.tnc hoa b hb
    exact (pin b hb o e).2
  obtain ⟨k, lv, c, p, fs, m, h1, h2, h3⟩ := z.gen
  exact ⟨(pin a (by simp) _ z.ge).1, z.tail.at_ (fun o e => (pin it (by simp) o e).1) (fun o e => (pin env.locals (by simp) o e).1), ⟨k, lv, c, p, fs, m, hg _ _ _ _ _ _ h1, h2, h3⟩, fpAt z.fa (nn a (by simp)), fpAt z.fi (nn it (by simp)), fpAt z.fL (nn env.locals (by simp)), z.ne⟩
/-- woken again: the next item, or the end -/
theorem Asleep.next {env : Env} {oa : Obj} {a it l : Addr} {g i : Nat} {xs : List V} {E : Value → Shared → Prop} {Q : Option Value → Shared → Prop} (z : Asleep X pins env oa a it l g i H s) (isg : ∀ h : Heap, h.get? a = some oa → h.IsGen a g) (hc : X.calm = true) (room : Rm 0 X.A) (I : Inv X pins σ H s) (hl : SqL X.K H l xs)
    (hY : ∀ x v s', xs[i]? = some x → RelV x v → Inv X pins σ H s' → Asleep X pins env oa a it l g (i + 1) H s' → Q (some v) s') (hN : ∀ s', xs.length ≤ i → Inv X pins σ H s' → Q none s') : wpAny (model X.prog X.w) X.A (pyNext (.ref a)) Q E s := by
  obtain ⟨k, lv, c, p, fs, m, h1, h2, h3⟩ := z.gen
  obtain ⟨its, rv, ⟨ol, nn, el, ec, ed, ed2⟩, hz⟩ := I.list hl
  have isl : s.heap.IsList l its.toArray := ⟨ol, el, by first | exact ec | exact ed, nn, by first | exact ed2 | exact ed⟩
  have hil : its.toArray.size = xs.length := by rw [List.size_toArray, rv.length]
  have hgs : g < s.gens.size := (Array.getElem?_eq_some_iff.mp h1).1
  have nit : ∀ s' : Shared, s'.os = s.os → (∀ b o, b ≠ it → b ≠ env.locals → s.heap.get? b = some o → s'.heap.get? b = some o) → AllBare s'.gens → Inv X pins σ H s' := fun s' ho hk hb => by
    have J := I.turnedL (t' := s'.toks) (h' := s'.heap) (ch := [it, env.locals]) (fun b o hb e => hk b o (fun q => hb (by simp [q])) (fun q => hb (by simp [q])) e) (fun b hb => by
      simp only [List.mem_cons, List.not_mem_nil, or_false] at hb
      rcases hb with rfl | rfl
      · exact z.fi
      · exact z.fL)
    exact ⟨J.ok, ho.trans I.os, hb, J.base, J.loc, J.cell, J.free, J.freeC, J.pin, J.hok, J.len⟩
  have bareS : ∀ s1 : Shared, s1.gens = (s.setGen g .running).gens → ∀ x : GenState, x.bare = true → AllBare (s1.setGen g x).gens := fun s1 e x hx => by
    refine allBare_setGen ?_ hx
    rw [e]
    exact allBare_setGen I.bare rfl
  refine next_wk (g := g) (gs := .suspended k lv c p fs false) (I.ok.hd hc) I.nolimit (by have := room.dp; omega) (isg _ z.ge) h1 (h2 (s.setGen g .running) its.toArray z.tail isl (by rw [hil]; omega)) fun e s1 tf sz => ?_
  have done : e = .ret (.ok (.ret .none)) → its.toArray[i]? = none → Two it env.locals (s.setGen g .running) s1 → (∃ v k c fs l q, e = .susp v false l k c q fs ∧ fs.any Frame.guarded = false ∧ Q (some v) (s1.setGen g (.suspended k l c q fs false))) ∨
      ((e = .ret (.ok (.ret .none)) ∨ e = .ret (.ok .next)) ∧ ∀ h', (∀ b o, s1.heap.get? b = some o → h'.get? b = some o) → Q none { s1.setGen g .finished with heap := h' }) := fun e1 e2 two => by
    refine .inr ⟨.inl e1, fun h' kp => hN _ ?_ ?_⟩
    · have := Array.getElem?_eq_none_iff.mp e2
      omega
    · exact nit _ two.1 (fun b o n1 n2 e => kp b o (two.2.2 b o n1 n2 e)) (bareS s1 two.2.1 _ rfl)
  cases m with
  | zero => exact done tf.1 tf.2.1 tf.2.2
  | succ m =>
    rcases tf with ⟨e1, e2, two⟩ | ⟨v, k', c', fs', ⟨lv', q, e1, gd⟩, e2, t2, two, sl⟩
    · exact done e1 e2 two
    · have e2' : its[i]? = some v := by simpa using e2
      have hi : i < its.length := (List.getElem?_eq_some_iff.mp e2').1
      have hx : xs[i]? = some xs[i] := List.getElem?_eq_getElem (by rw [rv.length]; exact hi)
      obtain ⟨u, hu, ru⟩ := rv.get hx
      rw [e2'] at hu
      cases hu
      refine .inl ⟨v, k', c', fs', lv', q, e1, gd, hY _ v _ hx ru (nit _ two.1 two.2.2 (bareS s1 two.2.1 _ rfl)) ⟨?_, t2, ⟨k', lv', c', q, fs', m, setGen_at (by omega), sl, by omega⟩, z.fa, z.fi, z.fL, z.ne⟩⟩
      exact two.2.2 a oa z.ne.1 z.ne.2 z.ge
end
end Px
namespace Px
open PySem PySem.Spec PyProof.Rows L2
/-- attributes of the class are read as the builtin way reads them -/
theorem cread_ok {K : Frg} {C : Addr} (h : PySem.W.readsIn K C (.type "type") = true) : ClX.CRead K C (.type "type") := by
  refine ⟨h, ?_⟩
  unfold PySem.W.readsIn at h
  obtain ⟨h, _⟩ := He.ba h
  obtain ⟨h, _⟩ := He.ba h
  obtain ⟨h, h3⟩ := He.ba h
  obtain ⟨_, h2⟩ := He.ba h
  unfold PySem.W.specialIn
  rw [beq_iff_eq.mp h2, Option.bind_some]
  exact beq_iff_eq.mp h3
/-- a class is read as type.__getattribute__ reads it; its classmethod m -/
theorem cmB_ok {K : Frg} {c : Cl} {m : Str} (h : cmB K c m = true) : ClX.CRead K (ca K c) (.type "type") ∧ ClX.CMet K (ca K c) (.type "type") m (cmRec K (ca K c) m) (cmFn K (ca K c) m) := by
  obtain ⟨h1, h⟩ := He.ba h
  obtain ⟨h2, h3⟩ := He.ba h
  exact ⟨cread_ok h1, He5.cmet_of h2 h3⟩
/-- C.NAME is an int -/
theorem isVal_ok {i : Int} {r : Option PySem.W.CFound} (h : isVal i r = true) : ∃ t, r = some (.val (.int i t)) := by
  unfold isVal at h
  split at h
  · split at h
    · rename_i j t
      have e := of_decide_eq_true h
      exact ⟨t, by rw [e]⟩
    · cases h
  · cases h
theorem cvB_ok {K : Frg} {c : Cl} {f : Str} {i : Int} (h : cvB K c f i = true) : ClX.CRead K (ca K c) (.type "type") ∧ ∃ u, ClX.CVal K (ca K c) (.type "type") f (.int i) u := by
  obtain ⟨h1, h2⟩ := He.ba h
  obtain ⟨t, e⟩ := isVal_ok h2
  exact ⟨cread_ok h1, _, ⟨e, ⟨t, rfl⟩⟩⟩
theorem law_end {l : PySem.W.OpenLaw} {q : Program} {loose : List Str} {XP : (Str → Option Value) → Heap → Prop} {d : DefRec} {t : Want} {k : Nat} {x : Str} {sp : Frg → Sp} (hn : l.most = some 63) (hdf : d.params.defaults = []) (hr : RoomG k callerA)
    (Fn : ∀ (w : World) (mg : Str → Option Value) (fa : Addr) (h : Heap) (K : Frg), K.In h → Says t K → h.Ns mainGlobals mg → mg d.name = some (.ref fa) → ∃ (fd : FuncData), (∀ (s : Shared) (u : Value), BindsTo s fd ⟨[u], []⟩ [(x, u)]) ∧ ∀ base : Heap, K.In base → base.Ns mainGlobals mg → (∀ p ∈ csK K, LamX.TabB base mg p.1 p.2) → FnOkG l.prog w K mg base (CXI K l.prog w) k fa fd [x] (sp K))
    (hsp : ∀ (K : Frg) (H : Hp) (a : Addr) (ns : List Int), ns.length ≤ 63 → (∀ z ∈ ns, Builtin.Int.intBits z ≤ 1048576) → (∀ p ∈ Tbs K, H p.1 = some (.tbl #[])) → SqL K H a (ns.map V.int) → sp K [.ref a] H (fun v _ => v = .bl true) fun _ _ _ => False) :
    PySem.W.WalkO q loose XP t.hook.says l.row.toRowW d [] (fun f vs => PySem.call f vs) := by
  refine Att.attach_callB hn hdf fun w s₀ s₁ mg mb fa o pm cd doc a vs ns G Y ho hd hcd hmg hobj hints hlen hbits hg => ?_
  obtain ⟨K, KX, cs, T⟩ := Y
  obtain ⟨fd, hb, hF⟩ := Fn w mg fa _ K KX cs G.T.g hmg
  refine law_callTsG (cs := csK K) KX G.T.g G.T.b G.T.builtins G.T.nolimit hg (fun p hp => (T p hp).1) (fun p hp => ?_) (fun p hp => codeB_ok KX (T p hp).2) G.T.bmain hobj hints (Nat.le_trans hlen (by decide)) hr hF hb (fun H hT hS => hsp K H a ns hlen hbits (fun p hp => ?_) hS) fun H e s' z => ?_
  · obtain ⟨nm, _, e⟩ := List.mem_filterMap.mp hp
    exact tabP_out e
  · obtain ⟨c, hc⟩ := Tbs_cs hp
    exact hT _ hc
  · obtain ⟨_, _, _, _, _, _, _, _, _, _, _, _, zz⟩ := z
    exact zz.elim
end Px
namespace Px
open PySem PySem.Spec PyProof.Rows L2
/-- the step that it is, in the plain store -/
theorem Ok.lam {K : Frg} {B : BX} {μ : Mu} {G H : Hp} (o : Ok K B μ G H) {P c' : Addr} {q : Str} {ps more : Array Value} (hu : ∀ p ∈ Tbs K, p.1 = P → p.2 = q) (gP : G P = none) (hP : H P = some (.tbl ps)) (n : H c' = none) (ht : TriplesOk (ps ++ more).toList)
    (ha : ∀ (p' : Pos) (cv : Value), codeAmong p' (ps ++ more).toList = some cv → codeAmong p' ps.toList = some cv ∨ cv = .ref c') : Go K B μ G H μ (upd G c' (LamX.CodeO c' q)) (upd (upd H P (.tbl (ps ++ more))) c' (LamX.CodeO c' q)) := by
  have nPc : P ≠ c' := ne_of_none hP n
  have gc : G c' = none := o.sub.free n
  have at_ : ∀ b u, H b = some u → NT u → upd (upd H P (.tbl (ps ++ more))) c' (LamX.CodeO c' q) b = some u := fun b u e nt => by
    rw [upd_ne (ne_of_none e n), upd_ne fun z => by rw [z, hP] at e; cases e; exact nt ps rfl]
    exact e
  refine ⟨⟨fun a x e => ?_, fun a c e => ?_, fun b c e => ?_, fun p hp => ?_⟩, ⟨.upd gc, fun a e => ?_, fun a x e _ _ nt => at_ a x e nt, fun a x e _ => ?_, fun a e => .inl e⟩⟩
  · by_cases z : a = c'
    · subst z; rw [upd_same] at e ⊢; exact e
    · rw [upd_ne z] at e
      have e1 := o.sub a x e
      by_cases z2 : a = P
      · subst z2
        rw [gP] at e
        cases e
      · rw [upd_ne z, upd_ne z2]; exact e1
  · obtain ⟨g1, nb, v, e1, r⟩ := o.cell a c e
    exact ⟨by rw [upd_ne (ne_of_none e1 n)]; exact g1, nb, v, at_ a v e1 r.nt, r.mono (.upd gc)⟩
  · obtain ⟨bt, gb, gcc⟩ := o.box b c e
    obtain ⟨nbc, ns, p, st, e1, e2, r⟩ := bt
    exact ⟨⟨nbc, ns, p, st, at_ _ _ e1 (by intro _ e; cases e), at_ _ _ e2 (by intro _ e; cases e), r⟩, by rw [upd_ne (ne_of_none e1 n)]; exact gb, by rw [upd_ne (ne_of_none e2 n)]; exact gcc⟩
  · obtain ⟨g, ps', a1, a2, a3⟩ := o.tab p hp
    have np : p.1 ≠ c' := ne_of_none a1 n
    refine ⟨by rw [upd_ne np]; exact g, ?_⟩
    by_cases hb : p.1 = P
    · rw [hb] at a1
      rw [hP] at a1
      cases a1
      refine ⟨ps ++ more, by rw [hb, upd_ne nPc, upd_same], ht, fun p' cv hcv => ?_⟩
      rcases ha p' cv hcv with z | z
      · obtain ⟨c0, e1, e2⟩ := a3 p' cv z
        exact ⟨c0, e1, by rw [upd_ne (ne_of_none e2 gc)]; exact e2⟩
      · exact ⟨c', z, by rw [upd_same, hu p hp hb]⟩
    · refine ⟨ps', by rw [upd_ne np, upd_ne hb]; exact a1, a2, fun p' cv hcv => ?_⟩
      obtain ⟨c0, e1, e2⟩ := a3 p' cv hcv
      exact ⟨c0, e1, by rw [upd_ne (ne_of_none e2 gc)]; exact e2⟩
  · by_cases z : a = c'
    · subst z; exact n
    · rw [upd_ne z] at e
      by_cases z2 : a = P
      · subst z2; rw [upd_same] at e; cases e
      · rw [upd_ne z2] at e; exact e
  · by_cases z : a = c'
    · subst z; exact .inr (.inl n)
    · rw [upd_ne z] at e; exact .inl e
/-- the def's own table is known -/
def LamC (X : Cx) : Prop := ∃ c P, X.env.code = .ref c ∧ LamX.TabB X.base X.mg c P ∧ (P, X.env.qual ++ "<lambda>") ∈ Tbs X.K ∧ ∀ p ∈ Tbs X.K, p.1 = P → p.2 = X.env.qual ++ "<lambda>"
end Px
namespace Px
open PySem PySem.Spec PyProof.Rows L2
/-- the def at f returns (len(x), x) -/
def KeyF (K : Frg) (f : Addr) : Prop := ∃ (oc : Value) (od : Option Addr) (nm qual : Str) (params : Arguments) (scope : Scope) (dV kV doc pm : Value) (an : Option Addr) (cdv ct : Value) (osl : Array (Option Value)) (x : Str) (p1 p2 p3 p4 p5 p6 : Pos) (kk : Nat) (fd : FuncData),
  fd = PySem.W.fnOf nm qual params [.Return (some (.Tuple [.Call (.Name "len" p1) [.Name x p2] [] p3, .Name x p4] kk p5)) p6] scope dV kV doc pm an cdv ct ∧ K.lookup f = some ⟨oc, od, .func fd, osl⟩ ∧ PySem.W.codeIn K cdv qual = true ∧ (∀ v, bindArgs fd ⟨[v], []⟩ = pure [(x, v)]) ∧
  scope.isCoroutine = false ∧ scope.isGenerator = false ∧ scope.kind = .function ∧ scope.names.lookup x = some .local ∧ scope.names.lookup ("len" : Str) = some NameKind.globalImplicit ∧ (∀ y ∈ scope.names, y.2 ≠ .cell) ∧ (x == ("__debug__" : Str)) = false
end Px
namespace Px
open PySem PySem.Spec PyProof.Rows L2
def genP (p : PV) (q : List PV → Prop) : Prop := match p with
  | .lst xs => q xs
  | _ => False
/-- the items of a generator: its promise tells them as a list; nothing may be raised -/
def iGen (m : Bool) (n : Nat) (ct : Ct) (ds : DA) : DI := fun ρ μ q x => ds ρ μ (fun ps μ1 => ps.length = n ∧ (m = true ∧ ct ps μ1 (fun p μ2 => genP p fun xs => q xs μ2) (fun _ _ => False))) x
/-- more room asked -/
theorem GnS.up {P : Program} {w : World} {K : Frg} {mg : Str → Option Value} {base : Heap} {k j n : Nat} {f : Addr} {sp : Sp} (F : GnS P w K mg base k f n sp) (h : k ≤ j) : GnS P w K mg base j f n sp := fun A outer s H us vs hA hr e0 hl r =>
  codeAny_mono (F A outer s H us vs hA (hr.mono h) e0 hl r) fun rr s1 ⟨a, g, gs, env, oa, er, G⟩ =>
    ⟨a, g, gs, env, oa, er, ⟨G.a1, G.a2, G.ge, G.isg, G.noc, G.gen, G.os, G.bare, G.keep, G.L1, G.L2, fun A s2 H2 Q pins hA hr hfr kp ho hb hok un yg hp hs => G.wake A s2 H2 Q pins hA (hr.mono h) hfr kp ho hb hok un yg hp hs⟩⟩
end Px
namespace Px
open PySem PySem.Spec PyProof.Rows L2
end Px
namespace Px
open PySem PySem.Spec PyProof.Rows L2
/-- the state as it was below L -/
def cutHs (L : Addr) (s : Shared) : Shared := { s with heap := ⟨s.heap.objs.extract 0 L, s.heap.life⟩ }
theorem cut_size {L : Addr} {s : Shared} (h : L ≤ s.heap.objs.size) : (cutHs L s).heap.objs.size = L := by
  show (s.heap.objs.extract 0 L).size = L
  rw [Array.size_extract]
  exact Nat.min_eq_left h
theorem ext_get {α : Type} (a : Array α) (L b : Nat) : (a.extract 0 L)[b]? = if b < L then a[b]? else none := by
  rw [Array.getElem?_extract]
  by_cases h : b < L
  · by_cases h2 : b < a.size
    · rw [if_pos (by omega), if_pos h, Nat.zero_add]
    · rw [if_neg (by omega), if_pos h, Array.getElem?_eq_none (by omega)]
  · rw [if_neg (by omega), if_neg h]
theorem cut_get (L b : Addr) (s : Shared) : (cutHs L s).heap.get? b = if b < L then s.heap.get? b else none := by
  have e : (s.heap.objs.extract 0 L)[b]? = if b < L then s.heap.objs[b]? else none := ext_get _ _ _
  show Heap.get? ⟨s.heap.objs.extract 0 L, s.heap.life⟩ b = _
  unfold Heap.get?
  show (match (s.heap.objs.extract 0 L)[b]? with | some ⟨_, _, .freed, _⟩ => none | o => o) = _
  rw [e]
  by_cases h : b < L
  · rw [if_pos h, if_pos h]; rfl
  · rw [if_neg h, if_neg h]
theorem cut_some {L b : Addr} {s : Shared} {o : Obj} (e : (cutHs L s).heap.get? b = some o) : b < L ∧ s.heap.get? b = some o := by
  rw [cut_get] at e
  split at e
  · exact ⟨‹_›, e⟩
  · cases e
theorem cut_of {L b : Addr} {s : Shared} {o : Obj} (h : b < L) (e : s.heap.get? b = some o) : (cutHs L s).heap.get? b = some o := by
  rw [cut_get, if_pos h]; exact e
/-- how a generator runs: its def, its frame at L, what is around a wake -/
structure GP where
  P : Program
  w : World
  K : Frg
  mg : Str → Option Value
  base : Heap
  N : List Str
  qual : Str
  scope : Scope
  f : Addr
  cd : Value
  A : Around
  outer : List Env
  L : Addr
  B : BX
  ks : List Addr
/-- the state at a wake; pn: what else stands above L and is not tracked -/
structure WD where
  s : Shared
  H : Hp
  pn : List (Addr × Obj)
  μ : Mu
  G : Hp
abbrev GP.env (Γ : GP) : Env := envOfC Γ.qual Γ.scope Γ.L Γ.f Γ.cd
def GP.X (Γ : GP) (d : WD) : Cx :=
  { gX Γ.P Γ.w Γ.K Γ.mg Γ.base Γ.N Γ.qual Γ.scope Γ.f Γ.cd Γ.A Γ.outer (cutHs Γ.L d.s) d.H d.pn with A := Γ.A.deeper Γ.env, env := Γ.env, stack := Γ.env :: Γ.outer }
/-- within a wake: what is so -/
structure GnA (Γ : GP) (d : WD) (its : List (Addr × Obj)) (hist : Hp) (ρ : En) (μ : Mu) (σ : L2.St) (G H : Hp) (s : Shared) : Prop where
  big : Γ.L ≤ d.s.heap.objs.size
  inv : Inv (Γ.X d) its σ H s
  rel : Rel Γ.K Γ.B ρ μ σ G H
  go : Go Γ.K Γ.B d.μ d.G d.H μ G H
  sep : ∀ p ∈ d.pn, ∀ q ∈ its, p.1 ≠ q.1
  past : Sub hist G
  lo : ∀ q ∈ its, Γ.L ≤ q.1
theorem Rel.reo {K : Frg} {B : BX} {ρ : En} {μ μ1 : Mu} {σ : L2.St} {G H G1 H1 : Hp} (R : Rel K B ρ μ σ G H) (o : Ok K B μ1 G1 H1) (s : Sub G G1) : Rel K B ρ μ1 σ G1 H1 := ⟨o, R.len, fun i x e => by obtain ⟨v, e1, e2⟩ := R.at_ i x e; exact ⟨v, e1, e2.mono s⟩⟩
/-- the state d2 fits a generator that fell asleep in the state s' -/
structure Ready (Γ : GP) (its : List (Addr × Obj)) (μ : Mu) (G H : Hp) (s' : Shared) (d : WD) : Prop where
  big : Γ.L ≤ d.s.heap.objs.size
  bare : AllBare d.s.gens
  hok : HOk Γ.P Γ.w d.H d.s.heap
  bs : ∀ b o, Γ.base.get? b = some o → d.s.heap.get? b = some o ∧ d.H b = none
  bsz : Γ.base.objs.size ≤ Γ.L
  funs : (cutHs Γ.L d.s).heap.FunFrames Γ.base Γ.outer
  frf : ∀ b ∈ frs Γ.outer, d.H b = none
  own : ∀ o, s'.heap.get? Γ.L = some o → d.s.heap.get? Γ.L = some o
  ownF : d.H Γ.L = none
  pin : ∀ p ∈ d.pn ++ its, d.s.heap.get? p.1 = some p.2 ∧ d.H p.1 = none ∧ p.1 ≠ Γ.L ∧ p.1 ∉ frs Γ.outer ∧ ∀ v, p.2.data ≠ .cell v
  go : Ok Γ.K Γ.B d.μ d.G d.H ∧ Sub G d.G
  fit : ∀ a ∈ Γ.ks, d.μ a = μ a
  sep : ∀ p ∈ d.pn, ∀ q ∈ its, p.1 ≠ q.1
/-- what a wake does, while ys are to come -/
def TF (Γ : GP) : List PV → WD → End → Shared → Prop
  | [], d, e, s' => e = .ret (.ok (.ret .none)) ∧ ∃ hist ρ σ G H, GnA Γ d [] hist ρ d.μ σ G H s'
  | y :: r, d, e, s' => ∃ v k c fs hist ρ σ G H its u, Slp e v k c fs ∧ GnA Γ d its hist ρ d.μ σ G H s' ∧ RelV u v ∧ Rep Γ.K Γ.B G y u ∧
      ∀ d2, Ready Γ its d.μ G H s' d2 → Wk (model Γ.P Γ.w) Γ.A (TF Γ r d2) c (k (.send .none)) fs d2.s
/-- woken: all is as it was -/
theorem Ready.at_ {Γ : GP} {d d2 : WD} {its : List (Addr × Obj)} {hist : Hp} {ρ : En} {μ : Mu} {σ : L2.St} {G H : Hp} {s' : Shared} (a : GnA Γ d its hist ρ μ σ G H s') (nc : Γ.env.cells = []) (r : Ready Γ its μ G H s' d2) : GnA Γ d2 its hist ρ d2.μ σ d2.G d2.H d2.s := by
  have I := a.inv
  have ok := I.ok
  have nocell : ∀ x c, Γ.env.cells.lookup x = some c → False := fun x c e => by rw [nc] at e; cases e
  have gX_env : (Γ.X d).env = Γ.env := rfl
  have sz2 : (Γ.X d2).s_0.heap.objs.size = Γ.L := cut_size r.big
  refine ⟨r.big, ⟨?_, rfl, r.bare, ?_, ?_, fun x c e => (nocell x c e).elim, r.ownF, fun x c e => (nocell x c e).elim, r.pin, r.hok, I.len⟩, a.rel.reo r.go.1 r.go.2, .refl r.go.1, r.sep, a.past.trans r.go.2, a.lo⟩
  · refine ⟨ok.mod, ok.kind, ok.glob, ok.blt, ?_, ok.inj, ok.has, fun x c _ e => (nocell x c e).elim, ok.hd, ok.frames, ok.stk, fun b z => absurd z (by show b ∉ ([] : List Addr); simp), fun b o e => ?_, ?_, fun b o _ => by show b ∉ ([] : List Addr); simp, fun b z => absurd z (by show b ∉ ([] : List Addr); simp), r.funs, r.frf⟩
    · show (Γ.X d2).s_0.heap.objs.size ≤ Γ.L
      rw [sz2]; exact Nat.le_refl _
    · obtain ⟨h1, h2⟩ := r.bs b o e
      exact ⟨cut_of (Nat.lt_of_lt_of_le (Heap.lt_size e) r.bsz) h1, h2⟩
    · rw [sz2]; exact r.bsz
  · exact Un.kept fun b o e => (cut_some e).2
  · obtain ⟨m, ⟨o, es, ep, e, q⟩, hl⟩ := I.loc
    refine ⟨m, ⟨o, es, ep, r.own _ e, q⟩, fun i x v h1 h2 h3 => ?_⟩
    obtain ⟨u, ru, lk⟩ := hl i x v h1 h2 h3
    refine ⟨u, ru, ?_⟩
    rcases lk with z | ⟨_, c, z, _⟩
    · exact .inl z
    · exact (nocell x c z).elim
/-- behind a statement: what is still to come, the store at the wake, names, store -/
structure GE where
  nx : List PV → Mu → En → Mu → Prop
  bk : List PV → Mu → En → Mu → Prop := fun _ _ _ _ => False
  ct : List PV → Mu → En → Mu → Prop := fun _ _ _ _ => False
abbrev DG := GE → List PV → Mu → En → Mu → Prop
structure GCd (Γ : GP) (c : Code) (fs : List Frame) (gd : Bool → Bool) : Prop where
  over : Γ.A.over c fs = Γ.A.deeper Γ.env
  split : splitAtGen fs = none
  guard : fs.any Frame.guarded = false
  gd : gd false = false
structure GKt (Γ : GP) (its : List (Addr × Obj)) (hist : Hp) (c : Code) (fs : List Frame) (J : Flow → Sem PySem.Fin) (E : GE) : Prop where
  nx : ∀ ys d ρ μ σ G H s, GnA Γ d its hist ρ μ σ G H s → E.nx ys d.μ ρ μ → Wk (model Γ.P Γ.w) Γ.A (TF Γ ys d) c (J .next) fs s
  bk : ∀ ys d ρ μ σ G H s, GnA Γ d its hist ρ μ σ G H s → E.bk ys d.μ ρ μ → Wk (model Γ.P Γ.w) Γ.A (TF Γ ys d) c (J .brk) fs s
  ct : ∀ ys d ρ μ σ G H s, GnA Γ d its hist ρ μ σ G H s → E.ct ys d.μ ρ μ → Wk (model Γ.P Γ.w) Γ.A (TF Γ ys d) c (J .cont) fs s
structure GnJ (Γ : GP) (st : List Stmt) (dg : DG) : Prop where
  run : ∀ (its : List (Addr × Obj)) (hist : Hp) (c : Code) (fs : List Frame) (J : Flow → Sem PySem.Fin) (Jx : Value → Sem PySem.Fin) (gd : Bool → Bool) (lv : List Value → List Value) (E : GE), GCd Γ c fs gd → GKt Γ its hist c fs J E →
    ∀ ys d ρ μ σ G H s, GnA Γ d its hist ρ μ σ G H s → dg E ys d.μ ρ μ → Wk (model Γ.P Γ.w) Γ.A (TF Γ ys d) c ((execs st Γ.env).wrap J Jx gd lv) fs s
section
variable {Γ : GP} {st : Stmt} {rest : List Stmt}
theorem GnA.step {its : List (Addr × Obj)} {hist : Hp} {d : WD} {ρ ρ' : En} {μ μ' : Mu} {σ σ' : L2.St} {G H G' H' : Hp} {s s' : Shared} (a : GnA Γ d its hist ρ μ σ G H s) (I : Inv (Γ.X d) its σ' H' s') (R : Rel Γ.K Γ.B ρ' μ' σ' G' H') (g : Go Γ.K Γ.B μ G H μ' G' H') : GnA Γ d its hist ρ' μ' σ' G' H' s' :=
  ⟨a.big, I, R, a.go.trans g, a.sep, a.past.trans g.gx, a.lo⟩
end
end Px
namespace Px
open PySem PySem.Spec PyProof.Rows L2
end Px
namespace Px
open PySem PySem.Spec PyProof.Rows L2
end Px
namespace Px
open PySem PySem.Spec PyProof.Rows L2
def tInt (t : TE) : TE := tCB (fun xs H Q => (∃ i, xs = [.int i] ∧ Q (.int i) H) ∨ ∃ k, xs = [.bl k] ∧ Q (.int (if k then 1 else 0)) H) (tCons t tNil)
def tLen (K : Frg) (t : TE) : TE := tCB (fun xs H Q => ∃ x n, xs = [x] ∧ LenV K x H n ∧ Q (.int n) H) (tCons t tNil)
def tAdd (a b : TE) : TE := tOp (rI0 fun i j => .int (i + j)) a b
def tMul (a b : TE) : TE := tOp (rI CMul fun i j => .int (i * j)) a b
def tMod (a b : TE) : TE := tOp (rI (fun _ j => 0 < j) fun i j => .int (i % j)) a b
def tFdv (a b : TE) : TE := tOp (rI CDivW fun i j => .int (i / j)) a b
/-- [[int(c) for c in script[:63]], 0, 1] -/
def tBox (K : Frg) : TS := tRet (tLst (tCons (tLc (iList K (L2.tSl (rSlL K) (tVar 0) tNoPart (tPart (tC (.int 63))))) (gName 1) tYes (tInt (tVar 1)) [1]) (tCons (tC (.int 0)) (tCons (tC (.int 1)) tNil))))
theorem box_run {K : Frg} {D : Ends} {H : Hp} {a : Addr} {ns : List Int} {N : List Str} (hN : N.length = 2) (hl : ns.length ≤ 63) (hs : SqL K H a (ns.map V.int))
    (h : ∀ (b c : Addr) (H' : Hp) (ms : List Int), Sub H H' → H b = none → H c = none → b ≠ c → ms.length ≤ 63 → H' b = some (.lst [.ref c, .int 0, .int 1]) → H' c = some (.lst (ms.map V.int)) → D.rt (.ref b) H') : tBox K D (L2.start N [.ref a]) H := by
  have s0 : L2.start N [.ref a] = [some (.ref a), none] := by
    unfold L2.start
    rw [hN] <;> rfl
  rw [s0]
  refine ⟨_, rfl, 63, rfl, a, _, rfl, hs, fun p hp => ⟨p, rfl, ⟨_, SqL.of upd_same⟩, fun c hc => ?_⟩⟩
  have hcl : ∃ ms : List Int, cutV (ns.map V.int) none (some 63) = ms.map V.int ∧ ms.length ≤ 63 := by
    refine ⟨(ns.drop (HT.sIx (ns.map V.int).length 0 none)).take (HT.sIx (ns.map V.int).length (ns.map V.int).length (some 63) - HT.sIx (ns.map V.int).length 0 none), ?_, ?_⟩
    · unfold cutV
      rw [List.map_take, List.map_drop]
    · rw [List.length_take, List.length_drop]; omega
  obtain ⟨ms, em, lm⟩ := hcl
  rw [em] at hc ⊢
  have np : c ≠ p := fun z => by rw [z, upd_same] at hc; cases hc
  have hc0 : H c = none := by rw [upd_ne np] at hc; exact hc
  refine lc_list (K := K) (a := p) (xs := ms.map V.int) (fun i H' => H' = upd (upd H p (.lst (ms.map V.int))) c (.lst ((ms.take i).map V.int))) (by rfl) (fun i H' _ e => ?_) (fun i x H' hx e => ?_) (fun H' e => ?_)
  · rw [e]; exact SqL.of (by rw [upd_ne np.symm]; exact upd_same)
  · rw [List.getElem?_map] at hx
    cases q : ms[i]? with
    | none => rw [q] at hx; cases hx
    | some z =>
      rw [q] at hx
      cases hx
      have hi : i < ms.length := (List.getElem?_eq_some_iff.mp q).1
      refine ⟨rfl, ?_⟩
      simp only [tYes, if_true]
      refine ⟨.int z, rfl, .inl ⟨z, rfl, (ms.take i).map V.int, ?_, ?_, ?_⟩⟩
      · rw [e]; exact upd_same
      · rw [List.length_map, List.length_take]
        exact Nat.lt_of_le_of_lt (Nat.min_le_left _ _) (Nat.lt_of_lt_of_le hi (Nat.le_trans lm (by decide)))
      · rw [e, upd_upd, List.take_add_one, q, List.map_append] <;> rfl
  · rw [List.length_map, List.take_length] at e
    refine ⟨by show 3 ≤ sizeLine; decide, fun b hb => ?_⟩
    rw [e] at hb ⊢
    have nc : b ≠ c := fun z => by rw [z, upd_same] at hb; cases hb
    have nb : b ≠ p := fun z => by rw [z, upd_ne np.symm, upd_same] at hb; cases hb
    have hb0 : H b = none := by rw [upd_ne nc, upd_ne nb] at hb; exact hb
    refine h b c _ ms (fun y o ey => ?_) hb0 hc0 nc lm upd_same ?_
    · rw [upd_ne (ne_of_none ey hb0), upd_ne (ne_of_none ey hc0), upd_ne (ne_of_none ey hp)]; exact ey
    · rw [upd_ne nc.symm, upd_same]
def tPlc (K : Frg) : TT := tTest (tOp (rI0 fun i j => V.bl (decide (i < j))) (tVar 3) (tLen K (tVar 2)))
def tCel (K : Frg) : TE := tOp (rIx K) (tVar 2) (tVar 3)
def tDrawA (K : Frg) : TS := tSeq (tAsg (tCel K) (gName 4)) (tSeq (tAsg (tFdv (tVar 4) (tVar 1)) (gSub (tVar 2) (tVar 3) rSetL)) (tRet (tMod (tInt (tVar 4)) (tVar 1))))
def tDrawB (K : Frg) : TS := tSeq (tAsg (tAdd (tVar 3) (tC (.int 1))) (gSub (tVar 0) (tC (.int 1)) rSetL))
  (tSeq (tAsg (tMod (tInt (tAdd (tAdd (tAdd (tMul (tOp (rIx K) (tVar 0) (tC (.int 2))) (tC (.int 48271))) (tMul (tMod (tInt (tVar 4)) (tC (.int 2147483629))) (tC (.int 69621)))) (tVar 3)) (tC (.int 1)))) (tC (.int 2147483647))) (gName 5))
  (tSeq (tAsg (tVar 5) (gSub (tVar 0) (tC (.int 2)) rSetL))
  (tSeq (tAsg (tMod (tInt (tAdd (tMul (tVar 5) (tVar 5)) (tMul (tVar 5) (tC (.int 16807))))) (tC (.int 998244353))) (gName 6))
  (tRet (tMod (tInt (tFdv (tVar 6) (tC (.int 5)))) (tVar 1))))))
def tDraw (K : Frg) : TS := tSeq (tAsg (tOp (rIx K) (tVar 0) (tC (.int 0))) (gName 2)) (tSeq (tAsg (tOp (rIx K) (tVar 0) (tC (.int 1))) (gName 3)) (tSeq (tIfS (tTest (tOp rEq (tLen K (tVar 2)) (tC (.int 0)))) (tRet (tC (.int 0))) tNext)
  (tSeq (tIfS (tAnd (tPlc K) (tTest (tOp (rI0 fun i j => V.bl (decide (j ≤ i))) (tCel K) (tOp (rI CPow fun i j => .int (i ^ j.toNat)) (tC (.int 10)) (tC (.int 18)))))) (tDrawA K) tNext)
  (tSeq (tAsg (tC (.int 0)) (gName 4)) (tSeq (tIfS (tPlc K) (tAsg (tCel K) (gName 4)) tNext) (tDrawB K))))))
structure Drw (n : Int) (A : Prop) : Prop where
  pos : 0 < n
  sm : n.natAbs < 2 ^ 9000
  go : A
theorem draw_of {n : Int} {A : Prop} (h0 : 0 < n) (h1 : n < 100000) (h : A) : Drw n A := by
  exact ⟨h0, Nat.lt_of_lt_of_le (show n.natAbs < 100000 by omega) (Nat.le_trans (by decide : 100000 ≤ 2 ^ 17) (Nat.pow_le_pow_right (by decide) (by decide))), h⟩
def cDraw : Ct := fun ps μ q _ => match ps with
  | [.box, .int n] => Drw n (∀ r : Int, 0 ≤ r → r < n → q (.int r) μ)
  | _ => False
theorem cDraw_inv {ps : List PV} {μ : Mu} {q : QV} {x : QX} (h : cDraw ps μ q x) : ∃ n : Int, ps = [.box, .int n] ∧ 0 < n ∧ n.natAbs < 2 ^ 9000 ∧ ∀ r : Int, 0 ≤ r → r < n → q (.int r) μ := by
  unfold cDraw at h
  split at h
  · exact ⟨_, rfl, h.pos, h.sm, h.go⟩
  · exact h.elim
structure Drawn (b c : Addr) (H H' : Hp) : Prop where
  box : BoxAt H' b c
  keep : ∀ a, a ≠ b → a ≠ c → H' a = H a
section
variable {K : Frg} {D : Ends} {b c : Addr} {n : Int} {H : Hp}
theorem drawB_run {p st z : Int} {ns : List Int} {H : Hp} (hn : 0 < n) (hn2 : n.natAbs < 2 ^ 9000) (hbc : b ≠ c) (e1 : H b = some (.lst [.ref c, .int p, .int st])) (e2 : H c = some (.lst (ns.map V.int))) (h0 : 0 ≤ p) (h1 : 0 ≤ st) (h2 : st < 2147483647) (h3 : ns.length ≤ 63)
    (h : ∀ r H', 0 ≤ r → r < n → Drawn b c H H' → D.rt (.int r) H') : tDrawB K D [some (.ref b), some (.int n), some (.ref c), some (.int p), some (.int z), none, none] H := by
  refine ⟨_, rfl, _, _, rfl, rfl, _, rfl, b, _, 1, 1, rfl, rfl, e1, rfl, ?_⟩
  have e1' : ∀ v, upd H b (.lst ([V.ref c, .int p, .int st].set 1 v)) b = some (.lst [V.ref c, v, .int st]) := fun v => upd_same
  have m1 := Int.emod_nonneg z (b := 2147483629) (by decide)
  have m2 := Int.emod_lt_of_pos z (b := 2147483629) (by decide)
  refine ⟨_, rfl, .inl ⟨b, _, 2, .int st, rfl, rfl, SqL.of (e1' _), rfl, _, _, rfl, rfl, .inl ⟨by omega, by omega⟩, ?_⟩⟩
  refine ⟨_, rfl, .inl ⟨_, rfl, _, _, rfl, rfl, (by show (0 : Int) < 2147483629; decide), _, _, rfl, rfl, .inl ⟨by omega, by omega⟩, _, _, rfl, rfl, _, rfl, _, _, rfl, rfl, _, _, rfl, rfl, .inl ⟨_, rfl, _, _, rfl, rfl, (by show (0 : Int) < 2147483647; decide), ?_⟩⟩⟩
  have s1 : 0 ≤ (st * 48271 + z % 2147483629 * 69621 + p + 1) % 2147483647 := Int.emod_nonneg _ (by decide)
  have s3 : (st * 48271 + z % 2147483629 * 69621 + p + 1) % 2147483647 < 2147483647 := Int.emod_lt_of_pos _ (by decide)
  refine ⟨_, rfl, _, rfl, b, _, 2, 2, rfl, rfl, e1' _, rfl, ?_⟩
  refine ⟨_, rfl, _, rfl, _, _, rfl, rfl, .inl ⟨by omega, by omega⟩, _, rfl, _, _, rfl, rfl, .inl ⟨by omega, by omega⟩, _, _, rfl, rfl, .inl ⟨_, rfl, _, _, rfl, rfl, (by show (0 : Int) < 998244353; decide), ?_⟩⟩
  refine ⟨_, rfl, _, _, rfl, rfl, wide_div (b := 8) (by decide) (by decide) (by decide) (by decide), .inl ⟨_, rfl, _, rfl, _, _, rfl, rfl, hn, ?_⟩⟩
  refine h _ _ (Int.emod_nonneg _ (by omega)) (Int.emod_lt_of_pos _ hn) ⟨⟨hbc, ns, p + 1, _, upd_same, ?_, by omega, s1, s3, h3⟩, fun a n1 n2 => ?_⟩
  · rw [upd_ne hbc.symm, upd_ne hbc.symm]; exact e2
  · rw [upd_ne n1, upd_ne n1]
theorem draw_run {N : List Str} (hN : N.length = 7) (hn : 0 < n) (hn2 : n.natAbs < 2 ^ 9000) (hb : BoxAt H b c) (h : ∀ r H', 0 ≤ r → r < n → Drawn b c H H' → D.rt (.int r) H') : tDraw K D (L2.start N [.ref b, .int n]) H := by
  have s0 : L2.start N [.ref b, .int n] = [some (.ref b), some (.int n), none, none, none, none, none] := by
    unfold L2.start
    rw [hN] <;> rfl
  rw [s0]
  have hb' := hb
  obtain ⟨hbc, ns, p, st, e1, e2, h0, h1, h2, h3⟩ := hb'
  refine ⟨_, rfl, .inl ⟨b, _, 0, .ref c, rfl, rfl, SqL.of e1, rfl, ?_⟩⟩
  refine ⟨_, rfl, .inl ⟨b, _, 1, .int p, rfl, rfl, SqL.of e1, rfl, ?_⟩⟩
  refine ⟨_, rfl, _, _, rfl, .inl ⟨_, SqL.of e2, rfl⟩, rfl, _, rfl, ?_⟩
  refine ite2 (fun z => h 0 H (Int.le_refl _) hn ⟨hb, fun _ _ _ => rfl⟩) fun z => ?_
  have rest : tSeq (tAsg (tC (.int 0)) (gName 4)) (tSeq (tIfS (tPlc K) (tAsg (tCel K) (gName 4)) tNext) (tDrawB K)) D [some (.ref b), some (.int n), some (.ref c), some (.int p), none, none, none] H := by
    refine ⟨_, rfl, _, rfl, _, _, rfl, .inl ⟨_, SqL.of e2, rfl⟩, _, _, rfl, rfl, _, rfl, ?_⟩
    refine ite2 (fun z => ?_) fun z => ?_
    · have z := of_decide_eq_true z
      rw [List.length_map] at z
      obtain ⟨j, rfl⟩ := Int.eq_ofNat_of_zero_le h0
      have hj : j < ns.length := by omega
      refine ⟨_, rfl, _, rfl, .inl ⟨c, _, _, _, rfl, rfl, SqL.of e2, atI_cell hj, ?_⟩⟩
      exact drawB_run hn hn2 hbc e1 e2 h0 h1 h2 h3 h
    · exact drawB_run hn hn2 hbc e1 e2 h0 h1 h2 h3 h
  refine ⟨_, rfl, _, rfl, _, _, rfl, .inl ⟨_, SqL.of e2, rfl⟩, _, _, rfl, rfl, _, rfl, ?_⟩
  refine ite2 (fun z => ?_) fun z => ?_
  · have z := of_decide_eq_true z
    rw [List.length_map] at z
    obtain ⟨j, rfl⟩ := Int.eq_ofNat_of_zero_le h0
    have hj : j < ns.length := by omega
    refine ⟨_, rfl, _, rfl, .inl ⟨c, _, _, _, rfl, rfl, SqL.of e2, atI_cell hj, _, _, rfl, rfl, ⟨by decide, by decide, by decide⟩, _, _, rfl, rfl, _, rfl, ?_⟩⟩
    refine ite2 (fun z2 => ?_) fun z2 => rest
    refine ⟨_, rfl, _, rfl, .inl ⟨c, _, _, _, rfl, rfl, SqL.of e2, atI_cell hj, ?_⟩⟩
    refine ⟨_, rfl, _, rfl, _, _, rfl, rfl, wide_div hn hn2 (by decide) (by decide), _, rfl, _, rfl, c, _, _, j, rfl, rfl, e2, ?_, ?_⟩
    · unfold ixN
      rw [if_pos (by omega), if_pos (by rw [List.length_map]; omega)] <;> rfl
    · refine ⟨_, rfl, .inl ⟨_, rfl, _, rfl, _, _, rfl, rfl, hn, ?_⟩⟩
      refine h _ _ (Int.emod_nonneg _ (by omega)) (Int.emod_lt_of_pos _ hn) ⟨⟨hbc, ns.set j (cellOf ns j / n), j, st, ?_, ?_, h0, h1, h2, ?_⟩, fun a n1 n2 => ?_⟩
      · rw [upd_ne hbc]; exact e1
      · rw [upd_same, List.map_set]
      · rw [List.length_set]; exact h3
      · rw [upd_ne n2]
  · exact rest
end
def spBox (K : Frg) : Sp := fun vs H Q _ => ∃ (a : Addr) (ns : List Int), vs = [.ref a] ∧ ns.length ≤ 63 ∧ SqL K H a (ns.map V.int) ∧ ∀ (b c : Addr) (H' : Hp) (ms : List Int), Sub H H' → H b = none → H c = none → b ≠ c → ms.length ≤ 63 → H' b = some (.lst [.ref c, .int 0, .int 1]) → H' c = some (.lst (ms.map V.int)) → Q (.ref b) H'
theorem Drawn.go {K : Frg} {B : BX} {μ : Mu} {G H H' : Hp} {b c : Addr} (o : Ok K B μ G H) (hb : B = some (b, c)) (d : Drawn b c H H') : Go K B μ G H μ G H' := by
  obtain ⟨bt, gb, gc⟩ := o.box b c hb
  have kp : ∀ a u, H a = some u → a ≠ b → a ≠ c → H' a = some u := fun a u e n1 n2 => by rw [d.keep a n1 n2]; exact e
  refine ⟨⟨fun a u e => ?_, fun a cc e => ?_, fun b' c' e => ?_, o.tab.up (.refl _) fun a ps e g => ⟨kp a _ e (fun z => by obtain ⟨_, _, _, _, e1, _⟩ := bt; rw [z, e1] at e; cases e) (fun z => by obtain ⟨_, _, _, _, _, e1, _⟩ := bt; rw [z, e1] at e; cases e), g⟩⟩, ⟨.refl _, fun a e => ?_, fun a u e nb _ _ => kp a u e (fun z => nb ⟨b, c, hb, .inl z⟩) (fun z => nb ⟨b, c, hb, .inr z⟩), fun a u e _ => .inl e, fun a e => .inl e⟩⟩
  · exact kp a u (o.sub a u e) (fun z => by rw [z, gb] at e; cases e) (fun z => by rw [z, gc] at e; cases e)
  · obtain ⟨g1, nb, u, e1, r⟩ := o.cell a cc e
    exact ⟨g1, nb, u, kp a u e1 (fun z => nb ⟨b, c, hb, .inl z⟩) (fun z => nb ⟨b, c, hb, .inr z⟩), r⟩
  · rw [hb] at e
    cases e
    exact ⟨d.box, gb, gc⟩
  · by_cases z1 : a = b
    · obtain ⟨u, e1⟩ := d.box.some1
      rw [z1, e1] at e; cases e
    · by_cases z2 : a = c
      · obtain ⟨u, e1⟩ := d.box.some2
        rw [z2, e1] at e; cases e
      · rw [d.keep a z1 z2] at e
        exact e
section
variable {P : Program} {w : World} {K : Frg} {mg : Str → Option Value} {base : Heap} {x qual : Str} {params : Arguments} {body : List Stmt} {scope : Scope} {dvs : List V} {kws : List (Str × V)} {f : Addr} {fd : FuncData} {N ps : List Str} {k : Nat}
theorem fn_box (Fn : FunD K x qual params body scope dvs kws f fd) (S : FnScope N ps scope) (hN : N.length = 2) (hp : ps.length = 1)
    (der : ∀ (pn : List (Addr × Obj)) (cd : Value) (A : Around) (outer : List Env) (s : Shared) (H : Hp) (E : XK), PSs (cxG true pn P w K mg base N qual scope f cd A outer s H E) body (tBox K)) : FnO false P w K mg base (k + 1) f fd ps (spBox K) := by
  refine fn_o false Fn S (fun vs H Q E ⟨a, ns, e, _⟩ => by rw [e, hp] <;> rfl) fun cm pn cd A outer s H vs Q E hcm he hs => ?_
  obtain rfl := hcm rfl
  obtain ⟨a, ns, rfl, hl, hq, h⟩ := hs
  exact ⟨_, der pn cd A outer s H E, box_run hN hl hq h⟩
theorem fn_draw (Fn : FunD K x qual params body scope dvs kws f fd) (S : FnScope N ps scope) (hN : N.length = 7) (hp : ps.length = 2)
    (der : ∀ (pn : List (Addr × Obj)) (cd : Value) (A : Around) (outer : List Env) (s : Shared) (H : Hp) (E : XK), PSs (cxG true pn P w K mg base N qual scope f cd A outer s H E) body (tDraw K)) : FnO false P w K mg base (k + 1) f fd ps (spP K cDraw) := by
  refine fn_o false Fn S (fun vs H Q E ⟨B, μ, G, as, q, z, _, r, hc, _⟩ => by obtain ⟨n, e, _⟩ := cDraw_inv hc; rw [r.length, e, hp] <;> rfl) fun cm pn cd A outer s H vs Q E hcm he hs => ?_
  obtain rfl := hcm rfl
  obtain ⟨B, μ, G, as, q, z, o, r, hc, hq, hx⟩ := hs
  obtain ⟨n, rfl, n0, n1, hq0⟩ := cDraw_inv hc
  refine ⟨_, der pn cd A outer s H E, ?_⟩
  obtain ⟨v0, ws, rfl, r0, r⟩ := r.cons_inv
  obtain ⟨v1, ws, rfl, r1, r⟩ := r.cons_inv
  obtain rfl := r.nil_inv
  obtain ⟨b, c, hb, rfl⟩ := r0.box_inv
  obtain rfl := r1.int_inv
  refine draw_run hN n0 n1 (o.box _ _ hb).1 fun i H' i0 i1 d => ?_
  exact hq (.int i) _ μ G H' (hq0 i i0 i1) (d.go o hb) (rep_int i)
/-- a call by a raw promise -/
def tRaw (W : WX) (sp : Sp) (t : TA) : TE := fun σ H Q => t σ H fun vs H1 => sp vs H1 Q fun cls d H' => W cls d σ H'
theorem pe_raw {X : Cx} {W : WX} {hot : Bool} {k : Nat} {f : Addr} {sp : Sp} {x : Str} {p0 pos : Pos} {e : Expr} {es : List Expr} {t : TA} (Fn : FnS hot X.prog X.w X.K X.mg X.base k f [] sp) (md : Md X hot) (hr : Rm k X.A) (tk : TkI X W) (hm : X.mg x = some (.ref f)) (hk : PySem.W.keepIn X.K (.ref f) = true) (ha : PA X (e :: es) t) (hg : Gl X x := by rfl)
    (h1 : (x == ("__debug__" : Str)) = false := by decide) (h2 : starEach (e :: es) X.env = (false, eval e X.env) :: starEach es X.env := by rfl) (h3 : (backTo pos (starEach es X.env)).any (·.1) = false := by rfl) : PE X (.Call (.Name x p0) (e :: es) [] pos) (tRaw W sp t) := by
  refine ⟨fun pins s σ H Q J h => ?_⟩
  refine wpAny_Call_Name_kw (ld_glob J hg hm ?_ h1)
  refine PySem.W.callWith_K (h₀ := X.base) J.ok.mod.kin hk (thn (ha.run pos pins s σ H _ J h) fun us s1 ⟨vs, H1, J1, r, q1⟩ => ⟨J1.kIn, ?_⟩) h2 h3
  exact run_s (ws := []) Fn md hr tk J1 rfl (by rw [List.append_nil]; exact r) q1
/-- all but the tables -/
def noTb (H : Hp) : Hp := fun a => match H a with
  | some (.tbl _) => none
  | x => x
theorem noTb_sub (H : Hp) : Sub (noTb H) H := fun a o e => by
  unfold noTb at e
  split at e
  · cases e
  · exact e
theorem noTb_none {H : Hp} {a : Addr} (h : H a = none) : noTb H a = none := by
  unfold noTb
  rw [h]
def spLaw (K : Frg) : Sp := fun vs H Q _ => ∃ (a : Addr) (ns : List Int), vs = [.ref a] ∧ ns.length ≤ 63 ∧ SqL K H a (ns.map V.int) ∧ (∀ p ∈ Tbs K, H p.1 = some (.tbl #[])) ∧ ∀ H', Q (.bl true) H'
def lawE (n : Nat) : En := none :: some .box :: List.replicate n none
def lawEnds : DEn := { nx := fun _ _ => False, rt := fun p _ => p = .bl true, xc := fun _ _ _ => False }
def mu0 : Mu := fun _ => none
theorem fn_law {n : Nat} {st : Stmt} {rest : List Stmt} {d : DS} (Fn : FunD K x qual params body scope dvs kws f fd) (S : FnScope N ps scope) (hb : body = st :: rest) (hN : N.length = n + 2) (hp : ps.length = 1)
    (first : ∀ (pn : List (Addr × Obj)) (cd : Value) (A : Around) (outer : List Env) (s : Shared) (H : Hp) (E : XK), Here false (cxG true pn P w K mg base N qual scope f cd A outer s H E) (fun cls dd _ H' => E cls dd H') k →
      PS (cxG true pn P w K mg base N qual scope f cd A outer s H E) st (tAsg (tRaw (fun cls dd _ H' => E cls dd H') (spBox K) (tCons (tVar 0) tNil)) (gName 1)))
    (der : ∀ (pn : List (Addr × Obj)) (cd : Value) (A : Around) (outer : List Env) (s : Shared) (H : Hp) (E : XK), Here false (cxG true pn P w K mg base N qual scope f cd A outer s H E) (fun cls dd _ H' => E cls dd H') k →
      BJ (cxG true pn P w K mg base N qual scope f cd A outer s H E) (fun cls dd _ H' => E cls dd H') rest d)
    (pure_ : d lawEnds (lawE n) mu0) : FnO false P w K mg base (k + 1) f fd ps (spLaw K) := by
  refine fn_o false Fn S (fun vs H Q E ⟨a, ns, e, _⟩ => by rw [e, hp] <;> rfl) fun cm pn cd A outer s H vs Q E hcm he hs => ?_
  obtain rfl := hcm rfl
  obtain ⟨a, ns, rfl, hl, hq, hT, h⟩ := hs
  refine ⟨_, by rw [hb]; exact pss_cons (first pn cd A outer s H E he) (der pn cd A outer s H E he), ?_⟩
  have s0 : L2.start N [.ref a] = some (.ref a) :: none :: List.replicate n none := by
    unfold L2.start
    rw [hN] <;> rfl
  rw [s0]
  refine ⟨_, rfl, a, ns, rfl, hl, hq, fun b c H' ms sub hb hc nbc lm e1 e2 => ?_⟩
  refine ⟨some (b, c), lawE n, mu0, noTb H, lawEnds, ⟨⟨fun a o e => sub a o (noTb_sub H a o e), fun _ _ z => (nomatch z), fun b' c' e => ?_, fun p hp => ⟨by unfold noTb; rw [hT p hp], #[], sub _ _ (hT p hp), True.intro, fun pos cv hc => by
      have z : codeAmong pos [] = some cv := hc
      simp [codeAmong] at z⟩⟩, ?_, fun i t e => ?_⟩, pure_, ⟨fun _ _ _ _ _ z => z.elim, fun p v μ' G' H'' e _ r => ?_, fun _ _ _ _ _ z => z.elim, fun _ _ _ _ _ z => z.elim, fun _ _ _ _ _ _ _ z => z.elim⟩⟩
  · cases e
    exact ⟨⟨nbc, ms, 0, 1, e1, e2, by decide, by decide, by decide, lm⟩, noTb_none hb, noTb_none hc⟩
  · show (List.set (some (V.ref a) :: none :: List.replicate n none) 1 (some (V.ref b))).length = (lawE n).length
    unfold lawE
    simp
  · unfold lawE at e
    match i, e with
    | 0, e => cases e
    | 1, e => cases e; exact ⟨.ref b, rfl, (by show Rep K (some (b, c)) (noTb H) .box (.ref b); simp only [Rep]; exact ⟨b, c, rfl, rfl⟩)⟩
    | i + 2, e =>
      have e : (List.replicate n (none : Option PV))[i]? = some (some t) := e
      rw [List.getElem?_replicate] at e
      split at e <;> cases e
  · have e : p = .bl true := e
    subst e
    obtain rfl := r.bl_inv
    exact h H''
end
section
variable {X : Cx} {W : WX} {y : Str} {py spos : Pos} {elt tg iter : Expr} {ifs : List Expr} {scope : Scope} {own : List (Str × Nat)} {pos : Pos} {di : DI} {dt : DT} {de : DE} {t : Tg}
theorem s_setLC (i : Nat) (hc : X.calm = true) (nd : X.N.Nodup) (hsw : swapsWith (.ListComp elt [⟨tg, iter, ifs, 0⟩] scope pos) (some (.Name y py)) spos.line X.env = pure true) (hi : IJ X W tg iter di) (ok : BlkOk X.N X.env.scope scope own)
    (hg : ∀ (s : Shared) (H : Hp) (C : Addr) (cl : List (Str × Addr)) (fp : List Addr), PG (X.blk s H scope (compEnvC scope cl C X.env) fp) tg (tgOf X.K t)) (ht : ∀ (s : Shared) (H : Hp) (C : Addr) (cl : List (Str × Addr)) (fp : List Addr), TsJ (X.blk s H scope (compEnvC scope cl C X.env) fp) Wno ifs dt)
    (he : ∀ (s : Shared) (H : Hp) (C : Addr) (cl : List (Str × Addr)) (fp : List Addr), EJ (X.blk s H scope (compEnvC scope cl C X.env) fp) Wno elt de) (hw : ∀ i ∈ t.idx, i ∈ own.map (·.2) := by decide) (hy : X.N[i]? = some y := by rfl) (hyl : X.env.scope.names.lookup y = some .local := by rfl) (hs : ∀ x, foldedSetIterable iter X.env x = pure x := by intro _; rfl) :
    SJ X W (.Assign [.Name y py] (.ListComp elt [⟨tg, iter, ifs, 0⟩] scope pos) spos) (dSet i (dNew (lComp t (own.map (·.2)) di dt de))) := ps_imp (ps_setLc (i := i) hc nd hy hyl hsw hi ok hg ht he hs) fun D σ H ⟨B, ρ, μ, G, P, R, h, eo⟩ =>
  tlc_of hw ⟨B, ρ, μ, G, _, _, R, h, fun ps l vs μ' G' H' hp g hl gl ml h2 rs => by
    have g2 := g.take hl h2 gl (R.ok.notB hl) (c := .lst ps) ⟨vs, rfl, rs⟩
    exact eo.nx _ _ _ _ _ (hp l ml) ((R.go g2).set i (rep_cell l)) g2, eo.gx R⟩
/-- .. and it is never changed -/
theorem s_setLN (i : Nat) (hc : X.calm = true) (nd : X.N.Nodup) (hsw : swapsWith (.ListComp elt [⟨tg, iter, ifs, 0⟩] scope pos) (some (.Name y py)) spos.line X.env = pure true) (hi : IJ X W tg iter di) (ok : BlkOk X.N X.env.scope scope own)
    (hg : ∀ (s : Shared) (H : Hp) (C : Addr) (cl : List (Str × Addr)) (fp : List Addr), PG (X.blk s H scope (compEnvC scope cl C X.env) fp) tg (tgOf X.K t)) (ht : ∀ (s : Shared) (H : Hp) (C : Addr) (cl : List (Str × Addr)) (fp : List Addr), TsJ (X.blk s H scope (compEnvC scope cl C X.env) fp) Wno ifs dt)
    (he : ∀ (s : Shared) (H : Hp) (C : Addr) (cl : List (Str × Addr)) (fp : List Addr), EJ (X.blk s H scope (compEnvC scope cl C X.env) fp) Wno elt de) (hw : ∀ i ∈ t.idx, i ∈ own.map (·.2) := by decide) (hy : X.N[i]? = some y := by rfl) (hyl : X.env.scope.names.lookup y = some .local := by rfl) (hs : ∀ x, foldedSetIterable iter X.env x = pure x := by intro _; rfl) :
    SJ X W (.Assign [.Name y py] (.ListComp elt [⟨tg, iter, ifs, 0⟩] scope pos) spos) (dSet i (dLst (lComp t (own.map (·.2)) di dt de))) := ps_imp (ps_setLc (i := i) hc nd hy hyl hsw hi ok hg ht he hs) fun D σ H ⟨B, ρ, μ, G, P, R, h, eo⟩ =>
  tlc_of hw ⟨B, ρ, μ, G, _, _, R, h, fun ps l vs μ' G' H' hp g hl gl ml h2 rs => by
    have g2 := g.take1 hl h2 gl ml (R.ok.notB hl)
    exact eo.nx _ _ _ _ _ hp ((R.go g2).set i (rep_lst upd_same (rs.mono (.upd gl)))) g2, eo.gx R⟩
end
end Px
namespace Px
open PySem PySem.Spec PyProof.Rows L2
theorem relv_ni {v : V} (h : RelV v .notImplemented) : False := by
  cases v <;> first | (obtain ⟨_, h⟩ := h; cases h) | cases h
theorem back_of {X : Cx} {pins : List (Addr × Obj)} {σ : L2.St} {Q : VK} {u : Value} {s' : Shared} (h : EP X pins σ Q u s') : PySem.W.CmpBack (EP X pins σ Q) u s' := by
  cases u
  case notImplemented =>
    obtain ⟨v, H', J, r, _⟩ := h
    exact relv_ni r
  all_goals exact h
section
open PySem.Calls PySem.W
theorem bool_own {prog : Program} {w : World} {A : Around} {E : Value → Shared → Prop} {s : Shared} {K : Frag} {x C f : Addr} {ox : Obj} {od : Option Obj} {Q : Value → Shared → Prop} {h₀ : Heap} {L : Addr} {m : Str → Option Value} (FF : Fr h₀ L s.heap m) (X₀ : K.In h₀) (I : InstAt s.heap x ox C od) (hs : findIn K (.ref C) "__bool__" = some (some (.ref f))) (hf : isFn K (.ref f) = true)
    (h : wpAny (model prog w) A.in1.in1 (call (.ref f) [.ref x]) (PySem.W.BoolBack fun b s' => Q (.bool b) s') E s) : wpAny (model prog w) A (call (.type "bool") [.ref x]) Q E s := by
  refine callType_codes (T := "bool") (Bi := Builtin.«object.__init__») (Q₁ := fun r s₁ => ∃ y, r = .bool y ∧ Q r s₁) PySem.F.called_bool (PySem.F.typeCall_bool_1 _) PySem.F.entry_object_init ?_ ?_
  · refine codeAny_of_tree ?_
    show wpAny _ A.in1.in1 (do checkBuiltinCall "bool.__new__" ⟨[.type "bool", .ref x], []⟩; again (.builtin "bool.__new__" ⟨[.type "bool", .ref x], []⟩)) _ _ s
    refine wpAny_bind (wpAny_of_eq (PySem.F.newCall_bool_1 _) (wpAny_pure ⟨plainId_quiet (by decide +kernel) _, codeAny_builtin PySem.F.entry_bool_new ?_⟩))
    rw [Around.under_plainId (by decide +kernel) _]
    obtain ⟨hp, g, d, tk, os⟩ := s
    have f1 := PySem.F.conv_sub_bool
    repeat (any_goals (first | assumption | (with_reducible refine PySem.W.truthy_K FF X₀ I hs hf (wpAny_mono h (fun u s' hu => ?_) fun _ _ z => z)) | wp_step))
    cases u <;> first | exact hu.elim | skip
    rename_i b
    show wpAny _ _ (ret (Value.bool b)) _ _ _
    exact wpAny_pure ⟨b, rfl, hu⟩
  · rintro obj s₁ ⟨y, rfl, hq⟩
    exact ⟨PySem.typeIs_bool _ _, PySem.F.args_object_init_2 _ _, object_init_meets PySem.F.called_bool.init.lookup PySem.F.called_bool.made (by decide) prog w A.in1 _ s₁ ⟨PySem.typeIs_bool _ _, rfl, hq⟩⟩
end
section
open PySem.Calls PySem.W
/-- a class without __add__ and __radd__ -/
theorem fills_none {M : Model} {h : Heap} {K : Frag} {D : Addr} {nm : String} {cd : ClassData} (X : K.In h) (hc : clsIn K D = some cd) (hm : cd.mro = [.ref D, .type "object"]) (h1 : findIn K (.ref D) (PySem.dunder nm) = some none) (h2 : findIn K (.ref D) (PySem.dunderR nm) = some none)
    (h3 : findIn K (.type "object") (PySem.dunder nm) = some none) (h4 : findIn K (.type "object") (PySem.dunderR nm) = some none) : Looks M h (fillsNumberSlot (.ref D) nm) false := by
  intro A Q E s k q
  have Lm : Looks M h (mroOf (.ref D)) cd.mro := (looks_clsIn X hc).andThen (f := fun cd => pure cd.mro) .now
  have Lm' := Lm.keeps k
  obtain ⟨hh, g, d, tt, os⟩ := s
  have X' : K.In hh := X.keeps k
  have L1 : Looks M hh (typeLookup (.ref D) (PySem.dunder nm)) none := looks_findIn X' h1
  have L2 : Looks M hh (typeLookup (.ref D) (PySem.dunderR nm)) none := looks_findIn X' h2
  have L3 : Looks M hh (typeLookup (.type "object") (PySem.dunder nm)) none := looks_findIn X' h3
  have L4 : Looks M hh (typeLookup (.type "object") (PySem.dunderR nm)) none := looks_findIn X' h4
  unfold fillsNumberSlot
  refine wpAny_bind (Lm'.at ?_)
  rw [hm, List.anyM_cons]
  refine wpAny_bind ?_
  repeat lk
  exact q
theorem binop_other {prog : Program} {w : World} {A : Around} {E : Value → Shared → Prop} {s : Shared} {K : Frag} {x C L f D : Addr} {h₀ : Heap} {m : Str → Option Value} {ox : Obj} {od : Option Obj} {op : Operator} {b : Value} {cd' : ClassData} {Q : Value → Shared → Prop} (F : Fr h₀ L s.heap m) (X₀ : K.In h₀) (I : InstAt s.heap x ox C od) (hb : Looks (model prog w) s.heap (typeOf b) (.ref D)) (ne : D ≠ C) (hc : selfFirst K C = true)
    (hs : findIn K (.ref C) (PySem.dunder op.info.2) = some (some (.ref f))) (hf : isFn K (.ref f) = true) (hd : clsIn K D = some cd') (hm' : cd'.mro = [.ref D, .type "object"]) (h1 : findIn K (.ref D) (PySem.dunder op.info.2) = some none) (h2 : findIn K (.ref D) (PySem.dunderR op.info.2) = some none)
    (h3 : findIn K (.type "object") (PySem.dunder op.info.2) = some none) (h4 : findIn K (.type "object") (PySem.dunderR op.info.2) = some none)
    (h : wpAny (model prog w) A (call (.ref f) [.ref x, b]) (PySem.W.CmpBack Q) E s) : wpAny (model prog w) A (binaryOp op (.ref x) b) Q E s := by
  have X := X₀.keeps F.keep
  obtain ⟨cd, rest, hcd, hm⟩ := ksp_first hc
  rcases hi : op.info with ⟨sym, nm'⟩
  rw [hi] at hs h1 h2 h3 h4
  dsimp only at hs h1 h2 h3 h4
  have one := ksp_try X I hs hf h
  obtain ⟨hh, g, d, tt, os⟩ := s
  have L1 : Looks (model prog w) hh (typeOf (.ref x)) (.ref C) := I.type
  have L2 : Looks (model prog w) hh (typeOf b) (.ref D) := hb
  have L3 : Looks (model prog w) hh (fillsNumberSlot (.ref C) nm') true := fills_K X hcd hm hs
  have L4 : Looks (model prog w) hh (fillsNumberSlot (.ref D) nm') false := fills_none X hd hm' h1 h2 h3 h4
  have hne : (Value.ref C == Value.ref D) = false := Bool.eq_false_iff.mpr fun q => by cases beq_iff_eq.mp q; exact ne rfl
  simp only [binaryOp, hi]
  refine wpAny_holding (wpAny_bind ?_)
  unfold binaryOp1
  refine wpAny_bind (L1.at (wpAny_bind (L2.at (wpAny_bind (L3.at ?_)))))
  simp only [hne, Bool.false_eq_true, if_false]
  ksp_lk
  refine wpAny_mono one (fun r s' hr' => ?_) fun _ _ e => e
  obtain ⟨v, rfl, hq⟩ := hr'
  ksp_lk
  exact hq
end
def ownB (tab : Cl → Option Ct) : FO := fun a b μ q x => match a with
  | .obj c xs => (match b with
    | .obj d ys => br (decide (d = c)) (match tab c with
      | some ct => ct [.obj c xs, .obj d ys] μ q x
      | none => False) False
    | _ => False)
  | _ => False
def binD (f : F2) (tab : Cl → Option Ct) : FO := fun a b μ q x => match a with
  | .obj c xs => ownB tab (.obj c xs) b μ q x
  | a => f μ a b (fun p => q p μ)
def ownU (tab : Cl → Option Ct) : FU := fun a μ q x => match a with
  | .obj c xs => (match tab c with
    | some ct => ct [.obj c xs] μ q x
    | none => False)
  | _ => False
theorem ownB_inv {tab : Cl → Option Ct} {a b : PV} {μ : Mu} {q : QV} {x : QX} (h : ownB tab a b μ q x) : ∃ c xs ys ct, a = .obj c xs ∧ b = .obj c ys ∧ tab c = some ct ∧ ct [a, b] μ q x := by
  cases a with
  | obj c xs =>
    cases b with
    | obj d ys =>
      obtain ⟨e, h⟩ := br_and h
      have e := of_decide_eq_true e
      subst e
      cases e2 : tab d with
      | none => simp only [e2] at h
      | some ct => simp only [e2] at h; exact ⟨d, xs, ys, ct, rfl, rfl, e2, h⟩
    | _ => exact h.elim
  | _ => exact h.elim
section
variable {X : Cx} {W : WX} {hot : Bool} {k : Nat} {m : Str} {pos : Pos} {a b : Expr} {da db : DE} {tab : Cl → Option Ct}
theorem inst_at {pins : List (Addr × Obj)} {σ : L2.St} {H : Hp} {s : Shared} {p C dx : Addr} {fs : List (Str × V)} (J : Inv X pins σ H s) (e : H p = some (.ins C dx fs)) : ∃ od, PySem.W.InstAt s.heap p (PySem.W.instObj C dx) C (some od) := by
  obtain ⟨mA, O, _⟩ := ins_get J.hok e
  obtain ⟨od, I, _⟩ := O.look
  exact ⟨od, I⟩
theorem oj_own {op : Operator} (T : MTab hot X k m [] tab) (sf : ∀ c ct, tab c = some ct → PySem.W.selfFirst X.K (ca X.K c) = true) (md : Md X hot) (hr : Rm k X.A) (tk : TkI X W) (hop : PySem.dunder op.info.2 = m := by rfl) : OpJ X W (binaryOp op) (ownB tab) := fun pins s σ H B ρ μ G p r va vb u u2 q z Q J R rp rr rv rw2 h gv gx => by
  obtain ⟨c, fs, gs, ct, rfl, rfl, et, hc⟩ := ownB_inv h
  obtain ⟨x, dx, vs, rfl, _, ex, _⟩ := rp.obj_inv
  obtain ⟨y, dy, ws, rfl, _, ey, _⟩ := rr.obj_inv
  obtain rfl : u = Value.ref x := rv
  obtain rfl : u2 = Value.ref y := rw2
  obtain ⟨_, f, _, me, Fn⟩ := T c ct et
  obtain ⟨od, I1⟩ := inst_at J (R.ok.sub _ _ ex)
  obtain ⟨od2, I2⟩ := inst_at J (R.ok.sub _ _ ey)
  obtain ⟨mm, fr⟩ := J.fr
  exact PySem.W.binop_K fr J.ok.mod.kin I1 I2.type (sf c ct et) (by rw [hop]; exact me.at_) me.fn (wpAny_mono (run_s (us := [.ref x, .ref y]) (ws := []) (vs := [.ref x, .ref y]) (Q := Q) Fn md hr tk J rfl (by rw [List.append_nil]; exact .cons rfl (.cons rfl .nil)) (spP_of R (.cons rp (.cons rr .nil)) hc gv gx)) (fun _ _ z => back_of z) fun _ _ z => z)
/-- own + own, of one class or of another one that bo knows -/
def ownA (tab : Cl → Option Ct) (bo : Cl → Bool) : FO := fun a b μ q x => match a with
  | .obj c xs => (match b with
    | .obj d ys => br (decide (d = c) || bo d) (match tab c with
      | some ct => ct [.obj c xs, .obj d ys] μ q x
      | none => False) False
    | _ => False)
  | _ => False
def binA (f : F2) (tab : Cl → Option Ct) (bo : Cl → Bool) : FO := fun a b μ q x => match a with
  | .obj c xs => ownA tab bo (.obj c xs) b μ q x
  | a => f μ a b (fun p => q p μ)
theorem oj_add_own {bo : Cl → Bool} (T : MTab hot X k "__add__" [] tab) (sf : ∀ c ct, tab c = some ct → PySem.W.selfFirst X.K (ca X.K c) = true) (hbo : ∀ d, bo d = true → noAddB X.K d = true) (md : Md X hot) (hr : Rm k X.A) (tk : TkI X W) : OpJ X W (binaryOp .Add) (ownA tab bo) := fun pins s σ H B ρ μ G p r va vb u u2 q z Q J R rp rr rv rw2 h gv gx => by
  cases p with
  | obj c fs =>
    cases r with
    | obj d gs =>
      obtain ⟨e, h⟩ := br_and h
      by_cases ecd : d = c
      · exact (oj_own (op := .Add) T sf md hr tk) pins s σ H B ρ μ G _ _ va vb u u2 q z Q J R rp rr rv rw2 (show ownB tab (.obj c fs) (.obj d gs) μ q z from ⟨fun _ => h, fun z => by rw [decide_eq_true ecd] at z; cases z⟩) gv gx
      · have e : bo d = true := by rcases Bool.or_eq_true_iff.mp e with z | z; exact absurd (of_decide_eq_true z) ecd; exact z
        cases et : tab c with
        | none => simp only [et] at h
        | some ct =>
          simp only [et] at h
          obtain ⟨x, dx, vs, rfl, k1, ex, _⟩ := rp.obj_inv
          obtain ⟨y, dy, ws, rfl, k2, ey, _⟩ := rr.obj_inv
          obtain rfl : u = Value.ref x := rv
          obtain rfl : u2 = Value.ref y := rw2
          obtain ⟨_, f, _, me, Fn⟩ := T c ct et
          obtain ⟨od, I1⟩ := inst_at J (R.ok.sub _ _ ex)
          obtain ⟨od2, I2⟩ := inst_at J (R.ok.sub _ _ ey)
          obtain ⟨mm, fr⟩ := J.fr
          have hn := hbo d e
          obtain ⟨n0, hn⟩ := He.ba hn
          obtain ⟨n1, hn⟩ := He.ba hn
          obtain ⟨n2, hn⟩ := He.ba hn
          obtain ⟨n3, n4⟩ := He.ba hn
          obtain ⟨cd, hcd, hm⟩ := PySem.W.any_some n0
          have hm := of_decide_eq_true hm
          have ne : ca X.K d ≠ ca X.K c := fun z => by
            have f1 : PySem.W.findIn X.K (.ref (ca X.K c)) (PySem.dunder "add") = some (some (.ref f)) := me.at_
            rw [← z, of_decide_eq_true n1] at f1
            cases f1
          exact binop_other fr J.ok.mod.kin I1 I2.type ne (sf c ct et) me.at_ me.fn hcd hm (of_decide_eq_true n1) (of_decide_eq_true n2) (of_decide_eq_true n3) (of_decide_eq_true n4) (wpAny_mono (run_s (us := [.ref x, .ref y]) (ws := []) (vs := [.ref x, .ref y]) (Q := Q) Fn md hr tk J rfl (by rw [List.append_nil]; exact .cons rfl (.cons rfl .nil)) (spP_of R (.cons rp (.cons rr .nil)) h gv gx)) (fun _ _ z => back_of z) fun _ _ z => z)
    | _ => exact h.elim
  | _ => exact h.elim
theorem OpJ.withAdd {op : Value → Value → Sem Value} {f : F2} {bo : Cl → Bool} (h : OpJ X W op (fo f)) (g : OpJ X W op (ownA tab bo)) : OpJ X W op (binA f tab bo) := h.or g fun a b μ q x z => by
  cases a with
  | obj c xs => exact .inr z
  | _ => exact .inl z
theorem OpJ.withOwn {op : Value → Value → Sem Value} {f : F2} (h : OpJ X W op (fo f)) (g : OpJ X W op (ownB tab)) : OpJ X W op (binD f tab) := h.or g fun a b μ q x z => by
  cases a with
  | obj c xs => exact .inr z
  | _ => exact .inl z
theorem uj_own (T : MTab hot X k "__invert__" [] tab) (md : Md X hot) (hr : Rm k X.A) (tk : TkI X W) : UnJ X W (unaryOp .Invert) (ownU tab) := fun pins s σ H B ρ μ G p v u q z Q J R rp rv h gv gx => by
  cases p with
  | obj c fs =>
    unfold ownU at h
    cases et : tab c with
    | none => simp only [et] at h
    | some ct =>
      simp only [et] at h
      obtain ⟨x, dx, vs, rfl, _, ex, _⟩ := rp.obj_inv
      obtain rfl : u = Value.ref x := rv
      obtain ⟨_, f, _, me, Fn⟩ := T c ct et
      obtain ⟨od, I1⟩ := inst_at J (R.ok.sub _ _ ex)
      obtain ⟨mm, fr⟩ := J.fr
      exact PySem.W.ksp_inv fr J.ok.mod.kin I1 me.at_ me.fn (run_s (us := [.ref x]) (ws := []) (vs := [.ref x]) (Q := Q) Fn md hr tk J rfl (by rw [List.append_nil]; exact .cons rfl .nil) (spP_of R (.cons rp .nil) h gv gx))
  | _ => exact h.elim
theorem run_in {A' : Around} {pins : List (Addr × Obj)} {σ : L2.St} {H : Hp} {s : Shared} {Q : VK} {f : Addr} {sp : Sp} {us : List Value} {vs : List V} {E : Value → Shared → Prop} (Fn : FnS hot X.prog X.w X.K X.mg X.base k f [] sp) (hc : Md X hot) (hf : A'.frames = X.A.frames) (hh : A'.handled = X.A.handled) (hr : Rm k A') (J : Inv X pins σ H s)
    (r : Vals vs us) (h : sp vs H Q (fun _ _ _ => False)) : wpAny (model X.prog X.w) A' (call (.ref f) us) (EP X pins σ Q) E s := by
  have e := J.env0
  have e0 : Env0 X.prog X.w X.K X.mg X.base A' X.stack s H := ⟨by rw [hf]; exact e.frames, e.mod, e.bs, e.bsz, e.funs, e.frf, e.hok, e.bare⟩
  have hm : A'.handled = none ∨ (hot = true ∧ ∃ p, L2H.Hot1 A' p ∧ L2H.PinOk X.stack H s p) := by
    rcases hc with z | ⟨z, p, hp, mem⟩
    · exact .inl (by rw [hh]; exact J.ok.hd z)
    · have P1 := J.pin p (List.mem_append_left _ mem)
      exact .inr ⟨z, p, ⟨by rw [hh]; exact hp.1, hp.2⟩, ⟨P1.1, P1.2.1, fun hq => (List.mem_cons.mp (J.stkSub p.1 hq)).elim P1.2.2.1 P1.2.2.2.1, P1.2.2.2.2⟩⟩
  refine wpAny_call (codeAny_mono (Fn A' X.stack s H us [] vs Q _ hm hr e0 rfl (by rw [List.append_nil]; exact r) h) fun rr s' hq => ?_)
  cases rr with
  | error er =>
    have z : XI X Wno er s' := XI.of_call J (fun _ _ _ z => z) hq
    obtain ⟨_, _, _, _, _, _, _, _, _, _, _, _, _, _, _, _, w⟩ := z
    exact w.elim
  | ok fl =>
    cases fl with
    | ret u => exact J.after hq
    | next => exact False.elim hq
    | brk => exact False.elim hq
    | cont => exact False.elim hq
theorem room_in {k n : Nat} {A : Around} (h : Rm (k + 1) A) (hn : n ≤ 16) : Rm k { A with units := A.units + n } := ⟨by have := h.dp; show A.depth + 3 * k + 5 < _; omega, by have := h.un; show A.units + n + 16 * k + 200 < _; omega, h.gd⟩
theorem spP_ok {K : Frg} {ct : Ct} {B : BX} {μ : Mu} {G H : Hp} {ps : List PV} {vs : List V} {q : QV} {Q : VK} (o : Ok K B μ G H) (r : Reps K B G ps vs) (h : ct ps μ q (fun _ _ => False)) (gv : GoodV K B μ G H q Q) : spP K ct vs H Q (fun _ _ _ => False) :=
  ⟨B, μ, G, ps, q, fun _ _ => False, o, r, h, gv, fun _ _ _ _ _ z => z.elim⟩
/-- what a builtin does with an own object: the def's promise, its value in ok -/
def rOwn1 (K : Frg) (tab : Cl → Option Ct) (ok : V → Prop) : List V → Hp → VK → Prop := fun vs H Q => ∃ c ct x dx ws, tab c = some ct ∧ vs = [.ref x] ∧ H x = some (.ins (ca K c) dx ws) ∧ spP K ct vs H (fun v H' => ok v ∧ Q v H') (fun _ _ _ => False)
def own1 (tab : Cl → Option Ct) (ok : QV → QV) : FC := fun ps μ q _ => match ps with
  | [.obj c xs] => (match tab c with
    | some ct => ct [.obj c xs] μ (ok q) noX
    | none => False)
  | _ => False
theorem cj_own {fn : Value} {ok : QV → QV} {okv : V → Prop} (h1 : ∀ (B : BX) (G : Hp) p v q μ, ok q p μ → Rep X.K B G p v → okv v ∧ q p μ) (ho : CallR X fn (rOwn1 X.K tab okv)) : CaJ X W fn (own1 tab ok) := fun pins s σ H B ρ μ G ps vs us q x Q J R rs ru h gv gx => by
  unfold own1 at h
  split at h
  · rename_i c xs
    cases et : tab c with
    | none => simp only [et] at h
    | some ct =>
      simp only [et] at h
      refine ho pins s σ H vs us Q J ru ?_
      obtain ⟨v, ws, rfl, r1, rn⟩ := rs.cons_inv
      obtain rfl := rn.nil_inv
      obtain ⟨y, dx, ys, rfl, _, ey, _⟩ := r1.obj_inv
      exact ⟨c, ct, y, dx, _, et, rfl, R.ok.sub _ _ ey, spP_ok R.ok rs h fun p v μ' G' H' hp g rr => by
        obtain ⟨o1, o2⟩ := h1 _ _ p v q μ' hp rr
        exact ⟨o1, gv p v μ' G' H' o2 g rr⟩⟩
  · exact h.elim
def okLen (q : QV) : QV := fun p μ => match p with
  | .int n => 0 ≤ n ∧ n < 2 ^ 63 ∧ q (.int n) μ
  | _ => False
def okStr (q : QV) : QV := fun p μ => match p with
  | .str z => q (.str z) μ
  | _ => False
def okBl (q : QV) : QV := fun p μ => match p with
  | .bl z => q (.bl z) μ
  | _ => False
theorem ow_len {K : Frg} (B : BX) (G : Hp) (p : PV) (v : V) (q : QV) (μ : Mu) (h : okLen q p μ) (r : Rep K B G p v) : (∃ n : Int, v = .int n ∧ 0 ≤ n ∧ n < 2 ^ 63) ∧ q p μ := by
  cases p with
  | int n => exact ⟨⟨n, r.int_inv, h.1, h.2.1⟩, h.2.2⟩
  | _ => exact h.elim
theorem ow_str {K : Frg} (B : BX) (G : Hp) (p : PV) (v : V) (q : QV) (μ : Mu) (h : okStr q p μ) (r : Rep K B G p v) : (∃ z : Str, v = .str z) ∧ q p μ := by
  cases p with
  | str n => exact ⟨⟨n, r.str_inv⟩, h⟩
  | _ => exact h.elim
theorem ow_bl {K : Frg} (B : BX) (G : Hp) (p : PV) (v : V) (q : QV) (μ : Mu) (h : okBl q p μ) (r : Rep K B G p v) : (∃ z : Bool, v = .bl z) ∧ q p μ := by
  cases p with
  | bl n => exact ⟨⟨n, r.bl_inv⟩, h⟩
  | _ => exact h.elim
theorem cr_len (T : MTab hot X k "__len__" [] tab) (hc : Md X hot) (hr : Rm (k + 1) X.A) : CallR X (.builtin "len") (rOwn1 X.K tab fun v => ∃ n : Int, v = .int n ∧ 0 ≤ n ∧ n < 2 ^ 63) := by
  intro pins s σ H xs us Q J r h
  obtain ⟨c, ct, x, dx, ws, et, rfl, ex, hs⟩ := h
  obtain ⟨_, f, _, me, Fn⟩ := T c ct et
  cases r with
  | cons r0 rn =>
    cases rn
    cases r0
    obtain ⟨od, I⟩ := inst_at J ex
    obtain ⟨mm, fr⟩ := J.fr
    refine PySem.W.len_K fr J.ok.mod.kin I me.at_ me.fn (wpAny_mono (run_in (A' := X.A.in1) (vs := [.ref x]) Fn hc rfl rfl (room_in hr (n := 1) (by decide)) J (.cons rfl .nil) hs) (fun u s' hu => ?_) fun _ _ z => z)
    obtain ⟨v, H', J', rv, ⟨n, rfl, n0, n1⟩, hQ⟩ := hu
    obtain ⟨t, rfl⟩ := rv
    exact ⟨⟨n0, n1⟩, .int n, H', J'.tok _, ⟨_, rfl⟩, hQ⟩
theorem cr_repr (T : MTab hot X k "__repr__" [] tab) (hc : Md X hot) (hr : Rm (k + 1) X.A) : CallR X (.builtin "repr") (rOwn1 X.K tab fun v => ∃ z : Str, v = .str z) := by
  intro pins s σ H xs us Q J r h
  obtain ⟨c, ct, x, dx, ws, et, rfl, ex, hs⟩ := h
  obtain ⟨_, f, _, me, Fn⟩ := T c ct et
  cases r with
  | cons r0 rn =>
    cases rn
    cases r0
    obtain ⟨od, I⟩ := inst_at J ex
    obtain ⟨mm, fr⟩ := J.fr
    refine PySem.W.repr_K (by have := hr.un; show X.A.units + 1 < _; omega) fr J.ok.mod.kin I me.at_ me.fn (wpAny_mono (run_in (A' := X.A.in1) (vs := [.ref x]) Fn hc rfl rfl (room_in hr (n := 1) (by decide)) J (.cons rfl .nil) hs) (fun u s' hu => ?_) fun _ _ z => z)
    obtain ⟨v, H', J', rv, ⟨z, rfl⟩, hQ⟩ := hu
    obtain ⟨t, rfl⟩ := rv
    exact ⟨.str z, H', J', ⟨_, rfl⟩, hQ⟩
theorem cr_str (T : MTab hot X k "__str__" [] tab) (hc : Md X hot) (hr : Rm (k + 1) X.A) : CallR X (.type "str") (rOwn1 X.K tab fun v => ∃ z : Str, v = .str z) := by
  intro pins s σ H xs us Q J r h
  obtain ⟨c, ct, x, dx, ws, et, rfl, ex, hs⟩ := h
  obtain ⟨_, f, _, me, Fn⟩ := T c ct et
  cases r with
  | cons r0 rn =>
    cases rn
    cases r0
    obtain ⟨od, I⟩ := inst_at J ex
    refine PySem.W.kso_call (by have := hr.un; show X.A.units + 1 + 1 < _; omega) J.kIn I me.at_ me.fn (wpAny_mono (run_in (A' := X.A.in1.in1) (vs := [.ref x]) Fn hc rfl rfl (room_in hr (n := 2) (by decide)) J (.cons rfl .nil) hs) (fun u s' hu => ?_) fun _ _ z => z)
    obtain ⟨v, H', J', rv, ⟨z, rfl⟩, hQ⟩ := hu
    obtain ⟨t, rfl⟩ := rv
    exact ⟨.str z, H', J', ⟨_, rfl⟩, hQ⟩
theorem cr_bool (T : MTab hot X k "__bool__" [] tab) (hc : Md X hot) (hr : Rm (k + 1) X.A) : CallR X (.type "bool") (rOwn1 X.K tab fun v => ∃ z : Bool, v = .bl z) := by
  intro pins s σ H xs us Q J r h
  obtain ⟨c, ct, x, dx, ws, et, rfl, ex, hs⟩ := h
  obtain ⟨_, f, _, me, Fn⟩ := T c ct et
  cases r with
  | cons r0 rn =>
    cases rn
    cases r0
    obtain ⟨od, I⟩ := inst_at J ex
    obtain ⟨mm, fr⟩ := J.fr
    refine bool_own fr J.ok.mod.kin I me.at_ me.fn (wpAny_mono (run_in (A' := X.A.in1.in1) (vs := [.ref x]) Fn hc rfl rfl (room_in hr (n := 2) (by decide)) J (.cons rfl .nil) hs) (fun u s' hu => ?_) fun _ _ z => z)
    obtain ⟨v, H', J', rv, ⟨z, rfl⟩, hQ⟩ := hu
    cases rv
    exact ⟨.bl z, H', J', rfl, hQ⟩
/-- a builtin of one value: own objects answer by their table -/
def bltD (f : Mu → List PV → (PV → Prop) → Prop) (tab : Cl → Option Ct) (ok : QV → QV) : FC := fun ps μ q x => match ps with
  | [.obj c xs] => own1 tab ok [.obj c xs] μ q x
  | ps => f μ ps (fun p => q p μ)
theorem CaJ.withOwn {fn : Value} {f : Mu → List PV → (PV → Prop) → Prop} {ok : QV → QV} (h : CaJ X W fn (fc f)) (g : CaJ X W fn (own1 tab ok)) : CaJ X W fn (bltD f tab ok) := h.or g fun ps μ q x z => by
  unfold bltD at z
  split at z
  · exact .inr z
  · exact .inl z
theorem cj_lenO (T : MTab hot X k "__len__" [] tab) (hc : Md X hot) (hr : Rm (k + 1) X.A) : CaJ X W (.builtin "len") (bltD fLen tab okLen) := cj_len.withOwn (cj_own ow_len (cr_len T hc hr))
theorem cj_boolO (T : MTab hot X k "__bool__" [] tab) (hc : Md X hot) (hr : Rm (k + 1) X.A) : CaJ X W (.type "bool") (bltD fBool tab okBl) := cj_bool.withOwn (cj_own ow_bl (cr_bool T hc hr))
theorem cj_reprO (T : MTab hot X k "__repr__" [] tab) (hc : Md X hot) (hr : Rm (k + 1) X.A) : CaJ X W (.builtin "repr") (own1 tab okStr) := cj_own ow_str (cr_repr T hc hr)
/-- str(..) of an int -/
def fStr : Mu → List PV → (PV → Prop) → Prop := fun _ ps q => match ps with
  | [.int i] => i.natAbs.log2 < 1920 ∧ q (.str (toString i))
  | _ => False
theorem pcl_str {K : Frg} : PCl K (fun xs H Q => ∃ i, xs = [.int i] ∧ i.natAbs.log2 < 1920 ∧ Q (.str (toString i)) H) fStr := fun B μ G H ps vs q Q o rs h gv => by
  unfold fStr at h
  split at h
  · exact ⟨_, rs.int1, h.1, gv _ _ _ _ h.2 (.refl o) (rep_str _)⟩
  · exact h.elim
theorem cj_strO (T : MTab hot X k "__str__" [] tab) (hc : Md X hot) (hr : Rm (k + 1) X.A) : CaJ X W (.type "str") (bltD fStr tab okStr) := CaJ.withOwn (.of call_str_int pcl_str) (cj_own ow_str (cr_str T hc hr))
def trD (tab : Cl → Option Ct) : FT := fun p μ q x => match p with
  | .bl b => q b μ
  | .obj c xs => (match tab c with
    | some ct => ct [.obj c xs] μ (qB q) noX
    | none => False)
  | _ => False
theorem tj_own (T : MTab hot X k "__bool__" [] tab) (hc : Md X hot) (hr : Rm k X.A) : TrJ X W (trD tab) := fun pins s σ H B ρ μ G p v u q x Q J R rp ru h gv gx => by
  cases p with
  | bl b =>
    rw [rp.bl_inv] at ru
    cases ru
    exact wpAny_truthy_bool ⟨H, J, gv b μ G H h (.refl R.ok)⟩
  | obj c fs =>
    unfold trD at h
    cases et : tab c with
    | none => simp only [et] at h
    | some ct =>
      simp only [et] at h
      obtain ⟨y, dx, vs, rfl, _, ey, _⟩ := rp.obj_inv
      obtain rfl : u = Value.ref y := ru
      obtain ⟨_, f, _, me, Fn⟩ := T c ct et
      obtain ⟨od, I⟩ := inst_at J (R.ok.sub _ _ ey)
      obtain ⟨mm, fr⟩ := J.fr
      refine PySem.W.truthy_K fr J.ok.mod.kin I me.at_ me.fn (wpAny_mono (run_in (A' := X.A) (vs := [.ref y]) (Q := fun v H' => ∃ b, v = .bl b ∧ Q b H') Fn hc rfl rfl hr J (.cons rfl .nil) (spP_ok R.ok (.cons rp .nil) h fun p v μ' G' H' h0 g rr => ?_)) (fun w s' hw => ?_) fun _ _ z => z)
      · obtain ⟨b, rfl, hb⟩ := qB_inv h0
        exact ⟨b, rr.bl_inv, gv b μ' G' H' hb g⟩
      · obtain ⟨z, H', J', rz, b, rfl, hQ⟩ := hw
        cases rz
        exact ⟨H', J', hQ⟩
  | _ => exact h.elim
def inD (tab : Cl → Option Ct) : FO := fun y p μ q x => match p with
  | .obj c xs => (match tab c with
    | some ct => ct [.obj c xs, y] μ (okBl q) noX
    | none => False)
  | p => inF false μ y p (fun r => q r μ)
theorem oj_inO (T : MTab hot X k "__contains__" [] tab) (hc : Md X hot) (hr : Rm k X.A) : OpJ X W (compareOp .In) (inD tab) := by
  refine OpJ.or (f := fo (inF false)) (g := fun y p μ q x => ∃ c xs ct, p = .obj c xs ∧ tab c = some ct ∧ ct [p, y] μ (okBl q) noX) oj_in (fun pins s σ H B ρ μ G y p vy vp uy up q x Q J R ry rp ruy rup ⟨c, xs, ct, e, et, h⟩ gv gx => ?_) fun y p μ q x h => ?_
  · subst e
    obtain ⟨z, dx, vs, rfl, _, ez, _⟩ := rp.obj_inv
    obtain rfl : up = Value.ref z := rup
    obtain ⟨_, f, _, me, Fn⟩ := T c ct et
    obtain ⟨od, I⟩ := inst_at J (R.ok.sub _ _ ez)
    obtain ⟨mm, fr⟩ := J.fr
    refine PySem.W.in_K fr J.ok.mod.kin I me.at_ me.fn (wpAny_mono (run_in (A' := X.A) (vs := [.ref z, vy]) (Q := fun v H' => ∃ b, v = .bl b ∧ Q (.bl b) H') Fn hc rfl rfl hr J (.cons rfl (.cons ruy .nil)) (spP_ok R.ok (.cons rp (.cons ry .nil)) h fun p v μ' G' H' h0 g rr => ?_)) (fun w s' hw => ?_) fun _ _ z => z)
    · cases p with
      | bl b => obtain rfl := rr.bl_inv; exact ⟨b, rfl, gv _ _ _ _ _ h0 g (rep_bl b)⟩
      | _ => exact h0.elim
    · obtain ⟨zz, H', J', rz, b, rfl, hQ⟩ := hw
      cases rz
      exact wpAny_truthy_bool ⟨.bl b, H', J', rfl, hQ⟩
  · cases p with
    | obj c xs =>
      unfold inD at h
      cases et : tab c with
      | none => simp only [et] at h
      | some ct => simp only [et] at h; exact .inr ⟨c, xs, ct, rfl, et, h⟩
    | _ => exact .inl h
end
end Px
namespace Px
open PySem PySem.Spec PyProof.Rows L2
open NdefX (NF NScope CellsAt startF envF ncx inv_startN)
open PySem.W (findIn typeIn keepIn subIn clsIn nsIn codeIn alongIn fnX envX)
section
variable {P : Program} {w : World} {K : Frg} {mg : Str → Option Value} {base : Heap} {k : Nat} {f D cda cc : Addr} {nm qual m : Str} {kwd : List (Str × V)} {params : Arguments} {body : List Stmt} {scope : Scope} {N ps ks : List Str}
/-- how the values of a call are bound: ds, the defaults' values -/
def BndOk (K : Frg) (nm qual : Str) (params : Arguments) (body : List Stmt) (scope : Scope) (kwd : List (Str × V)) (cda cc : Addr) (ps ks : List Str) (dv : List V) : Prop := ∀ kV : Value, KwdV K kV kwd → ∃ ds : List Value, Vals dv ds ∧ ∀ (s : Shared) (doc pm : Value) (an : Option Addr) (ct : Value) (us ws : List Value), K.In s.heap → ws.length = ks.length → (us ++ ws ++ ds).length = ps.length →
  BindsTo s (fnX nm qual params body scope [("__class__", cc)] .none kV doc pm an (.ref cda) ct) ⟨us, ks.zip ws⟩ (ps.zip (us ++ ws ++ ds))
theorem BndOk.all (hb : ∀ (kV doc pm : Value) (an : Option Addr) (ct : Value) (us ws : List Value), ws.length = ks.length → us.length + ws.length = ps.length → bindArgs (fnX nm qual params body scope [("__class__", cc)] .none kV doc pm an (.ref cda) ct) ⟨us, ks.zip ws⟩ = pure (ps.zip (us ++ ws))) : BndOk K nm qual params body scope kwd cda cc ps ks [] := fun kV _ =>
  ⟨[], .nil, fun s doc pm an ct us ws _ h1 h2 => by
    rw [List.append_nil] at h2 ⊢
    exact BindsTo.of_eq (hb kV doc pm an ct us ws h1 (by rw [← List.length_append]; exact h2))⟩
/-- the keyword-only ones are left out -/
theorem BndOk.dfl (n : Nat) (hk : kwd ≠ []) (hn : n + kwd.length = ps.length) (h : ∀ (D0 : Addr) (doc pm : Value) (an : Option Addr) (ct : Value) (us vs : List Value), us.length = n → vs.length = kwd.length →
      KwChain D0 ((kwd.map (·.1)).zip vs) (bindArgs (fnX nm qual params body scope [("__class__", cc)] .none (.ref D0) doc pm an (.ref cda) ct) ⟨us, []⟩) (ps.zip (us ++ vs))) : BndOk K nm qual params body scope kwd cda cc ps [] (kwd.map (·.2)) := fun kV hK => by
  rcases hK with e | ⟨D0, rfl, hq⟩
  · exact absurd e hk
  · obtain ⟨vs, hl, rk, hks⟩ := kwd_vals hq
    refine ⟨vs, rk, fun s doc pm an ct us ws X h1 h2 => ?_⟩
    have hw : ws = [] := List.eq_nil_of_length_eq_zero h1
    subst hw
    rw [List.append_nil] at h2 ⊢
    have l2 : us.length = n := by
      rw [List.length_append, hl] at h2
      omega
    exact BindsTo.of_looks fun M => KwChain.looks X hks (h D0 doc pm an ct us vs l2 hl)
theorem FnS.nil {hot : Bool} {g : Addr} {c : Ct} (F : FnS hot P w K mg base k g ks (spP K fun as μ q z => c (as ++ []) μ q z)) : FnS hot P w K mg base k g ks (spP K c) := by
  have e : (fun as μ q z => c (as ++ []) μ q z) = c := by
    funext as μ q z
    rw [List.append_nil]
  rw [e] at F
  exact F
end
end Px
namespace Px
open PySem PySem.Spec PyProof.Rows L2
section
variable {X : Cx} {W : WX} {pos : Pos} {a b : Expr} {da db : DE}
/-- sep.join(xs) -/
def joinP (a r : PV) (μ : Mu) (q : QV) : Prop := match a with
  | .str z => (match seqOf μ r with
    | some (_, xs) => ∃ ys : List Str, xs = ys.map .str ∧ (ys.map (·.length)).sum + ys.length * z.length ≤ 16777216 ∧ q (.str (Txt.join z ys)) μ
    | none => False)
  | _ => False
def dJoin (da db : DE) : DE := fun ρ μ q x => da ρ μ (fun p μ1 => (match p with | .str _ => True | _ => False) ∧ db ρ μ1 (fun r μ2 => joinP p r μ2 q) x) x
theorem e_join {apos : Pos} (ha : EJ X W a da) (hb : EJ X W b db) (hs : starEach [b] X.env = [(false, eval b X.env)] := by rfl) (hbase : attributeBase a "join" X.env (eval a X.env) = eval a X.env := by rfl) (hline : (apos.endLine == pos.line) = true := by rfl) :
    EJ X W (.Call (.Attribute a "join" apos) [b] [] pos) (dJoin da db) := pe_imp (pe_join ha hb hs hbase hline) fun σ H Q ⟨B, ρ, μ, G, q, x, R, h, gv, gx⟩ =>
  ⟨B, ρ, μ, G, _, x, R, h, fun p v μ1 G1 H1 ⟨e, h1⟩ g1 r1 => by
    cases p with
    | str z =>
      obtain rfl := r1.str_inv
      refine ⟨⟨z, rfl⟩, B, ρ, μ1, G1, _, x, R.go g1, h1, fun r w μ2 G2 H2 h2 g2 r2 => ?_, gx.go g1⟩
      unfold joinP at h2
      cases e2 : seqOf μ2 r with
      | none => simp only [e2] at h2
      | some zz =>
        obtain ⟨t, xs⟩ := zz
        simp only [e2] at h2
        obtain ⟨ys, rfl, hl, hq⟩ := h2
        obtain ⟨p, vs, rfl, rs, hh⟩ := seq_ok g2.ok r2 e2
        rw [rs.strs] at hh
        refine ⟨z, p, ys, rfl, rfl, ?_, hl, gv _ _ _ _ _ hq (g1.trans g2) (rep_str _)⟩
        rcases hh with ⟨_, hh⟩ | ⟨_, hh⟩
        · exact .inl (.inl (.inl hh))
        · exact .inr hh
    | _ => exact e.elim, gx⟩
end
end Px
namespace Px
open PySem PySem.Spec PyProof.Rows L2
theorem strsOf_ok {K : Frg} {B : BX} {G : Hp} : ∀ {vs : List Value} {zs : List Str}, strsOf vs = some zs → Vals (zs.map V.str) vs
  | [], zs, h => by cases h; exact .nil
  | v :: vs, zs, h => by
    unfold strsOf at h
    split at h
    · rename_i z t
      split at h
      · rename_i ws e
        cases h
        exact .cons ⟨t, rfl⟩ (strsOf_ok (K := K) (B := B) (G := G) e)
      · cases h
    · cases h
theorem tupB_ok {K : Frg} {zs : List Str} {v : Value} (h : tupB K zs v = true) : ∃ a, v = .ref a ∧ ∀ B G, Rep K B G (.ctup (zs.map .str)) (.ref a) := by
  unfold tupB at h
  split at h
  · rename_i a
    split at h
    · rename_i o lk
      obtain ⟨h1, h⟩ := He.ba h
      split at h
      · rename_i its n ed
        obtain ⟨h2, h3⟩ := He.ba h
        refine ⟨a, rfl, fun B G => rep_ctup (vs := zs.map V.str) (.inr ⟨o, its, n, lk, of_decide_eq_true h1, ed, of_decide_eq_true h2, strsOf_ok (K := K) (B := B) (G := G) (of_decide_eq_true h3)⟩) (Reps.ofStrs zs)⟩
      · cases h
    · cases h
  · cases h
theorem cvTB_ok {K : Frg} {c : Cl} {f : Str} {zs : List Str} (h : cvTB K c f zs = true) : ClX.CRead K (ca K c) (.type "type") ∧ ∃ a, (∃ u, ClX.CVal K (ca K c) (.type "type") f (.ref a) u) ∧ ∀ B G, Rep K B G (.ctup (zs.map .str)) (.ref a) := by
  obtain ⟨h1, h2⟩ := He.ba h
  split at h2
  · rename_i v e
    obtain ⟨a, rfl, r⟩ := tupB_ok h2
    exact ⟨cread_ok h1, a, ⟨_, e, rfl⟩, r⟩
  · cases h2
theorem brT {b : Bool} {A B : Prop} (e : b = true) (h : A) : br b A B := ⟨fun _ => h, fun z => by rw [e] at z; cases z⟩
theorem brF {b : Bool} {A B : Prop} (e : b = false) (h : B) : br b A B := ⟨fun z => (by rw [e] at z; cases z), fun _ => h⟩
theorem brE_t {b : Bool} {A B : Prop} (e : b = true) (h : br b A B) : A := h.t e
theorem brE_f {b : Bool} {A B : Prop} (e : b = false) (h : br b A B) : B := h.f e
theorem brD {c : Prop} [Decidable c] {A B : Prop} (h1 : c → A) (h2 : ¬ c → B) : br (decide c) A B := br_of (fun e => h1 (of_decide_eq_true e)) (fun e => h2 (of_decide_eq_false e))
theorem brN {c : Prop} [Decidable c] {A B : Prop} (h1 : ¬ c → A) (h2 : c → B) : br (!decide c) A B := br_of (fun e => h1 (by simpa using e)) (fun e => h2 (by simpa using e))
theorem nb1 {α : Type} [DecidableEq α] (a : α) : (!decide (a = a)) = false := by simp
/-- what an __init__ makes of its arguments: the fields, or what it raises -/
abbrev Kc := Cl → List PV → (List PV → Prop) → (XV → Prop) → Prop
def initK (kc : Kc) : Ct := fun as μ q x => ∃ y c ps, as = .cell y :: ps ∧ μ y = some (.ins c []) ∧ kc c ps (fun vs => vs.length = c.flds.length ∧ q .non (μ.put y (.ins c (c.flds.zip vs)))) (fun xv => x xv μ)
def mkK (c : Cl) (kc : Kc) : Ct := fun ps μ q x => kc c ps (fun vs => vs.length = c.flds.length ∧ q (.obj c vs) μ) (fun xv => x xv μ)
def Mono (kc : Kc) : Prop := ∀ c ps A A' B B', (∀ vs, A vs → A' vs) → (∀ xv, B xv → B' xv) → kc c ps A B → kc c ps A' B'
theorem br_mono {b : Bool} {A A' B B' : Prop} (h : br b A B) (h1 : A → A') (h2 : B → B') : br b A' B' := ⟨fun e => h1 (h.t e), fun e => h2 (h.f e)⟩
theorem takeF_zip : ∀ (gs : List Str) (vs : List PV), vs.length = gs.length → takeF gs (gs.zip vs) = some vs
  | [], [], _ => rfl
  | g :: gs, v :: vs, h => by
    have ih := takeF_zip gs vs (by simpa using h)
    rw [List.zip_cons_cons]
    unfold takeF
    cases decEq g g with
    | isTrue _ => simp only [ih]
    | isFalse z => exact absurd rfl z
theorem mkQ_end {y : Addr} {q : QV} {μ : Mu} {c : Cl} {vs : List PV} (h : vs.length = c.flds.length) (k : q (.obj c vs) (μ.del y)) : mkQ true y q .non (μ.put y (.ins c (c.flds.zip vs))) := by
  unfold mkQ mkEnd
  simp only [Mu.put_same, takeF_zip _ _ h, Mu.del_put]
  exact k
theorem mkK_ok {c : Cl} {kc : Kc} (m : Mono kc) : MkC true c (initK kc) (mkK c kc) := fun ps μ q x h y hy => by
  refine ⟨y, c, ps, rfl, Mu.put_same _ _ _, m c ps _ _ _ _ (fun vs hv => ?_) (fun xv hx => ?_) h⟩
  · refine ⟨hv.1, ?_⟩
    rw [Mu.put_put]
    refine mkQ_end hv.1 ?_
    rw [Mu.del_none hy]
    exact hv.2
  · show x xv ((μ.put y (.ins c [])).del y)
    rw [Mu.del_put, Mu.del_none hy]
    exact hx
/-- .. with *args -/
theorem mkK_star {c : Cl} {kc : Kc} (m : Mono kc) : MkC true c (starC 1 (initK kc)) (fun ps μ q x => ps.length ≤ sizeLine ∧ mkK c kc [.tup ps] μ q x) := fun ps μ q x h y hy =>
  ⟨by simp, h.1, mkK_ok m [.tup ps] μ q x h.2 y hy⟩
theorem MkC.imp {fz : Bool} {c : Cl} {ct kc kc' : Ct} (h : MkC fz c ct kc) (i : ∀ ps μ q x, kc' ps μ q x → kc ps μ q x) : MkC fz c ct kc' := fun ps μ q x z => h ps μ q x (i _ _ _ _ z)
/-- a comprehension over one name, its test f, its element g -/
theorem lcD_one {i : Nat} {own : List Nat} {dt : DT} {de : DE} {ρ : En} {q : List PV → Mu → Prop} {μ : Mu} (f : PV → Bool) (g : PV → PV) : ∀ (xs acc : List PV), (∀ x ∈ xs, ∀ k : Bool → Mu → Prop, k (f x) μ → dt ((wipeE ρ own).set i (some x)) μ k noX) → (∀ x ∈ xs, f x = true → ∀ k : QV, k (g x) μ → de ((wipeE ρ own).set i (some x)) μ k noX) →
    q (acc ++ (xs.filter f).map g) μ → Lk (lcD (.one i) own dt de ρ q xs acc μ)
  | [], acc, _, _, h => lcD_n rfl (by simpa using h)
  | x :: xs, acc, h1, h2, h => by
    refine lcD_c rfl ?_
    show dt ((wipeE ρ own).set i (some x)) μ _ noX
    refine h1 x List.mem_cons_self _ ?_
    cases e : f x with
    | true =>
      refine brT rfl ?_
      refine h2 x List.mem_cons_self e _ (lcD_one f g xs _ (fun y hy => h1 y (List.mem_cons_of_mem _ hy)) (fun y hy => h2 y (List.mem_cons_of_mem _ hy)) ?_)
      rw [List.filter_cons_of_pos e] at h
      simpa using h
    | false =>
      refine brF rfl ?_
      refine lcD_one f g xs _ (fun y hy => h1 y (List.mem_cons_of_mem _ hy)) (fun y hy => h2 y (List.mem_cons_of_mem _ hy)) ?_
      rw [List.filter_cons_of_neg (by simp [e])] at h
      exact h
/-- without a test -/
theorem lcD_map {i : Nat} {own : List Nat} {de : DE} {ρ : En} {q : List PV → Mu → Prop} {μ : Mu} (g : PV → PV) (xs acc : List PV) (h2 : ∀ x ∈ xs, ∀ k : QV, k (g x) μ → de ((wipeE ρ own).set i (some x)) μ k noX)
    (h : q (acc ++ xs.map g) μ) : Lk (lcD (.one i) own dYes de ρ q xs acc μ) := by
  refine lcD_one (fun _ => true) g xs acc (fun x _ k hk => hk) (fun x hx _ => h2 x hx) ?_
  rwa [List.filter_eq_self.mpr (fun _ _ => rfl)]
end Px
namespace GE
open PySem PySem.SeqAt
open AutoSeq1 (wpAny_loadPart')
open MeetsSeq MeetsSeq2 MeetsSeq3 SeqRoads2
section
variable {prog : Program} {w : World} {A : Around} {R : Result → Shared → Prop}
/-- at each turn the two lists are read anew: N items each; the i-th two are equal, or it ends by D -/
def ListJ (prog : Program) (w : World) (A : Around) (E : Value → Shared → Prop) (D : Shared → Prop) (l b : Addr) (N : Nat) (I : Nat → Shared → Prop) : Prop :=
  ∀ i s, I i s → ∃ (items items2 : Array Value) (n n2 : Nat), s.heap.get? l = some { cls := .type "list", data := .seq items n } ∧ s.heap.get? b = some { cls := .type "list", data := .seq items2 n2 } ∧ items.size = N ∧ items2.size = N ∧
    ∀ (h1 : i < items.size) (h2 : i < items2.size), wpAny (model prog w) A.in1 (eqBool items[i] items2[i]) (fun r s' => (r = true ∧ I (i + 1) s') ∨ (r = false ∧ (∃ (its its2 : Array Value) (m m2 : Nat), s'.heap.get? l = some { cls := .type "list", data := .seq its m } ∧ s'.heap.get? b = some { cls := .type "list", data := .seq its2 m2 } ∧ its.size = N ∧ its2.size = N) ∧ D s')) E s
theorem tuple_eqG (l b : Addr) (items items2 : Array Value) (n n2 : Nat) (dd dd2 : Option Addr) (sl sl2 : Array (Option Value)) (I : Nat → Shared → Prop)
    (turn : ∀ i (h1 : i < items.size) (h2 : i < items2.size) s, I i s → wpAny (model prog w) A.in1 (eqBool items[i] items2[i]) (fun r s' => (r = true ∧ I (i + 1) s') ∨ (r = false ∧ R (.ok (.ret (.bool false))) s')) (fun e s' => R (.error e) s') s)
    (fin : ∀ s, I (min items.size items2.size) s → R (.ok (.ret (.bool ((items.size == items2.size))))) s) {s : Shared} (hl1 : s.heap.get? l = some { cls := .type "tuple", dict := dd, data := .seq items n, slots := sl }) (hb1 : s.heap.get? b = some { cls := .type "tuple", dict := dd2, data := .seq items2 n2, slots := sl2 }) (h : I 0 s) :
    wpAny (model prog w) A.in1 (Builtin.«tuple.__eq__» ⟨[.ref l, .ref b], []⟩) (GQ.FinOf prog w A R) (fun e s' => R (.error e) s') s := by
  have f2 := AutoSeq1.sub_tuple_tuple
  have hZ : (items.toList.zip items2.toList).length = min items.size items2.size := by simp
  have h0 := h
  obtain ⟨hp, g, d, tk, os⟩ := s
  wp_walk using wpAny_loadPart' hl1, wpAny_loadPart' hb1, wpAny_forIn_list _ (fun rest b s' => b.1 = none ∧ ∃ i, rest = (items.toList.zip items2.toList).drop i ∧ i ≤ min items.size items2.size ∧ I i s') _
  case turn =>
    rintro ⟨y, x⟩ rest b s' ⟨hb', i, hz, hi, hI⟩
    have hlt : i < (items.toList.zip items2.toList).length := by
      rcases Nat.lt_or_ge i (items.toList.zip items2.toList).length with h' | h'
      · exact h'
      · rw [List.drop_of_length_le h'] at hz; cases hz
    have hm : i < min items.size items2.size := hZ ▸ hlt
    have h1 : i < items.size := Nat.lt_of_lt_of_le hm (Nat.min_le_left _ _)
    have h2 : i < items2.size := Nat.lt_of_lt_of_le hm (Nat.min_le_right _ _)
    rw [List.drop_eq_getElem_cons hlt] at hz
    injection hz with hyx hrest
    have hy : y = items[i] := by have := congrArg Prod.fst hyx; simpa using this
    have hx : x = items2[i] := by have := congrArg Prod.snd hyx; simpa using this
    subst hy hx
    refine wpAny_bind (wpAny_mono (turn i h1 h2 s' hI) (fun r s2 q2 => ?_) fun _ _ x => x)
    rcases q2 with ⟨hr, q2⟩ | ⟨hr, q2⟩
    · subst hr
      wp_walk
      exact ⟨rfl, i + 1, hrest, hm, q2⟩
    · subst hr
      wp_walk
      exact q2
  case fin =>
    rintro ⟨b1, b2⟩ s' ⟨hb', i, hz, hi, hI⟩
    simp only at hb'
    subst hb'
    have hge : min items.size items2.size ≤ i := by
      rcases Nat.lt_or_ge i (items.toList.zip items2.toList).length with h' | h'
      · rw [List.drop_eq_getElem_cons h'] at hz; cases hz
      · exact hZ ▸ h'
    have hi' : i = min items.size items2.size := by omega
    have hR := fin s' (hi' ▸ hI)
    wp_walk
    first | exact hR | simpa [Builtin.Tuple.tupleCompareSizes] using hR | exact ⟨_, rfl, by simpa [Builtin.Tuple.tupleCompareSizes] using hR⟩
  case h =>
    exact ⟨rfl, 0, rfl, Nat.zero_le _, h0⟩
theorem eq_loopG (l b : Addr) (N : Nat) (I : Nat → Shared → Prop) (hl : ListJ prog w A (fun e s' => R (.error e) s') (fun s' => R (.ok (.ret (.bool false))) s') l b N I)
    (fin : ∀ s, I N s → R (.ok (.ret (.bool (!false)))) s) (k : Nat) :
    ∀ i : Nat, N - i = k → i ≤ N → ∀ s, I i s →
      wpAny (model prog w) A.in1 (Builtin.«list.__eq__.loop» ⟨[.ref l, .ref b, rawInt i, rawInt 2], []⟩) (GQ.FinOf prog w A R) (fun e s' => R (.error e) s') s := by
  induction k with
  | zero =>
    intro i hk hi s h
    obtain ⟨items, items2, n, n2, hl1, hb1, hs1, hs2, _⟩ := hl _ _ h
    have hi' : i = N := by omega
    have hR : R (.ok (.ret (.bool (!false)))) s := fin s (hi' ▸ h)
    obtain ⟨hp, g, d, tk, os⟩ := s
    wp_walk using wpAny_loadPart' hl1, wpAny_loadPart' hb1
    have hi1 : items[((i : Nat) : Int).toNat]? = none := by simp; omega
    have hi2 : items2[((i : Nat) : Int).toNat]? = none := by simp; omega
    rw [hi1, hi2]
    wp_walk using wpAny_loadPart' hl1, wpAny_loadPart' hb1
    show R (.ok (.ret (.bool (items.size == items2.size)))) _
    rw [hs1, hs2]
    simpa using hR
  | succ k ih =>
    intro i hk hi s h
    obtain ⟨items, items2, n, n2, hl1, hb1, hs1, hs2, turn⟩ := hl _ _ h
    have hlt : i < items.size := by omega
    have hlt2 : i < items2.size := by omega
    have ht := turn hlt hlt2
    obtain ⟨hp, g, d, tk, os⟩ := s
    wp_walk using wpAny_loadPart' hl1, wpAny_loadPart' hb1
    have hi1 : items[((i : Nat) : Int).toNat]? = some items[i] := by simp [hlt]
    have hi2 : items2[((i : Nat) : Int).toNat]? = some items2[i] := by simp [hlt2]
    have hc : ((i : Int) + 1) = ((i + 1 : Nat) : Int) := by omega
    rw [hi1, hi2]
    refine wpAny_bind (wpAny_mono ht (fun r s2 h2 => ?_) fun _ _ x => x)
    rcases h2 with ⟨hr, h2⟩ | ⟨hr, h2⟩
    · subst hr
      have hrec := ih (i + 1) (by omega) (by omega) s2 h2
      obtain ⟨hp2, g2, d2, tk2, os2⟩ := s2
      wp_walk
      rw [hc]
      exact ⟨plainId_quiet plain_eq_loop _, codeAny_builtin entry_eq_loop (by
        rw [Around.under_plainId plain_eq_loop _]
        exact hrec)⟩
    · subst hr
      obtain ⟨⟨its, its2, m, m2, hl2, hb2, ht1, ht2⟩, h2⟩ := h2
      obtain ⟨hp2, g2, d2, tk2, os2⟩ := s2
      wp_walk using wpAny_loadPart' hl2, wpAny_loadPart' hb2
      have hi3 : its[((i : Nat) : Int).toNat]? = some its[i] := by simp
      have hi4 : its2[((i : Nat) : Int).toNat]? = some its2[i] := by simp
      rw [hi3, hi4]
      wp_walk
      exact h2
theorem list_eqG (l b : Addr) (N : Nat) (I : Nat → Shared → Prop) (hl : ListJ prog w A (fun e s' => R (.error e) s') (fun s' => R (.ok (.ret (.bool false))) s') l b N I)
    (fin : ∀ s, I N s → R (.ok (.ret (.bool (!false)))) s) {s : Shared} (h : I 0 s) :
    wpAny (model prog w) A.in1 (Builtin.«list.__eq__» ⟨[.ref l, .ref b], []⟩) (GQ.FinOf prog w A R) (fun e s' => R (.error e) s') s := by
  obtain ⟨items, items2, n, n2, hl1, hb1, hs1, hs2, _⟩ := hl _ _ h
  have hrec := eq_loopG (A := A) (R := R) l b N I hl fin _ 0 rfl (Nat.zero_le _) s h
  obtain ⟨hp, g, d, tk, os⟩ := s
  have f3 := AutoSeq1.sub_list_list
  have hne : ¬ (items.size != items2.size) = true := by simp [hs1, hs2]
  wp_walk using wpAny_loadPart' hl1, wpAny_loadPart' hb1
  exact ⟨plainId_quiet plain_eq_loop _, codeAny_builtin entry_eq_loop (by
    rw [Around.under_plainId plain_eq_loop _]
    exact hrec)⟩
theorem list_eqD (l b : Addr) {items items2 : Array Value} {n n2 : Nat} {s : Shared} (hl1 : s.heap.get? l = some { cls := .type "list", data := .seq items n }) (hb1 : s.heap.get? b = some { cls := .type "list", data := .seq items2 n2 }) (hne : items.size ≠ items2.size) (h : R (.ok (.ret (.bool false))) s) :
    wpAny (model prog w) A.in1 (Builtin.«list.__eq__» ⟨[.ref l, .ref b], []⟩) (GQ.FinOf prog w A R) (fun e s' => R (.error e) s') s := by
  obtain ⟨hp, g, d, tk, os⟩ := s
  have f3 := AutoSeq1.sub_list_list
  have hne : (items.size != items2.size) = true := by simp [hne]
  wp_walk using wpAny_loadPart' hl1, wpAny_loadPart' hb1
  all_goals first | exact h | simpa using h | skip
theorem tuple_neG (l b : Addr) (items items2 : Array Value) (n n2 : Nat) (dd dd2 : Option Addr) (sl sl2 : Array (Option Value)) (I : Nat → Shared → Prop)
    (turn : ∀ i (h1 : i < items.size) (h2 : i < items2.size) s, I i s → wpAny (model prog w) A.in1 (eqBool items[i] items2[i]) (fun r s' => (r = true ∧ I (i + 1) s') ∨ (r = false ∧ R (.ok (.ret (.bool true))) s')) (fun e s' => R (.error e) s') s)
    (fin : ∀ s, I (min items.size items2.size) s → R (.ok (.ret (.bool (!(items.size == items2.size))))) s) {s : Shared} (hl1 : s.heap.get? l = some { cls := .type "tuple", dict := dd, data := .seq items n, slots := sl }) (hb1 : s.heap.get? b = some { cls := .type "tuple", dict := dd2, data := .seq items2 n2, slots := sl2 }) (h : I 0 s) :
    wpAny (model prog w) A.in1 (Builtin.«tuple.__ne__» ⟨[.ref l, .ref b], []⟩) (GQ.FinOf prog w A R) (fun e s' => R (.error e) s') s := by
  have f2 := AutoSeq1.sub_tuple_tuple
  have hZ : (items.toList.zip items2.toList).length = min items.size items2.size := by simp
  have h0 := h
  obtain ⟨hp, g, d, tk, os⟩ := s
  wp_walk using wpAny_loadPart' hl1, wpAny_loadPart' hb1, wpAny_forIn_list _ (fun rest b s' => b.1 = none ∧ ∃ i, rest = (items.toList.zip items2.toList).drop i ∧ i ≤ min items.size items2.size ∧ I i s') _
  case turn =>
    rintro ⟨y, x⟩ rest b s' ⟨hb', i, hz, hi, hI⟩
    have hlt : i < (items.toList.zip items2.toList).length := by
      rcases Nat.lt_or_ge i (items.toList.zip items2.toList).length with h' | h'
      · exact h'
      · rw [List.drop_of_length_le h'] at hz; cases hz
    have hm : i < min items.size items2.size := hZ ▸ hlt
    have h1 : i < items.size := Nat.lt_of_lt_of_le hm (Nat.min_le_left _ _)
    have h2 : i < items2.size := Nat.lt_of_lt_of_le hm (Nat.min_le_right _ _)
    rw [List.drop_eq_getElem_cons hlt] at hz
    injection hz with hyx hrest
    have hy : y = items[i] := by have := congrArg Prod.fst hyx; simpa using this
    have hx : x = items2[i] := by have := congrArg Prod.snd hyx; simpa using this
    subst hy hx
    refine wpAny_bind (wpAny_mono (turn i h1 h2 s' hI) (fun r s2 q2 => ?_) fun _ _ x => x)
    rcases q2 with ⟨hr, q2⟩ | ⟨hr, q2⟩
    · subst hr
      wp_walk
      exact ⟨rfl, i + 1, hrest, hm, q2⟩
    · subst hr
      wp_walk
      exact q2
  case fin =>
    rintro ⟨b1, b2⟩ s' ⟨hb', i, hz, hi, hI⟩
    simp only at hb'
    subst hb'
    have hge : min items.size items2.size ≤ i := by
      rcases Nat.lt_or_ge i (items.toList.zip items2.toList).length with h' | h'
      · rw [List.drop_eq_getElem_cons h'] at hz; cases hz
      · exact hZ ▸ h'
    have hi' : i = min items.size items2.size := by omega
    have hR := fin s' (hi' ▸ hI)
    wp_walk
    first | exact hR | simpa [Builtin.Tuple.tupleCompareSizes] using hR | exact ⟨_, rfl, by simpa [Builtin.Tuple.tupleCompareSizes] using hR⟩
  case h =>
    exact ⟨rfl, 0, rfl, Nat.zero_le _, h0⟩
theorem ne_loopG (l b : Addr) (N : Nat) (I : Nat → Shared → Prop) (hl : ListJ prog w A (fun e s' => R (.error e) s') (fun s' => R (.ok (.ret (.bool true))) s') l b N I)
    (fin : ∀ s, I N s → R (.ok (.ret (.bool (!true)))) s) (k : Nat) :
    ∀ i : Nat, N - i = k → i ≤ N → ∀ s, I i s →
      wpAny (model prog w) A.in1 (Builtin.«list.__eq__.loop» ⟨[.ref l, .ref b, rawInt i, rawInt 3], []⟩) (GQ.FinOf prog w A R) (fun e s' => R (.error e) s') s := by
  induction k with
  | zero =>
    intro i hk hi s h
    obtain ⟨items, items2, n, n2, hl1, hb1, hs1, hs2, _⟩ := hl _ _ h
    have hi' : i = N := by omega
    have hR : R (.ok (.ret (.bool (!true)))) s := fin s (hi' ▸ h)
    obtain ⟨hp, g, d, tk, os⟩ := s
    wp_walk using wpAny_loadPart' hl1, wpAny_loadPart' hb1
    have hi1 : items[((i : Nat) : Int).toNat]? = none := by simp; omega
    have hi2 : items2[((i : Nat) : Int).toNat]? = none := by simp; omega
    rw [hi1, hi2]
    wp_walk using wpAny_loadPart' hl1, wpAny_loadPart' hb1
    show R (.ok (.ret (.bool (items.size != items2.size)))) _
    rw [hs1, hs2]
    simpa using hR
  | succ k ih =>
    intro i hk hi s h
    obtain ⟨items, items2, n, n2, hl1, hb1, hs1, hs2, turn⟩ := hl _ _ h
    have hlt : i < items.size := by omega
    have hlt2 : i < items2.size := by omega
    have ht := turn hlt hlt2
    obtain ⟨hp, g, d, tk, os⟩ := s
    wp_walk using wpAny_loadPart' hl1, wpAny_loadPart' hb1
    have hi1 : items[((i : Nat) : Int).toNat]? = some items[i] := by simp [hlt]
    have hi2 : items2[((i : Nat) : Int).toNat]? = some items2[i] := by simp [hlt2]
    have hc : ((i : Int) + 1) = ((i + 1 : Nat) : Int) := by omega
    rw [hi1, hi2]
    refine wpAny_bind (wpAny_mono ht (fun r s2 h2 => ?_) fun _ _ x => x)
    rcases h2 with ⟨hr, h2⟩ | ⟨hr, h2⟩
    · subst hr
      have hrec := ih (i + 1) (by omega) (by omega) s2 h2
      obtain ⟨hp2, g2, d2, tk2, os2⟩ := s2
      wp_walk
      rw [hc]
      exact ⟨plainId_quiet plain_eq_loop _, codeAny_builtin entry_eq_loop (by
        rw [Around.under_plainId plain_eq_loop _]
        exact hrec)⟩
    · subst hr
      obtain ⟨⟨its, its2, m, m2, hl2, hb2, ht1, ht2⟩, h2⟩ := h2
      obtain ⟨hp2, g2, d2, tk2, os2⟩ := s2
      wp_walk using wpAny_loadPart' hl2, wpAny_loadPart' hb2
      have hi3 : its[((i : Nat) : Int).toNat]? = some its[i] := by simp
      have hi4 : its2[((i : Nat) : Int).toNat]? = some its2[i] := by simp
      rw [hi3, hi4]
      wp_walk
      exact h2
theorem list_neG (l b : Addr) (N : Nat) (I : Nat → Shared → Prop) (hl : ListJ prog w A (fun e s' => R (.error e) s') (fun s' => R (.ok (.ret (.bool true))) s') l b N I)
    (fin : ∀ s, I N s → R (.ok (.ret (.bool (!true)))) s) {s : Shared} (h : I 0 s) :
    wpAny (model prog w) A.in1 (Builtin.«list.__ne__» ⟨[.ref l, .ref b], []⟩) (GQ.FinOf prog w A R) (fun e s' => R (.error e) s') s := by
  obtain ⟨items, items2, n, n2, hl1, hb1, hs1, hs2, _⟩ := hl _ _ h
  have hrec := ne_loopG (A := A) (R := R) l b N I hl fin _ 0 rfl (Nat.zero_le _) s h
  obtain ⟨hp, g, d, tk, os⟩ := s
  have f3 := AutoSeq1.sub_list_list
  have hne : ¬ (items.size != items2.size) = true := by simp [hs1, hs2]
  wp_walk using wpAny_loadPart' hl1, wpAny_loadPart' hb1
  exact ⟨plainId_quiet plain_eq_loop _, codeAny_builtin entry_eq_loop (by
    rw [Around.under_plainId plain_eq_loop _]
    exact hrec)⟩
theorem list_neD (l b : Addr) {items items2 : Array Value} {n n2 : Nat} {s : Shared} (hl1 : s.heap.get? l = some { cls := .type "list", data := .seq items n }) (hb1 : s.heap.get? b = some { cls := .type "list", data := .seq items2 n2 }) (hne : items.size ≠ items2.size) (h : R (.ok (.ret (.bool true))) s) :
    wpAny (model prog w) A.in1 (Builtin.«list.__ne__» ⟨[.ref l, .ref b], []⟩) (GQ.FinOf prog w A R) (fun e s' => R (.error e) s') s := by
  obtain ⟨hp, g, d, tk, os⟩ := s
  have f3 := AutoSeq1.sub_list_list
  have hne : (items.size != items2.size) = true := by simp [hne]
  wp_walk using wpAny_loadPart' hl1, wpAny_loadPart' hb1
  all_goals first | exact h | simpa using h | skip
end
end GE
namespace Px
open PySem PySem.Spec PyProof.Rows L2
def andO : Option Bool → Option Bool → Option Bool
  | some true, y => y
  | some false, _ => some false
  | none, _ => none
theorem andO_inv {x y : Option Bool} {k : Bool} (h : andO x y = some k) : (x = some false ∧ k = false) ∨ (x = some true ∧ y = some k) := by
  unfold andO at h
  split at h
  · exact .inr ⟨rfl, h⟩
  · cases h; exact .inl ⟨rfl, rfl⟩
  · cases h
def peqs (f : PV → PV → Option Bool) : List PV → List PV → Option Bool
  | [], [] => some true
  | x :: xs, y :: ys => andO (f x y) (peqs f xs ys)
  | _, _ => some false
/-- how an object of a class is compared: its fields, the other -/
abbrev Qf := List PV → PV → Option Bool
abbrev Qt := List (Cl × Qf)
def lookQ : Qt → Cl → Option Qf
  | [], _ => none
  | (d, f) :: r, c => (match decEq c d with
    | .isTrue _ => some f
    | .isFalse _ => lookQ r c)
theorem lookQ_mem {c : Cl} {f : Qf} : ∀ {Q : Qt}, lookQ Q c = some f → (c, f) ∈ Q
  | [], h => by cases h
  | (d, g) :: r, h => by
    unfold lookQ at h
    split at h
    · rename_i e _
      cases h
      rw [e]
      exact List.mem_cons_self
    · exact List.mem_cons_of_mem _ (lookQ_mem h)
/-- the object at the right is asked first: its class is a proper subclass -/
def prsub (d c : Cl) : Bool := match decEq d c with
  | .isTrue _ => false
  | .isFalse _ => subCl d c
def deqO (Q : Qt) (c : Cl) (xs : List PV) (b : PV) : Option Bool := match b with
  | .obj d ys => (match prsub d c with
    | true => (match lookQ Q d with
      | some f => f ys (.obj c xs)
      | none => none)
    | false => (match lookQ Q c with
      | some f => f xs (.obj d ys)
      | none => none))
  | .int _ | .str _ | .bl _ | .non | .tup _ | .lst _ => (match lookQ Q c with
      | some f => f xs b
      | none => none)
  | _ => none
def deq (Q : Qt) : Nat → PV → PV → Option Bool
  | t, .obj c xs, b => deqO Q c xs b
  | t + 1, .tup xs, .tup ys => peqs (deq Q t) xs ys
  | t + 1, .lst xs, .lst ys => (match Nat.beq xs.length ys.length with
    | true => peqs (deq Q t) xs ys
    | false => some false)
  | _, a, b => eqS a b
/-- a list's cell as the list that it is now -/
def rdL (μ : Mu) (p : PV) : PV := match p with
  | .cell a => (match μ a with
    | some (.lst xs) => .lst xs
    | _ => p)
  | _ => p
/-- what the own == of the class keeps -/
def cEq (c : Cl) (f : Qf) : Ct := fun as μ q _ => match as with
  | [.obj d xs, b] => (match decEq d c with
    | .isTrue _ => (match f xs b with
      | some k => q (.bl k) μ
      | none => False)
    | .isFalse _ => False)
  | _ => False
theorem cEq_of {c : Cl} {f : Qf} {xs : List PV} {b : PV} {μ : Mu} {q : QV} {x : QX} {k : Bool} (h : f xs b = some k) (hq : q (.bl k) μ) : cEq c f [.obj c xs, b] μ q x := by
  unfold cEq
  have e : decEq c c = .isTrue rfl := by
    cases decEq c c with
    | isTrue _ => rfl
    | isFalse z => exact absurd rfl z
  simp only [e, h]
  exact hq
/-- two that stand at one place come out equal -/
def Same (f : PV → PV → Option Bool) : Prop := ∀ (X : Cx) (pins : List (Addr × Obj)) (s : Shared) (σ : L2.St) (H : Hp) (B : BX) (μ : Mu) (G : Hp) (a b : PV) (v : V) (k : Bool), KA X.K → Inv X pins σ H s → Ok X.K B μ G H → Rep X.K B G a v → Rep X.K B G b v → f a b = some k → k = true
def SameO (c : Cl) (f : Qf) : Prop := ∀ (X : Cx) (pins : List (Addr × Obj)) (s : Shared) (σ : L2.St) (H : Hp) (B : BX) (μ : Mu) (G : Hp) (xs ys : List PV) (vs : List V) (k : Bool), KA X.K → Inv X pins σ H s → Ok X.K B μ G H → Reps X.K B G xs vs → Reps X.K B G ys vs → f xs (.obj c ys) = some k → k = true
theorem subCl_refl (c : Cl) : subCl c c = true := by unfold subCl; simp
theorem prsub_self (c : Cl) : prsub c c = false := by
  unfold prsub
  cases decEq c c with
  | isTrue _ => rfl
  | isFalse z => exact absurd rfl z
theorem subCl_anti {c d : Cl} (h1 : subCl c d = true) (h2 : subCl d c = true) : c = d := by
  by_cases e : c = d
  · exact e
  · unfold subCl at h1 h2
    rw [decide_eq_false e, Bool.false_or] at h1
    rw [decide_eq_false (Ne.symm e), Bool.false_or] at h2
    split at h1 <;> first | exact absurd h1 (by decide) | exact absurd h2 (by decide)
theorem ca_inj {K : Frg} (ka : KA K) {c d : Cl} (hc : kcB K c = true) (hd : kcB K d = true) (e : ca K c = ca K d) : c = d := by
  have kn : ∀ {x : Cl}, kcB K x = true → knB K x = true := fun h => by unfold knB; rw [h] <;> rfl
  have a1 := ka.oo c d hc (kn hd)
  have a2 := ka.oo c c hc (kn hc)
  have b1 := ka.oo d c hd (kn hc)
  rw [e] at a1 b1
  have a3 := ka.oo d d hd (kn hd)
  refine subCl_anti ?_ ?_
  · rw [a3] at a1
    rw [← Option.some.inj a1]; exact subCl_refl d
  · rw [a3] at b1
    rw [← Option.some.inj b1]; exact subCl_refl d
theorem zip_inj {gs : List Str} : ∀ {vs ws : List V}, vs.length = gs.length → ws.length = gs.length → gs.zip vs = gs.zip ws → vs = ws := by
  induction gs with
  | nil => intro vs ws h1 h2 _; rw [List.eq_nil_of_length_eq_zero h1, List.eq_nil_of_length_eq_zero h2]
  | cons g gs ih =>
    intro vs ws h1 h2 h
    match vs, ws, h1, h2 with
    | v :: vs, w :: ws, h1, h2 =>
      simp only [List.zip_cons_cons, List.cons.injEq, Prod.mk.injEq, true_and] at h
      rw [h.1, ih (by simpa using h1) (by simpa using h2) h.2]
theorem sqT_fun {X : Cx} {pins : List (Addr × Obj)} {s : Shared} {σ : L2.St} {H : Hp} {a : Addr} {vs ws : List V} (J : Inv X pins σ H s) (h1 : SqT X.K H a vs) (h2 : SqT X.K H a ws) : vs = ws := by
  obtain ⟨its, r, p, _⟩ := J.tuple h1
  obtain ⟨its2, r2, p2, _⟩ := J.tuple h2
  obtain ⟨o, e, _, n, d⟩ := p
  obtain ⟨o2, e2, _, n2, d2⟩ := p2
  rw [e] at e2
  cases e2
  rw [d] at d2
  have : its.toArray = its2.toArray := by injection d2
  have : its = its2 := by simpa using this
  rw [this] at r
  exact r.inj r2
theorem same_eqS : Same eqS := fun X pins s σ H B μ G a b v k ka J o ra rb h => by
  obtain ⟨_, e⟩ := eqS_ok h ra rb
  rw [← e]
  simp
theorem same_peqs {f : PV → PV → Option Bool} (hf : Same f) : ∀ {X : Cx} {pins : List (Addr × Obj)} {s : Shared} {σ : L2.St} {H : Hp} {B : BX} {μ : Mu} {G : Hp} {xs ys : List PV} {vs : List V} {k : Bool}, KA X.K → Inv X pins σ H s → Ok X.K B μ G H → Reps X.K B G xs vs → Reps X.K B G ys vs → peqs f xs ys = some k → k = true
  | X, pins, s, σ, H, B, μ, G, [], ys, vs, k, ka, J, o, rx, ry, h => by
    obtain rfl := rx.nil_inv
    cases ys with
    | nil => cases h; rfl
    | cons y ys => obtain ⟨_, _, e, _⟩ := ry.cons_inv; cases e
  | X, pins, s, σ, H, B, μ, G, x :: xs, ys, vs, k, ka, J, o, rx, ry, h => by
    obtain ⟨v, ws, rfl, r1, r2⟩ := rx.cons_inv
    cases ys with
    | nil => cases ry.nil_inv
    | cons y ys =>
      obtain ⟨v', ws', e, q1, q2⟩ := ry.cons_inv
      cases e
      rcases andO_inv h with ⟨h1, _⟩ | ⟨_, h2⟩
      · exact absurd (hf X pins s σ H B μ G x y v false ka J o r1 q1 h1) (by decide)
      · exact same_peqs hf ka J o r2 q2 h2
theorem same_obj {Q : Qt} (hQ : ∀ c f, (c, f) ∈ Q → SameO c f) (X : Cx) (pins : List (Addr × Obj)) (s : Shared) (σ : L2.St) (H : Hp) (B : BX) (μ : Mu) (G : Hp) (c : Cl) (xs : List PV) (b : PV) (v : V) (k : Bool) (ka : KA X.K) (J : Inv X pins σ H s) (o : Ok X.K B μ G H) (ra : Rep X.K B G (.obj c xs) v) (rb : Rep X.K B G b v) (h : deqO Q c xs b = some k) : k = true := by
  obtain ⟨p, dx, vs, rfl, kc, ea, hl, rs⟩ := ra.obj_inv
  cases b with
  | obj d ys =>
    obtain ⟨p2, dx2, ws, e, kc2, ea2, hl2, rs2⟩ := rb.obj_inv
    cases e
    rw [ea] at ea2
    have e2 := Option.some.inj ea2
    injection e2 with e3 e4 e5
    obtain rfl := ca_inj ka kc kc2 e3
    obtain rfl := zip_inj hl hl2 e5
    unfold deqO at h
    simp only [prsub_self] at h
    cases e : lookQ Q c with
    | none => simp only [e] at h; cases h
    | some f => simp only [e] at h; exact hQ c f (lookQ_mem e) X pins s σ H B μ G xs ys vs k ka J o rs rs2 h
  | int i => have := rb.int_inv; cases this
  | str i => have := rb.str_inv; cases this
  | bl i => have := rb.bl_inv; cases this
  | non => have := rb.non_inv; cases this
  | tup ys =>
    obtain ⟨p2, ws, e, sq, _⟩ := rb.tup_inv
    cases e
    rcases sq with sq | ⟨ob, its, n, lk, _⟩
    · rcases sq with sq | ⟨ob, sq⟩
      · rw [ea] at sq; cases sq
      · rw [ea] at sq; cases sq
    · have := (J.bs p ob (J.ok.mod.kin _ _ lk)).2
      rw [o.sub _ _ ea] at this; cases this
  | lst ys =>
    obtain ⟨p2, ws, e, sq, _⟩ := rb.lst_inv
    cases e
    rw [ea] at sq; cases sq
  | _ => cases h
theorem same_deq {Q : Qt} (hQ : ∀ c f, (c, f) ∈ Q → SameO c f) : ∀ t, Same (deq Q t) := by
  intro t
  induction t with
  | zero =>
    intro X pins s σ H B μ G a b v k ka J o ra rb h
    cases a with
    | obj c xs => exact same_obj hQ X pins s σ H B μ G c xs b v k ka J o ra rb h
    | _ => exact same_eqS X pins s σ H B μ G _ b v k ka J o ra rb h
  | succ t ih =>
    intro X pins s σ H B μ G a b v k ka J o ra rb h
    cases a with
    | obj c xs => exact same_obj hQ X pins s σ H B μ G c xs b v k ka J o ra rb h
    | tup xs =>
      cases b with
      | tup ys =>
        obtain ⟨p, vs, rfl, sq, rs⟩ := ra.tup_inv
        obtain ⟨p2, ws, e, sq2, rs2⟩ := rb.tup_inv
        cases e
        obtain rfl := sqT_fun J (o.sub.t sq) (o.sub.t sq2)
        exact same_peqs ih ka J o rs rs2 h
      | _ => exact same_eqS X pins s σ H B μ G _ _ v k ka J o ra rb h
    | lst xs =>
      cases b with
      | lst ys =>
        obtain ⟨p, vs, rfl, sq, rs⟩ := ra.lst_inv
        obtain ⟨p2, ws, e, sq2, rs2⟩ := rb.lst_inv
        cases e
        rw [sq] at sq2
        cases sq2
        have h : (match Nat.beq xs.length ys.length with | true => peqs (deq Q t) xs ys | false => some false) = some k := h
        have e : xs.length = ys.length := rs.length.symm.trans rs2.length
        rw [e, Nat.beq_refl] at h
        exact same_peqs ih ka J o rs rs2 h
      | _ => exact same_eqS X pins s σ H B μ G _ _ v k ka J o ra rb h
    | _ => exact same_eqS X pins s σ H B μ G _ b v k ka J o ra rb h
end Px
namespace PySem.W
open PySem PySem.Calls PyProof.Rows PyProof.V PySem.Spec
section
variable {prog : Program} {w : World} {A : Around} {E : Value → Shared → Prop} {s : Shared} {K : Frag} {x C y D L f : Addr} {h₀ : Heap} {m : Str → Option Value} {ox oy : Obj} {od od2 : Option Obj}
/-- the right one's class is a proper subclass: it is asked first -/
theorem cmp_R {op : CmpOp} {Q : Value → Shared → Prop} (hu : A.units < cLine) (F : Fr h₀ L s.heap m) (X₀ : K.In h₀) (I : InstAt s.heap x ox C od) (I2 : InstAt s.heap y oy D od2) (hne : D ≠ C) (hsub : subIn K (.ref D) (.ref C) = some true)
    (hs : findIn K (.ref D) (cmpInfo op).2.2 = some (some (.ref f))) (hf : isFn K (.ref f) = true)
    (h : wpAny (model prog w) A (call (.ref f) [.ref y, .ref x]) (CmpBack Q) E s) : wpAny (model prog w) A (richCompare op (.ref x) (.ref y)) Q E s := by
  have X := X₀.keeps F.keep
  have one : wpAny (model prog w) A (tryCompare (.ref y) (cmpInfo op).2.2 (.ref x)) (fun r s' => ∃ v, r = some v ∧ Q v s') E s := by
    unfold tryCompare
    refine wpAny_bind (ifBound_K X I2 hs hf (wpAny_mono h (fun v s' hv => ?_) fun _ _ e => e))
    cases v <;> first | exact hv.elim | exact wpAny_pure ⟨_, rfl, hv⟩
  unfold richCompare
  simp only [oneThing_ref]
  refine wpAny_holding (wpAny_bind (wpAny_cRoomFor hu ?_))
  refine wpAny_bind (I.type.here (wpAny_bind (I2.type.here ?_)))
  have hn : (Value.ref C != Value.ref D) = true := by
    simp only [bne_iff_ne, ne_eq, Value.ref.injEq]
    exact fun z => hne z.symm
  rw [if_pos hn]
  refine wpAny_bind ((looks_subIn X hsub).here ?_)
  simp only [if_true]
  refine wpAny_bind (wpAny_mono one (fun r s' z => ?_) fun _ _ e => e)
  obtain ⟨v, rfl, hq⟩ := z
  exact wpAny_bind (wpAny_rule (wpAny_pure hq))
end
end PySem.W
namespace Px
open PySem PySem.Spec PyProof.Rows L2
/-- room below, t builtins deep -/
structure RmT (k t : Nat) (A : Around) : Prop where
  dp : A.depth + 3 * k + 5 < recursionLimit
  un : A.units + t + 16 * k + 200 < cLine
  gd : A.guards = some []
theorem RmT.in1 {k t : Nat} {A : Around} (r : RmT k (t + 1) A) : RmT k t A.in1 := ⟨r.dp, by have := r.un; show A.units + 1 + t + 16 * k + 200 < _; omega, r.gd⟩
theorem RmT.rm {k t : Nat} {A : Around} (r : RmT k t A) : Rm k A := ⟨r.dp, by have := r.un; omega, r.gd⟩
theorem RmT.u {k t : Nat} {A : Around} (r : RmT k t A) : A.units < cLine := by have := r.un; omega
theorem RmT.of {k : Nat} {A : Around} (r : Rm (k + 1) A) : RmT k 16 A := ⟨by have := r.dp; omega, by have := r.un; omega, r.gd⟩
/-- the own == of the classes of Q is known -/
structure QOk (X : Cx) (k : Nat) (Q : Qt) : Prop where
  ka : KA X.K
  calm : Q ≠ [] → X.calm = true
  ok : ∀ c f, (c, f) ∈ Q → SameO c f ∧ kcB X.K c = true ∧ ∃ g, Meth X.K (ca X.K c) "__eq__" g ∧ FnS false X.prog X.w X.K X.mg X.base k g [] (spP X.K (cEq c f))
section
variable {X : Cx} {k : Nat} {Q : Qt}
/-- what a comparison leaves -/
def Aft (X : Cx) (pins : List (Addr × Obj)) (σ : L2.St) (B : BX) (μ : Mu) (G H : Hp) (s' : Shared) : Prop := ∃ G' H', Go X.K B μ G H μ G' H' ∧ Inv X pins σ H' s'
theorem run_eq {A' : Around} {pins : List (Addr × Obj)} {σ : L2.St} {H G : Hp} {B : BX} {μ : Mu} {s : Shared} {g : Addr} {c : Cl} {f : Qf} {xs : List PV} {b : PV} {va vb : V} {u w : Value} {r : Bool} (F : FnS false X.prog X.w X.K X.mg X.base k g [] (spP X.K (cEq c f))) (hc : X.calm = true) (hf : A'.frames = X.A.frames) (hh : A'.handled = X.A.handled) (hr : Rm k A')
    (J : Inv X pins σ H s) (o : Ok X.K B μ G H) (ra : Rep X.K B G (.obj c xs) va) (rb : Rep X.K B G b vb) (ru : RelV va u) (rw' : RelV vb w) (h : f xs b = some r) :
    wpAny (model X.prog X.w) A' (call (.ref g) [u, w]) (PySem.W.CmpBack fun v s' => v = .bool r ∧ Aft X pins σ B μ G H s') X.xe s := by
  refine wpAny_mono (run_in (E := X.xe) (Q := fun v H' => v = .bl r ∧ ∃ G', Go X.K B μ G H μ G' H') F (.inl hc) hf hh hr J (.cons ru (.cons rw' .nil)) (spP_ok (q := fun p μ' => p = .bl r ∧ μ' = μ) o (.cons ra (.cons rb .nil)) (cEq_of h ⟨rfl, rfl⟩) fun p v μ' G' H' hp gg rr => ?_)) (fun v s' hv => ?_) fun _ _ z => z
  · obtain ⟨rfl, rfl⟩ := hp
    exact ⟨rr.bl_inv, G', gg⟩
  · obtain ⟨z, H', J', rz, rfl, G', gg⟩ := hv
    cases rz
    exact ⟨rfl, G', H', gg, J'⟩
theorem rc_obj (q : QOk X k Q) {A' : Around} {t : Nat} {pins : List (Addr × Obj)} {σ : L2.St} {H G : Hp} {B : BX} {μ : Mu} {s : Shared} {c : Cl} {xs : List PV} {b : PV} {va vb : V} {u w : Value} {r : Bool} (hf : A'.frames = X.A.frames) (hh : A'.handled = X.A.handled) (hr : RmT k t A')
    (J : Inv X pins σ H s) (o : Ok X.K B μ G H) (ra : Rep X.K B G (.obj c xs) va) (rb : Rep X.K B G b vb) (ru : RelV va u) (rw' : RelV vb w) (h : deqO Q c xs b = some r) :
    wpAny (model X.prog X.w) A' (richCompare .Eq u w) (fun v s' => v = .bool r ∧ Aft X pins σ B μ G H s') X.xe s := by
  obtain ⟨x, dx, vs, ev, kc, ex, _⟩ := ra.obj_inv
  have ru' := ru
  rw [ev] at ru'
  obtain rfl : u = Value.ref x := ru'
  obtain ⟨od, I⟩ := inst_at J (o.sub _ _ ex)
  obtain ⟨mm, fr⟩ := J.fr
  obtain ⟨tb, tob⟩ := tyX_of o rb
  have main : ∀ {tv : Value} {f : Qf}, TyX X.K H vb tv → PySem.W.notFirst X.K (ca X.K c) tv = true → lookQ Q c = some f → f xs b = some r → wpAny (model X.prog X.w) A' (richCompare .Eq (.ref x) w) (fun v s' => v = .bool r ∧ Aft X pins σ B μ G H s') X.xe s := fun {tv f} tx nf el hf' => by
    obtain ⟨_, _, g, me, F⟩ := q.ok c f (lookQ_mem el)
    have hc := q.calm fun z => by rw [z] at el; cases el
    obtain ⟨P, kx, hP, _⟩ := kit_of J rw' tx
    exact PySem.W.cmp_K (op := .Eq) hr.u fr J.ok.mod.kin I (kx.ty _ _ J.kIn hP) nf me.at_ me.fn (run_eq F hc hf hh hr.rm J o ra rb ru rw' hf')
  have flat : ∀ {n : String}, TyX X.K H vb (.type n) → n ∈ tyn → (match lookQ Q c with | some f => f xs b | none => none) = some r → wpAny (model X.prog X.w) A' (richCompare .Eq (.ref x) w) (fun v s' => v = .bool r ∧ Aft X pins σ B μ G H s') X.xe s := fun {n} tx hn h => by
    cases el : lookQ Q c with
    | none => simp only [el] at h; cases h
    | some f =>
      simp only [el] at h
      refine main tx ?_ el h
      unfold PySem.W.notFirst
      rw [q.ka.st c kc n hn] <;> simp
  cases b with
  | obj d ys =>
    obtain ⟨y, dy, ws, ew, kd, ey, _⟩ := rb.obj_inv
    have h : (match prsub d c with | true => (match lookQ Q d with | some f => f ys (.obj c xs) | none => none) | false => (match lookQ Q c with | some f => f xs (.obj d ys) | none => none)) = some r := h
    cases ep : prsub d c with
    | true =>
      simp only [ep] at h
      cases el : lookQ Q d with
      | none => simp only [el] at h; cases h
      | some f =>
        simp only [el] at h
        have rw2 := rw'
        rw [ew] at rw2
        obtain rfl : w = Value.ref y := rw2
        obtain ⟨od2, I2⟩ := inst_at J (o.sub _ _ ey)
        obtain ⟨_, _, g, me, F⟩ := q.ok d f (lookQ_mem el)
        have hc := q.calm fun z => by rw [z] at el; cases el
        have hs : d ≠ c ∧ subCl d c = true := by
          unfold prsub at ep
          split at ep
          · cases ep
          · rename_i z _; exact ⟨z, ep⟩
        refine PySem.W.cmp_R (op := .Eq) hr.u fr J.ok.mod.kin I I2 (fun z => hs.1 (ca_inj q.ka kd kc z)) ((q.ka.sb d c kd kc).trans (by rw [hs.2])) me.at_ me.fn (run_eq F hc hf hh hr.rm J o rb ra rw' ru h)
    | false =>
      simp only [ep] at h
      cases el : lookQ Q c with
      | none => simp only [el] at h; cases h
      | some f =>
        simp only [el] at h
        refine main (tob d rfl).2 ?_ el h
        unfold PySem.W.notFirst
        unfold prsub at ep
        split at ep
        · rename_i z _; rw [z]; simp
        · rw [q.ka.sb d c kd kc, ep]; simp
  | int i => exact flat (tb _ rfl).2 (by decide) h
  | str i => exact flat (tb _ rfl).2 (by decide) h
  | bl i => exact flat (tb _ rfl).2 (by decide) h
  | non => exact flat (tb _ rfl).2 (by decide) h
  | tup i => exact flat (tb _ rfl).2 (by decide) h
  | lst i => exact flat (tb _ rfl).2 (by decide) h
  | _ => cases h
theorem eqS_flat {K : Frg} {B : BX} {G : Hp} {a b : PV} {va vb : V} {r : Bool} (h : eqS a b = some r) (ra : Rep K B G a va) (rb : Rep K B G b vb) : flatV va = true ∧ flatV vb = true ∧ eqV va vb = r := by
  have fa : flatP a = true := by cases a <;> cases b <;> first | rfl | cases h
  have fb : flatP b = true := by cases a <;> cases b <;> first | rfl | cases h
  refine ⟨flat_ok ra fa, flat_ok rb fb, ?_⟩
  rw [eqF_ok ra rb fa fb]
  cases a <;> cases b <;> cases h <;> first | rfl | (rw [Bool.eq_iff_iff]; simp [eqF])
/-- == of two, somewhere within a builtin -/
def EB (X : Cx) (k t : Nat) (f : PV → PV → Option Bool) : Prop := ∀ (A' : Around) (pins : List (Addr × Obj)) (σ : L2.St) (H G : Hp) (B : BX) (μ : Mu) (s : Shared) (a b : PV) (va vb : V) (u w : Value) (r : Bool), A'.frames = X.A.frames → A'.handled = X.A.handled → RmT k t A' →
    Inv X pins σ H s → Ok X.K B μ G H → Rep X.K B G a va → Rep X.K B G b vb → RelV va u → RelV vb w → f a b = some r → wpAny (model X.prog X.w) A' (eqBool u w) (fun v s' => v = r ∧ Aft X pins σ B μ G H s') X.xe s
theorem eb_rc {t : Nat} {f : PV → PV → Option Bool} {A' : Around} {pins : List (Addr × Obj)} {σ : L2.St} {H G : Hp} {B : BX} {μ : Mu} {s : Shared} {a b : PV} {x y : Addr} {r : Bool} (ka : KA X.K) (hs : Same f) (J : Inv X pins σ H s) (o : Ok X.K B μ G H) (ra : Rep X.K B G a (.ref x)) (rb : Rep X.K B G b (.ref y)) (h : f a b = some r)
    (rc : wpAny (model X.prog X.w) A' (richCompare .Eq (.ref x) (.ref y)) (fun v s' => v = .bool r ∧ Aft X pins σ B μ G H s') X.xe s) : wpAny (model X.prog X.w) A' (eqBool (.ref x) (.ref y)) (fun v s' => v = r ∧ Aft X pins σ B μ G H s') X.xe s := by
  by_cases e : x = y
  · subst e
    obtain rfl := hs X pins s σ H B μ G a b _ r ka J o ra rb h
    exact SeqAt.EqAt.same (A := A') (s := s) (.ref x) X.prog X.w X.xe _ ⟨rfl, G, H, .refl o, J⟩
  · refine GQ.eqBool_refG e (wpAny_mono rc (fun v s' hv => ?_) fun _ _ z => z)
    obtain ⟨rfl, q⟩ := hv
    exact ⟨r, rfl, rfl, q⟩
theorem eb_ref {A' : Around} {x : Addr} {w : Value} {Qp : Bool → Shared → Prop} {E : Value → Shared → Prop} {s : Shared} (hw : ∀ y, w ≠ .ref y) (h : wpAny (model X.prog X.w) A' (richCompare .Eq (.ref x) w) (fun v s' => ∃ r, v = .bool r ∧ Qp r s') E s) : wpAny (model X.prog X.w) A' (eqBool (.ref x) w) Qp E s := by
  unfold eqBool
  refine wpAny_holding ?_
  refine wpAny_ite_split (fun hab => absurd (eq_of_beq hab).symm (hw x)) (fun _ => ?_)
  refine wpAny_bind (wpAny_mono h (fun v s' hv => ?_) fun _ _ x => x)
  obtain ⟨r, rfl, q⟩ := hv
  exact wpAny_truthy_bool q
/-- what the walk over two sequences knows -/
def LpI (X : Cx) (pins : List (Addr × Obj)) (σ : L2.St) (B : BX) (μ : Mu) (G H : Hp) (f : PV → PV → Option Bool) (xs ys : List PV) (r : Bool) (i : Nat) (s' : Shared) : Prop := ∃ G' H', Go X.K B μ G H μ G' H' ∧ Inv X pins σ H' s' ∧ peqs f (xs.drop i) (ys.drop i) = some r
theorem peqs_cons {f : PV → PV → Option Bool} {xs ys : List PV} {i : Nat} {r : Bool} (h1 : i < xs.length) (h2 : i < ys.length) (h : peqs f (xs.drop i) (ys.drop i) = some r) : (f xs[i] ys[i] = some false ∧ r = false) ∨ (f xs[i] ys[i] = some true ∧ peqs f (xs.drop (i + 1)) (ys.drop (i + 1)) = some r) := by
  rw [List.drop_eq_getElem_cons h1, List.drop_eq_getElem_cons h2] at h
  exact andO_inv h
theorem peqs_end {f : PV → PV → Option Bool} : ∀ {xs ys : List PV} {r : Bool}, peqs f (xs.drop (min xs.length ys.length)) (ys.drop (min xs.length ys.length)) = some r → r = (xs.length == ys.length)
  | xs, ys, r, h => by
    rcases Nat.lt_trichotomy xs.length ys.length with z | z | z
    · rw [Nat.min_eq_left (Nat.le_of_lt z), List.drop_length, List.drop_eq_getElem_cons z] at h
      cases h
      simp; omega
    · rw [z, Nat.min_self, List.drop_length, ← z, List.drop_length] at h
      cases h
      simp [z]
    · rw [Nat.min_eq_right (Nat.le_of_lt z), List.drop_length, List.drop_eq_getElem_cons z] at h
      cases h
      simp; omega
/-- one pair -/
theorem lp_turn {t : Nat} {f : PV → PV → Option Bool} (eb : EB X k t f) {A' : Around} {pins : List (Addr × Obj)} {σ : L2.St} {H G H1 G1 : Hp} {B : BX} {μ : Mu} {xs ys : List PV} {vs ws : List V} {its its2 : List Value} {r : Bool} {i : Nat} {s : Shared} (hf : A'.frames = X.A.frames) (hh : A'.handled = X.A.handled) (hr : RmT k (t + 1) A')
    (g1 : Go X.K B μ G H μ G1 H1) (J1 : Inv X pins σ H1 s) (hp : peqs f (xs.drop i) (ys.drop i) = some r) (rx : Reps X.K B G1 xs vs) (ry : Reps X.K B G1 ys ws) (ru : Vals vs its) (rw' : Vals ws its2) (h1 : i < its.toArray.size) (h2 : i < its2.toArray.size) :
    wpAny (model X.prog X.w) A'.in1 (eqBool its.toArray[i] its2.toArray[i]) (fun v s' => (v = true ∧ LpI X pins σ B μ G H f xs ys r (i + 1) s') ∨ (v = false ∧ r = false ∧ Aft X pins σ B μ G H s')) X.xe s := by
  have k1 : i < vs.length := by rw [ru.length]; simpa using h1
  have k2 : i < ws.length := by rw [rw'.length]; simpa using h2
  have l1 : i < xs.length := by rw [← rx.length]; exact k1
  have l2 : i < ys.length := by rw [← ry.length]; exact k2
  obtain ⟨v, e1, rv⟩ := rx.get (List.getElem?_eq_getElem l1)
  obtain ⟨v2, e2, rv2⟩ := ry.get (List.getElem?_eq_getElem l2)
  obtain ⟨u, hu, ru1⟩ := ru.get e1
  obtain ⟨u2, hu2, ru2⟩ := rw'.get e2
  have g1' : its[i]? = some its.toArray[i] := by
    have h1' : i < its.length := by simpa using h1
    rw [List.getElem?_eq_getElem h1'] <;> simp
  have g2' : its2[i]? = some its2.toArray[i] := by
    have h2' : i < its2.length := by simpa using h2
    rw [List.getElem?_eq_getElem h2'] <;> simp
  rw [g1'] at hu
  rw [g2'] at hu2
  rw [Option.some.inj hu, Option.some.inj hu2]
  rcases peqs_cons l1 l2 hp with ⟨ef, rfl⟩ | ⟨ef, hn⟩
  · refine wpAny_mono (eb A'.in1 pins σ H1 G1 B μ s _ _ v v2 u u2 false hf hh hr.in1 J1 g1.ok rv rv2 ru1 ru2 ef) (fun z s' hz => ?_) fun _ _ z => z
    obtain ⟨rfl, G2, H2, g2, J2⟩ := hz
    exact .inr ⟨rfl, rfl, G2, H2, g1.trans g2, J2⟩
  · refine wpAny_mono (eb A'.in1 pins σ H1 G1 B μ s _ _ v v2 u u2 true hf hh hr.in1 J1 g1.ok rv rv2 ru1 ru2 ef) (fun z s' hz => ?_) fun _ _ z => z
    obtain ⟨rfl, G2, H2, g2, J2⟩ := hz
    exact .inl ⟨rfl, G2, H2, g1.trans g2, J2, hn⟩
end
end Px
namespace Px
open PySem PySem.Spec PyProof.Rows L2
/-- at x stands the list xs, and will stand -/
def LsK (K : Frg) (B : BX) (μ : Mu) (G H : Hp) (x : Addr) (xs : List PV) : Prop := ∀ G' H', Go K B μ G H μ G' H' → ∃ vs, H' x = some (.lst vs) ∧ Reps K B G' xs vs
section
variable {X : Cx} {k : Nat} {Q : Qt}
theorem rc_tup_eq {t : Nat} {f : PV → PV → Option Bool} (eb : EB X k t f) {A' : Around} {pins : List (Addr × Obj)} {σ : L2.St} {H G : Hp} {B : BX} {μ : Mu} {s : Shared} {x y : Addr} {xs ys : List PV} {vs ws : List V} {r : Bool} (hf : A'.frames = X.A.frames) (hh : A'.handled = X.A.handled) (hr : RmT k (t + 1) A')
    (J : Inv X pins σ H s) (o : Ok X.K B μ G H) (sx : SqT X.K H x vs) (sy : SqT X.K H y ws) (rx : Reps X.K B G xs vs) (ry : Reps X.K B G ys ws) (h : peqs f xs ys = some r) :
    wpAny (model X.prog X.w) A' (richCompare .Eq (.ref x) (.ref y)) (fun v s' => v = .bool r ∧ Aft X pins σ B μ G H s') X.xe s := by
  obtain ⟨its, ru, e1, z1⟩ := J.tuple sx
  obtain ⟨its2, rw', e2, z2⟩ := J.tuple sy
  obtain ⟨⟨cls, dd, data, sl⟩, ho, hc, n, hd⟩ := id e1
  obtain ⟨⟨cls2, dd2, data2, sl2⟩, ho2, hc2, n2, hd2⟩ := id e2
  simp only at hc hd hc2 hd2
  subst hc hd hc2 hd2
  have l1 : its.toArray.size = xs.length := by rw [List.size_toArray, ← ru.length, rx.length]
  have l2 : its2.toArray.size = ys.length := by rw [List.size_toArray, ← rw'.length, ry.length]
  refine wpAny_richCompare_same_room (op := .Eq) ⟨_, ho, rfl⟩ ⟨_, ho2, rfl⟩ F.slot_tuple_eq (GQ.call_here F.slot_tuple_eq ⟨_, ho, rfl⟩ F.entry_tuple_eq (F.args_tuple_eq_2 _ _) ?_) hr.u
  refine GE.tuple_eqG (R := wants (fun v s' => v ≠ .notImplemented ∧ (v = .bool r ∧ Aft X pins σ B μ G H s')) X.xe) x y its.toArray its2.toArray n n2 dd dd2 sl sl2 (LpI X pins σ B μ G H f xs ys r) (fun i h1 h2 s' l => ?_) (fun s' l => ?_) ho ho2 ⟨G, H, .refl o, J, h⟩
  · obtain ⟨G1, H1, g1, J1, hp⟩ := l
    refine wpAny_mono (lp_turn eb hf hh hr g1 J1 hp (rx.mono g1.gx) (ry.mono g1.gx) ru rw' h1 h2) (fun v s2 hv => ?_) fun _ _ z => z
    rcases hv with hv | ⟨rfl, rfl, a⟩
    · exact .inl hv
    · exact .inr ⟨rfl, (fun z => nomatch z), rfl, a⟩
  · obtain ⟨G1, H1, g1, J1, hp⟩ := l
    rw [l1, l2] at hp
    have := peqs_end hp
    subst this
    rw [l1, l2]
    exact ⟨(fun z => nomatch z), rfl, G1, H1, g1, J1⟩
theorem rc_lst_eq {t : Nat} {f : PV → PV → Option Bool} (eb : EB X k t f) {A' : Around} {pins : List (Addr × Obj)} {σ : L2.St} {H G : Hp} {B : BX} {μ : Mu} {s : Shared} {x y : Addr} {xs ys : List PV} {r : Bool} (hf : A'.frames = X.A.frames) (hh : A'.handled = X.A.handled) (hr : RmT k (t + 1) A')
    (J : Inv X pins σ H s) (o : Ok X.K B μ G H) (kx : LsK X.K B μ G H x xs) (ky : LsK X.K B μ G H y ys) (h : (match Nat.beq xs.length ys.length with | true => peqs f xs ys | false => some false) = some r) :
    wpAny (model X.prog X.w) A' (richCompare .Eq (.ref x) (.ref y)) (fun v s' => v = .bool r ∧ Aft X pins σ B μ G H s') X.xe s := by
  obtain ⟨vs, sx, rx⟩ := kx G H (.refl o)
  obtain ⟨ws, sy, ry⟩ := ky G H (.refl o)
  obtain ⟨z1, its, n, ru, e1⟩ := J.hok x _ sx
  obtain ⟨z2, its2, n2, rw', e2⟩ := J.hok y _ sy
  have l1 : its.toArray.size = xs.length := by rw [List.size_toArray, ← ru.length, rx.length]
  have l2 : its2.toArray.size = ys.length := by rw [List.size_toArray, ← rw'.length, ry.length]
  refine wpAny_richCompare_same_room (op := .Eq) ⟨_, e1, rfl⟩ ⟨_, e2, rfl⟩ F.slot_list_eq (GQ.call_here F.slot_list_eq ⟨_, e1, rfl⟩ F.entry_list_eq (F.args_list_eq_2 _ _) ?_) hr.u
  cases eb' : Nat.beq xs.length ys.length with
  | false =>
    rw [eb'] at h
    cases h
    exact GE.list_eqD (R := wants (fun v s' => v ≠ .notImplemented ∧ (v = .bool false ∧ Aft X pins σ B μ G H s')) X.xe) x y e1 e2 (by rw [l1, l2]; exact Nat.ne_of_beq_eq_false eb') ⟨(fun z => nomatch z), rfl, G, H, .refl o, J⟩
  | true =>
    rw [eb'] at h
    have el := Nat.eq_of_beq_eq_true eb'
    refine GE.list_eqG (R := wants (fun v s' => v ≠ .notImplemented ∧ (v = .bool r ∧ Aft X pins σ B μ G H s')) X.xe) x y xs.length (LpI X pins σ B μ G H f xs ys r) (fun i s' l => ?_) (fun s' l => ?_) ⟨G, H, .refl o, J, h⟩
    · obtain ⟨G1, H1, g1, J1, hp⟩ := id l
      obtain ⟨vs1, sx1, rx1⟩ := kx G1 H1 g1
      obtain ⟨ws1, sy1, ry1⟩ := ky G1 H1 g1
      obtain ⟨w1, jts, m, qu, f1⟩ := J1.hok x _ sx1
      obtain ⟨w2, jts2, m2, qw, f2⟩ := J1.hok y _ sy1
      refine ⟨jts.toArray, jts2.toArray, m, m2, f1, f2, by rw [List.size_toArray, ← qu.length, rx1.length], by rw [List.size_toArray, ← qw.length, ry1.length, el], fun h1 h2 => ?_⟩
      refine wpAny_mono (lp_turn eb hf hh hr g1 J1 hp rx1 ry1 qu qw h1 h2) (fun v s2 hv => ?_) fun _ _ z => z
      rcases hv with hv | ⟨rfl, rfl, G2, H2, g2, J2⟩
      · exact .inl hv
      · obtain ⟨vs2, sx2, rx2⟩ := kx G2 H2 g2
        obtain ⟨ws2, sy2, ry2⟩ := ky G2 H2 g2
        obtain ⟨w3, kts, m3, qu3, f3⟩ := J2.hok x _ sx2
        obtain ⟨w4, kts2, m4, qw4, f4⟩ := J2.hok y _ sy2
        exact .inr ⟨rfl, ⟨kts.toArray, kts2.toArray, m3, m4, f3, f4, by rw [List.size_toArray, ← qu3.length, rx2.length], by rw [List.size_toArray, ← qw4.length, ry2.length, el]⟩, (fun z => nomatch z), rfl, G2, H2, g2, J2⟩
    · obtain ⟨G1, H1, g1, J1, hp⟩ := l
      rw [List.drop_length, el, List.drop_length] at hp
      cases hp
      exact ⟨(fun z => nomatch z), rfl, G1, H1, g1, J1⟩
theorem rc_tup_ne {t : Nat} {f : PV → PV → Option Bool} (eb : EB X k t f) {A' : Around} {pins : List (Addr × Obj)} {σ : L2.St} {H G : Hp} {B : BX} {μ : Mu} {s : Shared} {x y : Addr} {xs ys : List PV} {vs ws : List V} {r : Bool} (hf : A'.frames = X.A.frames) (hh : A'.handled = X.A.handled) (hr : RmT k (t + 1) A')
    (J : Inv X pins σ H s) (o : Ok X.K B μ G H) (sx : SqT X.K H x vs) (sy : SqT X.K H y ws) (rx : Reps X.K B G xs vs) (ry : Reps X.K B G ys ws) (h : peqs f xs ys = some r) :
    wpAny (model X.prog X.w) A' (richCompare .NotEq (.ref x) (.ref y)) (fun v s' => v = .bool (!r) ∧ Aft X pins σ B μ G H s') X.xe s := by
  obtain ⟨its, ru, e1, z1⟩ := J.tuple sx
  obtain ⟨its2, rw', e2, z2⟩ := J.tuple sy
  obtain ⟨⟨cls, dd, data, sl⟩, ho, hc, n, hd⟩ := id e1
  obtain ⟨⟨cls2, dd2, data2, sl2⟩, ho2, hc2, n2, hd2⟩ := id e2
  simp only at hc hd hc2 hd2
  subst hc hd hc2 hd2
  have l1 : its.toArray.size = xs.length := by rw [List.size_toArray, ← ru.length, rx.length]
  have l2 : its2.toArray.size = ys.length := by rw [List.size_toArray, ← rw'.length, ry.length]
  refine wpAny_richCompare_same_room (op := .NotEq) ⟨_, ho, rfl⟩ ⟨_, ho2, rfl⟩ F.slot_tuple_ne (GQ.call_here F.slot_tuple_ne ⟨_, ho, rfl⟩ F.entry_tuple_ne (F.args_tuple_ne_2 _ _) ?_) hr.u
  refine GE.tuple_neG (R := wants (fun v s' => v ≠ .notImplemented ∧ (v = .bool (!r) ∧ Aft X pins σ B μ G H s')) X.xe) x y its.toArray its2.toArray n n2 dd dd2 sl sl2 (LpI X pins σ B μ G H f xs ys r) (fun i h1 h2 s' l => ?_) (fun s' l => ?_) ho ho2 ⟨G, H, .refl o, J, h⟩
  · obtain ⟨G1, H1, g1, J1, hp⟩ := l
    refine wpAny_mono (lp_turn eb hf hh hr g1 J1 hp (rx.mono g1.gx) (ry.mono g1.gx) ru rw' h1 h2) (fun v s2 hv => ?_) fun _ _ z => z
    rcases hv with hv | ⟨rfl, rfl, a⟩
    · exact .inl hv
    · exact .inr ⟨rfl, (fun z => nomatch z), rfl, a⟩
  · obtain ⟨G1, H1, g1, J1, hp⟩ := l
    rw [l1, l2] at hp
    have := peqs_end hp
    subst this
    rw [l1, l2]
    exact ⟨(fun z => nomatch z), rfl, G1, H1, g1, J1⟩
theorem rc_lst_ne {t : Nat} {f : PV → PV → Option Bool} (eb : EB X k t f) {A' : Around} {pins : List (Addr × Obj)} {σ : L2.St} {H G : Hp} {B : BX} {μ : Mu} {s : Shared} {x y : Addr} {xs ys : List PV} {r : Bool} (hf : A'.frames = X.A.frames) (hh : A'.handled = X.A.handled) (hr : RmT k (t + 1) A')
    (J : Inv X pins σ H s) (o : Ok X.K B μ G H) (kx : LsK X.K B μ G H x xs) (ky : LsK X.K B μ G H y ys) (h : (match Nat.beq xs.length ys.length with | true => peqs f xs ys | false => some false) = some r) :
    wpAny (model X.prog X.w) A' (richCompare .NotEq (.ref x) (.ref y)) (fun v s' => v = .bool (!r) ∧ Aft X pins σ B μ G H s') X.xe s := by
  obtain ⟨vs, sx, rx⟩ := kx G H (.refl o)
  obtain ⟨ws, sy, ry⟩ := ky G H (.refl o)
  obtain ⟨z1, its, n, ru, e1⟩ := J.hok x _ sx
  obtain ⟨z2, its2, n2, rw', e2⟩ := J.hok y _ sy
  have l1 : its.toArray.size = xs.length := by rw [List.size_toArray, ← ru.length, rx.length]
  have l2 : its2.toArray.size = ys.length := by rw [List.size_toArray, ← rw'.length, ry.length]
  refine wpAny_richCompare_same_room (op := .NotEq) ⟨_, e1, rfl⟩ ⟨_, e2, rfl⟩ F.slot_list_ne (GQ.call_here F.slot_list_ne ⟨_, e1, rfl⟩ F.entry_list_ne (F.args_list_ne_2 _ _) ?_) hr.u
  cases eb' : Nat.beq xs.length ys.length with
  | false =>
    rw [eb'] at h
    cases h
    exact GE.list_neD (R := wants (fun v s' => v ≠ .notImplemented ∧ (v = .bool (!false) ∧ Aft X pins σ B μ G H s')) X.xe) x y e1 e2 (by rw [l1, l2]; exact Nat.ne_of_beq_eq_false eb') ⟨(fun z => nomatch z), rfl, G, H, .refl o, J⟩
  | true =>
    rw [eb'] at h
    have el := Nat.eq_of_beq_eq_true eb'
    refine GE.list_neG (R := wants (fun v s' => v ≠ .notImplemented ∧ (v = .bool (!r) ∧ Aft X pins σ B μ G H s')) X.xe) x y xs.length (LpI X pins σ B μ G H f xs ys r) (fun i s' l => ?_) (fun s' l => ?_) ⟨G, H, .refl o, J, h⟩
    · obtain ⟨G1, H1, g1, J1, hp⟩ := id l
      obtain ⟨vs1, sx1, rx1⟩ := kx G1 H1 g1
      obtain ⟨ws1, sy1, ry1⟩ := ky G1 H1 g1
      obtain ⟨w1, jts, m, qu, f1⟩ := J1.hok x _ sx1
      obtain ⟨w2, jts2, m2, qw, f2⟩ := J1.hok y _ sy1
      refine ⟨jts.toArray, jts2.toArray, m, m2, f1, f2, by rw [List.size_toArray, ← qu.length, rx1.length], by rw [List.size_toArray, ← qw.length, ry1.length, el], fun h1 h2 => ?_⟩
      refine wpAny_mono (lp_turn eb hf hh hr g1 J1 hp rx1 ry1 qu qw h1 h2) (fun v s2 hv => ?_) fun _ _ z => z
      rcases hv with hv | ⟨rfl, rfl, G2, H2, g2, J2⟩
      · exact .inl hv
      · obtain ⟨vs2, sx2, rx2⟩ := kx G2 H2 g2
        obtain ⟨ws2, sy2, ry2⟩ := ky G2 H2 g2
        obtain ⟨w3, kts, m3, qu3, f3⟩ := J2.hok x _ sx2
        obtain ⟨w4, kts2, m4, qw4, f4⟩ := J2.hok y _ sy2
        exact .inr ⟨rfl, ⟨kts.toArray, kts2.toArray, m3, m4, f3, f4, by rw [List.size_toArray, ← qu3.length, rx2.length], by rw [List.size_toArray, ← qw4.length, ry2.length, el]⟩, (fun z => nomatch z), rfl, G2, H2, g2, J2⟩
    · obtain ⟨G1, H1, g1, J1, hp⟩ := l
      rw [List.drop_length, el, List.drop_length] at hp
      cases hp
      exact ⟨(fun z => nomatch z), rfl, G1, H1, g1, J1⟩
theorem lsk_lst {K : Frg} {B : BX} {μ : Mu} {G H : Hp} {x : Addr} {xs : List PV} {vs : List V} (h : G x = some (.lst vs)) (r : Reps K B G xs vs) : LsK K B μ G H x xs := fun G' H' g => ⟨vs, g.ok.sub _ _ (g.gx _ _ h), r.mono g.gx⟩
theorem lsk_cell {K : Frg} {B : BX} {μ : Mu} {G H : Hp} {x : Addr} {xs : List PV} (h : μ x = some (.lst xs)) : LsK K B μ G H x xs := fun G' H' g => by
  obtain ⟨_, _, u, e, vs, rfl, rs⟩ := g.ok.cell x _ h
  exact ⟨vs, e, rs⟩
theorem eb_deq (q : QOk X k Q) : ∀ t, EB X k t (deq Q t) := by
  have flat : ∀ {t : Nat} {A' : Around} {pins : List (Addr × Obj)} {σ : L2.St} {H G : Hp} {B : BX} {μ : Mu} {s : Shared} {a b : PV} {va vb : V} {u w : Value} {r : Bool}, Inv X pins σ H s → Ok X.K B μ G H → Rep X.K B G a va → Rep X.K B G b vb → RelV va u → RelV vb w → eqS a b = some r → wpAny (model X.prog X.w) A' (eqBool u w) (fun v s' => v = r ∧ Aft X pins σ B μ G H s') X.xe s := fun {t A' pins σ H G B μ s a b va vb u w r} J o ra rb ru rw' h => by
    obtain ⟨f1, f2, e⟩ := eqS_flat h ra rb
    have := eqAt_V (A := A') (s := s) ru rw' f1 f2
    rw [e] at this
    exact this X.prog X.w X.xe _ ⟨rfl, G, H, .refl o, J⟩
  have ob : ∀ {t : Nat} {A' : Around} {pins : List (Addr × Obj)} {σ : L2.St} {H G : Hp} {B : BX} {μ : Mu} {s : Shared} {c : Cl} {xs : List PV} {b : PV} {va vb : V} {u w : Value} {r : Bool}, A'.frames = X.A.frames → A'.handled = X.A.handled → RmT k t A' → Inv X pins σ H s → Ok X.K B μ G H → Rep X.K B G (.obj c xs) va → Rep X.K B G b vb → RelV va u → RelV vb w → deqO Q c xs b = some r → wpAny (model X.prog X.w) A' (eqBool u w) (fun v s' => v = r ∧ Aft X pins σ B μ G H s') X.xe s := fun {t A' pins σ H G B μ s c xs b va vb u w r} hf hh hr J o ra rb ru rw' h => by
    have rc := rc_obj q hf hh hr J o ra rb ru rw' h
    obtain ⟨x, dx, vs, ev, _⟩ := ra.obj_inv
    have ru' := ru
    rw [ev] at ru' ra
    obtain rfl : u = Value.ref x := ru'
    have hs : Same (deq Q 0) := same_deq (fun c f hm => (q.ok c f hm).1) 0
    have asref : ∀ {y : Addr}, vb = .ref y → wpAny (model X.prog X.w) A' (eqBool (.ref x) w) (fun v s' => v = r ∧ Aft X pins σ B μ G H s') X.xe s := fun {y} e => by
      rw [e] at rw' rb
      obtain rfl : w = Value.ref y := rw'
      exact eb_rc (t := 0) q.ka hs J o ra rb h rc
    have asval : (∀ y, w ≠ .ref y) → wpAny (model X.prog X.w) A' (eqBool (.ref x) w) (fun v s' => v = r ∧ Aft X pins σ B μ G H s') X.xe s := fun hw => eb_ref hw (wpAny_mono rc (fun v s' hv => ⟨r, hv.1, rfl, hv.2⟩) fun _ _ z => z)
    cases b with
    | obj d ys => obtain ⟨y, _, _, e, _⟩ := rb.obj_inv; exact asref e
    | tup ys => obtain ⟨y, _, e, _⟩ := rb.tup_inv; exact asref e
    | lst ys => obtain ⟨y, _, e, _⟩ := rb.lst_inv; exact asref e
    | int i => rw [rb.int_inv] at rw'; obtain ⟨_, rfl⟩ := rw'; exact asval fun _ z => nomatch z
    | str i => rw [rb.str_inv] at rw'; obtain ⟨_, rfl⟩ := rw'; exact asval fun _ z => nomatch z
    | bl i => rw [rb.bl_inv] at rw'; cases rw'; exact asval fun _ z => nomatch z
    | non => rw [rb.non_inv] at rw'; cases rw'; exact asval fun _ z => nomatch z
    | _ => cases h
  intro t
  induction t with
  | zero =>
    intro A' pins σ H G B μ s a b va vb u w r hf hh hr J o ra rb ru rw' h
    cases a with
    | obj c xs => exact ob hf hh hr J o ra rb ru rw' h
    | _ => exact flat (t := 0) J o ra rb ru rw' h
  | succ t ih =>
    intro A' pins σ H G B μ s a b va vb u w r hf hh hr J o ra rb ru rw' h
    have hs : Same (deq Q (t + 1)) := same_deq (fun c f hm => (q.ok c f hm).1) (t + 1)
    cases a with
    | obj c xs => exact ob hf hh hr J o ra rb ru rw' h
    | tup xs =>
      cases b with
      | tup ys =>
        obtain ⟨x, vs, rfl, sx, rx⟩ := ra.tup_inv
        obtain ⟨y, ws, rfl, sy, ry⟩ := rb.tup_inv
        obtain rfl : u = Value.ref x := ru
        obtain rfl : w = Value.ref y := rw'
        exact eb_rc (t := t) q.ka hs J o ra rb h (rc_tup_eq ih hf hh hr J o (o.sub.t sx) (o.sub.t sy) rx ry h)
      | _ => exact flat (t := 0) J o ra rb ru rw' h
    | lst xs =>
      cases b with
      | lst ys =>
        obtain ⟨x, vs, rfl, sx, rx⟩ := ra.lst_inv
        obtain ⟨y, ws, rfl, sy, ry⟩ := rb.lst_inv
        obtain rfl : u = Value.ref x := ru
        obtain rfl : w = Value.ref y := rw'
        exact eb_rc (t := t) q.ka hs J o ra rb h (rc_lst_eq ih hf hh hr J o (lsk_lst sx rx) (lsk_lst sy ry) h)
      | _ => exact flat (t := 0) J o ra rb ru rw' h
    | _ => exact flat (t := 0) J o ra rb ru rw' h
/-- a == b, a != b as readings: tuples and lists at most ten deep -/
def deqT (Q : Qt) (neg : Bool) (μ : Mu) (a b : PV) : Option Bool := match a with
  | .obj c xs => (match neg with
    | true => none
    | false => deqO Q c xs b)
  | a => (match deq Q 10 (rdL μ a) (rdL μ b) with
    | some r => some (sgn neg r)
    | none => none)
/-- .. not looked into -/
@[irreducible] def deqL (Q : Qt) (neg : Bool) (μ : Mu) (a b : PV) : Option Bool := deqT Q neg μ a b
theorem deqL_eq (Q : Qt) (neg : Bool) (μ : Mu) (a b : PV) : deqL Q neg μ a b = deqT Q neg μ a b := by unfold deqL; rfl
def eqQ (Q : Qt) (neg : Bool) : FO := fun a b μ q _ => match eqS a b with
  | some k => q (.bl (sgn neg k)) μ
  | none => (match deqL Q neg μ a b with
    | some r => q (.bl r) μ
    | none => False)
theorem deqT_flat {Q : Qt} {neg : Bool} {μ : Mu} {a b : PV} {k : Bool} (h : eqS a b = some k) : deqT Q neg μ a b = some (sgn neg k) := by
  cases a <;> cases b <;> first | (cases h; done) | (cases h; rfl)
theorem eqQ_inv {Q : Qt} {neg : Bool} {a b : PV} {μ : Mu} {q : QV} {x : QX} (h : eqQ Q neg a b μ q x) : ∃ r, deqT Q neg μ a b = some r ∧ q (.bl r) μ := by
  unfold eqQ at h
  cases e0 : eqS a b with
  | some k => simp only [e0] at h; exact ⟨_, deqT_flat e0, h⟩
  | none =>
    simp only [e0, deqL_eq] at h
    cases e : deqT Q neg μ a b with
    | none => simp only [e] at h
    | some r => simp only [e] at h; exact ⟨r, rfl, h⟩
/-- a list or its cell -/
theorem rdL_lst {K : Frg} {B : BX} {μ : Mu} {G H : Hp} {p : PV} {v : V} {xs : List PV} (r : Rep K B G p v) (h : rdL μ p = .lst xs) : ∃ x, v = .ref x ∧ LsK K B μ G H x xs := by
  unfold rdL at h
  split at h
  · rename_i a
    split at h
    · rename_i ys e
      cases h
      exact ⟨a, r.cell_inv, lsk_cell e⟩
    · cases h
  · rw [h] at r
    obtain ⟨x, vs, rfl, e, rs⟩ := r.lst_inv
    exact ⟨x, rfl, lsk_lst e rs⟩
theorem rdL_other {μ : Mu} {p : PV} (h : ∀ xs, rdL μ p ≠ .lst xs) : rdL μ p = p := by
  unfold rdL at h ⊢
  split
  · rename_i a
    split
    · rename_i ys e
      simp only [e] at h
      exact absurd rfl (h ys)
    · rfl
  · rfl
theorem deqT_some {Q : Qt} {neg : Bool} {μ : Mu} {a b : PV} {k : Bool} (h : deqT Q neg μ a b = some k) (ho : ∀ c xs, a ≠ .obj c xs) : ∃ r, deq Q 10 (rdL μ a) (rdL μ b) = some r ∧ sgn neg r = k := by
  have h : (match deq Q 10 (rdL μ a) (rdL μ b) with | some r => some (sgn neg r) | none => none) = some k := by
    cases a <;> first | exact h | exact absurd rfl (ho _ _)
  cases e : deq Q 10 (rdL μ a) (rdL μ b) with
  | none => rw [e] at h; cases h
  | some r => rw [e] at h; exact ⟨r, rfl, Option.some.inj h⟩
theorem deqT_of {Q : Qt} {μ : Mu} {a b : PV} {k : Bool} (h : deq Q 10 a b = some k) : deqT Q false μ a b = some k := by
  have nc : ∀ {p : PV}, (∀ z, p ≠ .cell z) → rdL μ p = p := fun {p} hp => by
    cases p <;> first | rfl | exact absurd rfl (hp _)
  have hb : (∀ c xs, a ≠ .obj c xs) → ∀ z, b ≠ .cell z := fun ho z e => by
    subst e
    cases a <;> first | cases h | exact absurd rfl (ho _ _)
  have ha : ∀ z, a ≠ .cell z := fun z e => by
    subst e
    cases b <;> cases h
  by_cases ho : ∃ c xs, a = .obj c xs
  · obtain ⟨c, xs, rfl⟩ := ho
    exact h
  · have e : deqT Q false μ a b = (match deq Q 10 (rdL μ a) (rdL μ b) with | some r => some (sgn false r) | none => none) := by
      cases a <;> first | rfl | exact absurd ⟨_, _, rfl⟩ ho
    rw [e, nc ha, nc (hb fun c xs z => ho ⟨c, xs, z⟩), h] <;> rfl
theorem deqL_of {Q : Qt} {μ : Mu} {a b : PV} {k : Bool} (h : deq Q 10 a b = some k) : deqL Q false μ a b = some k := (deqL_eq _ _ _ _ _).trans (deqT_of h)
theorem oj_eqQ {W : WX} (q : QOk X k Q) (hr : Rm (k + 1) X.A) : OpJ X W (compareOp .Eq) (eqQ Q false) := by
  intro pins s σ H B ρ μ G a b va vb u w qq x Qv J R ra rb ru rw' h gv gx
  have o := R.ok
  have rm : RmT k (10 + 1) X.A := ⟨(RmT.of hr).dp, by have := (RmT.of hr).un; omega, (RmT.of hr).gd⟩
  have fin : ∀ {r : Bool}, qq (.bl r) μ → wpAny (model X.prog X.w) X.A (richCompare .Eq u w) (fun v s' => v = .bool r ∧ Aft X pins σ B μ G H s') X.xe s → wpAny (model X.prog X.w) X.A (compareOp .Eq u w) (EP X pins σ Qv) X.xe s := fun {r} hq hw =>
    wpAny_mono (show wpAny (model X.prog X.w) X.A (compareOp .Eq u w) _ X.xe s from hw) (fun v s' ⟨e, G', H', g, J'⟩ => by subst e; exact ⟨.bl r, H', J', rfl, gv _ _ _ _ _ hq g (rep_bl r)⟩) fun _ _ z => z
  have flat : ∀ {r : Bool}, eqS a b = some r → qq (.bl r) μ → wpAny (model X.prog X.w) X.A (compareOp .Eq u w) (EP X pins σ Qv) X.xe s := fun {r} he hq =>
    oj_eqS pins s σ H B ρ μ G a b va vb u w qq x Qv J R ra rb ru rw' (by show (match eqS a b with | some k => qq (.bl (sgn false k)) μ | none => False); rw [he]; exact hq) gv gx
  obtain ⟨r0, hT, hQ⟩ := eqQ_inv h
  clear h
  have rest : (match deq Q 10 (rdL μ a) (rdL μ b) with | some r => qq (.bl (sgn false r)) μ | none => False) → (∀ c xs, a ≠ .obj c xs) → wpAny (model X.prog X.w) X.A (compareOp .Eq u w) (EP X pins σ Qv) X.xe s := fun h0 hno => by
    clear hQ hT
    cases e : deq Q 10 (rdL μ a) (rdL μ b) with
    | none => simp only [e] at h0
    | some r =>
      simp only [e] at h0
      by_cases ha : ∃ xs, rdL μ a = .lst xs
      · by_cases hb : ∃ ys, rdL μ b = .lst ys
        · obtain ⟨xs, ea⟩ := ha
          obtain ⟨ys, eb⟩ := hb
          obtain ⟨x, rfl, kx⟩ := rdL_lst (H := H) ra ea
          obtain ⟨y, rfl, ky⟩ := rdL_lst (H := H) rb eb
          obtain rfl : u = Value.ref x := ru
          obtain rfl : w = Value.ref y := rw'
          rw [ea, eb] at e
          exact fin h0 (rc_lst_eq (eb_deq q 9) rfl rfl ⟨rm.dp, by have := rm.un; omega, rm.gd⟩ J o kx ky e)
        · obtain ⟨xs, ea⟩ := ha
          rw [ea] at e
          cases eb : rdL μ b <;> rw [eb] at e <;> first | cases e | exact absurd ⟨_, eb⟩ hb
      · have ea := rdL_other fun xs z => ha ⟨xs, z⟩
        rw [ea] at e
        cases a with
        | obj c xs => exact absurd rfl (hno c xs)
        | lst xs => exact absurd ⟨xs, rfl⟩ ha
        | tup xs =>
          by_cases hb : ∃ ys, rdL μ b = .lst ys
          · obtain ⟨ys, eb⟩ := hb
            rw [eb] at e
            cases e
          · have eb := rdL_other fun xs z => hb ⟨xs, z⟩
            rw [eb] at e
            cases b with
            | tup ys =>
              obtain ⟨x, vs, rfl, sx, rx⟩ := ra.tup_inv
              obtain ⟨y, ws, rfl, sy, ry⟩ := rb.tup_inv
              obtain rfl : u = Value.ref x := ru
              obtain rfl : w = Value.ref y := rw'
              exact fin h0 (rc_tup_eq (eb_deq q 9) rfl rfl ⟨rm.dp, by have := rm.un; omega, rm.gd⟩ J o (o.sub.t sx) (o.sub.t sy) rx ry e)
            | _ => cases e
        | _ =>
          have e2 : eqS _ (rdL μ b) = some r := e
          have eb : rdL μ b = b := rdL_other fun ys z => by rw [z] at e2; cases e2
          rw [eb] at e2
          exact flat e2 h0
  cases a with
  | obj c xs => exact fin hQ (rc_obj q rfl rfl rm J o ra rb ru rw' hT)
  | _ =>
    refine rest ?_ (fun _ _ z => nomatch z)
    obtain ⟨r, e, er⟩ := deqT_some hT (fun _ _ z => nomatch z)
    rw [e]
    rw [← er] at hQ
    exact hQ
theorem oj_neQ {W : WX} (q : QOk X k Q) (hr : Rm (k + 1) X.A) : OpJ X W (compareOp .NotEq) (eqQ Q true) := by
  intro pins s σ H B ρ μ G a b va vb u w qq x Qv J R ra rb ru rw' h gv gx
  have o := R.ok
  have rm : RmT k (10 + 1) X.A := ⟨(RmT.of hr).dp, by have := (RmT.of hr).un; omega, (RmT.of hr).gd⟩
  have fin : ∀ {r : Bool}, qq (.bl (!r)) μ → wpAny (model X.prog X.w) X.A (richCompare .NotEq u w) (fun v s' => v = .bool (!r) ∧ Aft X pins σ B μ G H s') X.xe s → wpAny (model X.prog X.w) X.A (compareOp .NotEq u w) (EP X pins σ Qv) X.xe s := fun {r} hq hw =>
    wpAny_mono (show wpAny (model X.prog X.w) X.A (compareOp .NotEq u w) _ X.xe s from hw) (fun v s' ⟨e, G', H', g, J'⟩ => by subst e; exact ⟨.bl (!r), H', J', rfl, gv _ _ _ _ _ hq g (rep_bl _)⟩) fun _ _ z => z
  have flat : ∀ {r : Bool}, eqS a b = some r → qq (.bl (!r)) μ → wpAny (model X.prog X.w) X.A (compareOp .NotEq u w) (EP X pins σ Qv) X.xe s := fun {r} he hq =>
    oj_neS pins s σ H B ρ μ G a b va vb u w qq x Qv J R ra rb ru rw' (by show (match eqS a b with | some k => qq (.bl (sgn true k)) μ | none => False); rw [he]; exact hq) gv gx
  obtain ⟨r0, hT, hQ⟩ := eqQ_inv h
  clear h
  have rest : (match deq Q 10 (rdL μ a) (rdL μ b) with | some r => qq (.bl (sgn true r)) μ | none => False) → (∀ c xs, a ≠ .obj c xs) → wpAny (model X.prog X.w) X.A (compareOp .NotEq u w) (EP X pins σ Qv) X.xe s := fun h0 hno => by
    clear hQ hT
    cases e : deq Q 10 (rdL μ a) (rdL μ b) with
    | none => simp only [e] at h0
    | some r =>
      simp only [e] at h0
      by_cases ha : ∃ xs, rdL μ a = .lst xs
      · by_cases hb : ∃ ys, rdL μ b = .lst ys
        · obtain ⟨xs, ea⟩ := ha
          obtain ⟨ys, eb⟩ := hb
          obtain ⟨x, rfl, kx⟩ := rdL_lst (H := H) ra ea
          obtain ⟨y, rfl, ky⟩ := rdL_lst (H := H) rb eb
          obtain rfl : u = Value.ref x := ru
          obtain rfl : w = Value.ref y := rw'
          rw [ea, eb] at e
          exact fin h0 (rc_lst_ne (eb_deq q 9) rfl rfl ⟨rm.dp, by have := rm.un; omega, rm.gd⟩ J o kx ky e)
        · obtain ⟨xs, ea⟩ := ha
          rw [ea] at e
          cases eb : rdL μ b <;> rw [eb] at e <;> first | cases e | exact absurd ⟨_, eb⟩ hb
      · have ea := rdL_other fun xs z => ha ⟨xs, z⟩
        rw [ea] at e
        cases a with
        | obj c xs => exact absurd rfl (hno c xs)
        | lst xs => exact absurd ⟨xs, rfl⟩ ha
        | tup xs =>
          by_cases hb : ∃ ys, rdL μ b = .lst ys
          · obtain ⟨ys, eb⟩ := hb
            rw [eb] at e
            cases e
          · have eb := rdL_other fun xs z => hb ⟨xs, z⟩
            rw [eb] at e
            cases b with
            | tup ys =>
              obtain ⟨x, vs, rfl, sx, rx⟩ := ra.tup_inv
              obtain ⟨y, ws, rfl, sy, ry⟩ := rb.tup_inv
              obtain rfl : u = Value.ref x := ru
              obtain rfl : w = Value.ref y := rw'
              exact fin h0 (rc_tup_ne (eb_deq q 9) rfl rfl ⟨rm.dp, by have := rm.un; omega, rm.gd⟩ J o (o.sub.t sx) (o.sub.t sy) rx ry e)
            | _ => cases e
        | _ =>
          have e2 : eqS _ (rdL μ b) = some r := e
          have eb : rdL μ b = b := rdL_other fun ys z => by rw [z] at e2; cases e2
          rw [eb] at e2
          exact flat e2 h0
  cases a with
  | obj c xs => cases hT
  | _ =>
    refine rest ?_ (fun _ _ z => nomatch z)
    obtain ⟨r, e, er⟩ := deqT_some hT (fun _ _ z => nomatch z)
    rw [e]
    rw [← er] at hQ
    exact hQ
end
end Px
namespace Px
open PySem PySem.Spec PyProof.Rows L2
theorem prB_ok {K : Frg} {c : Cl} {f : Str} (h : prB K c f = true) : PropOf K (ca K c) f (He.ma K (ca K c) f) (prFn K (ca K c) f) := by
  obtain ⟨h1, h⟩ := He.ba h
  obtain ⟨h2, h⟩ := He.ba h
  obtain ⟨h3, h4⟩ := He.ba h
  refine ⟨?_, ?_, ?_, ?_⟩
  · unfold He.ma
    split at h1
    · rename_i a e
      rw [e]
    · cases h1
  · split at h2
    · rename_i g e
      rw [e, of_decide_eq_true h2]
    · cases h2
  · split at h3
    · assumption
    · cases h3
  · unfold prFn He5.wf
    split at h4
    · rename_i f r e
      exact ⟨r, by rw [e]⟩
    · cases h4
end Px
namespace Px
open PySem PySem.Spec PySem.Calls PyProof.Rows PySem.W
/-- the class's facts, checked -/
theorem excB_ok {K : Frag} {D : PySem.Addr} (h : excB K D = true) : L2.ExcC K D := by
  have b1 : ∀ {r n}, excB.isB r n = true → r = some (some (.builtin n)) := fun {r n} h => by
    unfold excB.isB at h; split at h
    · rw [of_decide_eq_true h]
    · cases h
  have b2 : ∀ {r}, excB.isN r = true → r = some none := fun {r} h => by
    unfold excB.isN at h; split at h
    · rfl
    · cases h
  have b3 : ∀ {r}, excB.isT r = true → r = some true := fun {r} h => by
    unfold excB.isT at h; split at h
    · rfl
    · cases h
  obtain ⟨h1, h⟩ := Bool.and_eq_true_iff.mp h
  obtain ⟨h2, h⟩ := Bool.and_eq_true_iff.mp h
  obtain ⟨h3, h⟩ := Bool.and_eq_true_iff.mp h
  obtain ⟨h4, h⟩ := Bool.and_eq_true_iff.mp h
  obtain ⟨h5, h⟩ := Bool.and_eq_true_iff.mp h
  obtain ⟨h6, h⟩ := Bool.and_eq_true_iff.mp h
  obtain ⟨h7, h8⟩ := Bool.and_eq_true_iff.mp h
  exact ⟨b1 h1, b2 h2, b3 h3, h4, b1 h5, b1 h6, b3 h7, b3 h8⟩
end Px
namespace Px
open PySem PySem.Spec PyProof.Rows L2
structure IsX (K : Frg) : Prop where
  ec : ∀ c, xcB K c = true → ExcC K (ca K c)
  xx : ∀ c d, xcB K c = true → xcB K d = true → PySem.W.kitOne K (.ref (ca K c)) (.ref (ca K d)) = some (subX c d)
  xv : ∀ c, xcB K c = true → PySem.W.kitOne K (.ref (ca K c)) (.type "ValueError") = some true
  ko : ∀ c, kcB K c = true → errC c = false
theorem eqOB_ok {a : Option Bool} {b : Bool} (h : eqOB a b = true) : a = some b := by
  unfold eqOB at h
  split at h
  · rw [eq_of_beq h]
  · cases h
theorem isxB_ok {K : Frg} {hs xs : List Cl} (hk : ∀ c, kcB K c = true → c ∈ hs) (hx : ∀ c, xcB K c = true → c ∈ xs) (h : isxB K hs xs = true) : IsX K := by
  obtain ⟨h0, h⟩ := He.ba h
  have g := fun c hc => He.ba (List.all_eq_true.mp h c (hx c hc))
  exact ⟨fun c hc => excB_ok (g c hc).1, fun c d hc hd => eqOB_ok (List.all_eq_true.mp (He.ba (g c hc).2).2 d (hx d hd)), fun c hc => eqOB_ok (He.ba (g c hc).2).1, fun c hc => by simpa using List.all_eq_true.mp h0 c (hk c hc)⟩
end Px
namespace Px
open PySem PySem.Spec PyProof.Rows L2
/-- a kind of members: how a value tells its key -/
structure Mk1 (P : Program) (w : World) (α : Type) [DecidableEq α] where
  kk : PySem.KeyKind P w α
  key : Value → α
  ok : Value → Prop
  iff : ∀ {v : Value} {k : α}, ok v → (kk.is k v = true ↔ key v = k)
  sc : ∀ {v : Value}, ok v → v.scannable = true
section
variable {P : Program} {w : World} {α : Type} [DecidableEq α] {M : Mk1 P w α} {A : Around} {E : Value → Shared → Prop} {s : Shared} {h h' : Heap} {a : Addr} {L : List α}
theorem Mk1.is (M : Mk1 P w α) {v : Value} (hv : M.ok v) : M.kk.is (M.key v) v = true := (M.iff hv).mpr rfl
def Mk1.good (M : Mk1 P w α) (e : Int × Value) : Prop := M.ok e.2 ∧ e.1 = M.kk.hash (M.key e.2)
def Mk1.keys (M : Mk1 P w α) (es : Array (Int × Value)) : List α := es.toList.map fun e => M.key e.2
/-- the table of a set that can be walked -/
structure Tab (w : World) (t : SetTable) (n : Nat) : Prop where
  fit : t.fits n = true
  ris : Ris t.place.toList
  led : w.params.followText "set-order" = true ∨ t.led = true
/-- the set at a: L its members, each once -/
structure Mset (M : Mk1 P w α) (h : Heap) (a : Addr) (L : List α) : Prop where
  ex : ∃ o es ep t, h.get? a = some o ∧ o.ExactSet ∧ o.data = .set es ep t ∧ (∀ e ∈ es.toList, M.good e) ∧ (M.keys es).Perm L ∧ Tab w t es.size
  nd : L.Nodup
  few : L.length < scanBound
theorem Mset.at (R : Mset M h a L) (k : ∀ o, h.get? a = some o → h'.get? a = some o) : Mset M h' a L := by
  obtain ⟨o, es, ep, t, ho, r⟩ := R.ex
  exact ⟨⟨o, es, ep, t, k o ho, r⟩, R.nd, R.few⟩
theorem Mk1.mem {es : Array (Int × Value)} (g : ∀ e ∈ es.toList, M.good e) (k : α) : k ∈ M.keys es ↔ ∃ e ∈ es.toList, M.kk.is k e.2 = true := by
  unfold Mk1.keys
  rw [List.mem_map]
  exact ⟨fun ⟨e, he, q⟩ => ⟨e, he, (M.iff (g e he).1).mpr q⟩, fun ⟨e, he, q⟩ => ⟨e, he, (M.iff (g e he).1).mp q⟩⟩
end
end Px
namespace Px
open PySem PySem.Spec PyProof.Rows L2
end Px
namespace Px
open PySem PySem.Spec PyProof.Rows L2
end Px
namespace Px
open PySem PySem.Spec PyProof.Rows L2
end Px
namespace Px
open PySem PySem.Spec PyProof.Rows L2
end Px
namespace Px
open PySem PySem.Spec PyProof.Rows L2
end Px
namespace Px
open PySem PySem.Spec PyProof.Rows L2
def nxt (m i : Nat) : Nat := (i * 5 + 1) % (m + 1)
def roadL (m : Nat) : Nat → Nat → List Nat
  | 0, _ => []
  | n + 1, i => i :: roadL m n (nxt m i)
def fullM (m : Nat) : Bool := (List.range (m + 1)).all fun i => (List.range (m + 1)).all fun j => (roadL m (m + 1) i).contains j
/-- a mask under which every search goes everywhere -/
structure GoodM (m : Nat) : Prop where
  f : fullM m = true
  b : m ≤ 63
  s : 7 ≤ m
end Px
namespace Px
open PySem PySem.Spec PyProof.Rows L2
section
variable {P : Program} {w : World} {A : Around} {E : Value → Shared → Prop} {s : Shared} {r b : Addr} {M : Mk1 P w Str} {L : List Str}
/-- a set whose table is good -/
structure MsetG (M : Mk1 P w Str) (h : Heap) (a : Addr) (L : List Str) : Prop where
  ex : ∃ o es ep t, h.get? a = some o ∧ o.ExactSet ∧ o.data = .set es ep t ∧ (∀ e ∈ es.toList, M.good e) ∧ (M.keys es).Perm L ∧ Tab w t es.size ∧ GoodM t.mask
  nd : L.Nodup
  few : L.length < scanBound
theorem MsetG.m {h : Heap} {a : Addr} (R : MsetG M h a L) : Mset M h a L := by
  obtain ⟨o, es, ep, t, h1, h2, h3, h4, h5, h6, _⟩ := R.ex
  exact ⟨⟨o, es, ep, t, h1, h2, h3, h4, h5, h6⟩, R.nd, R.few⟩
end
end Px
namespace PySem.F
end PySem.F
namespace Px
open PySem PySem.Spec PyProof.Rows L2
end Px
namespace Px
open PySem PySem.Spec PyProof.Rows L2
end Px
namespace Px
open PySem PySem.Spec PyProof.Rows L2
end Px
namespace Px
open PySem PySem.Spec PyProof.Rows L2
end Px
namespace Px
open PySem PySem.Spec PyProof.Rows L2
/-- what a generator's promise tells: the items, the cells that must stay -/
def genV (ys : List PV) (ks : List Addr) : PV := .tup [.lst ys, .lst (ks.map .cell)]
/-- a generator def's code -/
structure GDef where
  mg : Str → Option Value
  N : List Str
  qual : Str
  scope : Scope
  f : Addr
  cd : Value
abbrev GP.of (P : Program) (w : World) (K : Frg) (base : Heap) (A : Around) (outer : List Env) (L : Addr) (B : BX) (ks : List Addr) (D : GDef) : GP := ⟨P, w, K, D.mg, base, D.N, D.qual, D.scope, D.f, D.cd, A, outer, L, B, ks⟩
/-- a new generator behind the state s -/
structure GNw (P : Program) (w : World) (K : Frg) (base : Heap) (k : Nat) (outer : List Env) (B : BX) (μ : Mu) (G H : Hp) (s s1 : Shared) (a : Addr) (g : Nat) (L : Addr) (oa : Obj) (gs : GenState) (ys : List PV) (ks : List Addr) : Prop where
  L1 : s.heap.objs.size ≤ L
  L2 : L < a
  a2 : a < s1.heap.objs.size
  ge : s1.heap.get? a = some oa
  isg : ∀ h : Heap, h.get? a = some oa → h.IsGen a g
  noc : ∀ v, oa.data ≠ .cell v
  gen : s1.gens[g]? = some gs
  fresh : ∃ c, gs = .fresh c
  os : s1.os = s.os
  bare : AllBare s1.gens
  keep : ∀ b o, s.heap.get? b = some o → s1.heap.get? b = some o
  own : ∃ o, s1.heap.get? L = some o ∧ ∀ v, o.data ≠ .cell v
  bsz : base.objs.size ≤ L
  wake : ∀ A : Around, A.handled = none → Rm k A → A.frames = some outer → ∃ D : GDef, (GP.of P w K base A outer L B ks D).env.cells = [] ∧ ∀ d : WD, Ready (GP.of P w K base A outer L B ks D) [] μ G H s1 d → WkG (model P w) A (TF (GP.of P w K base A outer L B ks D) ys d) gs d.s
/-- the generator def at f, called with n positional arguments and the keywords ks -/
def GnW (P : Program) (w : World) (K : Frg) (mg : Str → Option Value) (base : Heap) (k : Nat) (f : Addr) (n : Nat) (kn : List Str) (ct : Ct) : Prop :=
  ∀ (A : Around) (outer : List Env) (s : Shared) (H : Hp) (us ws : List Value) (vs : List V) (B : BX) (μ : Mu) (G : Hp) (as : List PV) (q : QV) (z : QX), A.handled = none → Rm k A → Env0 P w K mg base A outer s H → us.length = n → ws.length = kn.length → Vals vs (us ++ ws) → Ok K B μ G H → Reps K B G as vs → ct as μ q z →
    codeAny (model P w) A (.call (.ref f) ⟨us, kn.zip ws⟩) (fun r s1 => ∃ a g L oa gs ys ks, r = .ok (.ret (.ref a)) ∧ q (genV ys ks) μ ∧ GNw P w K base k outer B μ G H s s1 a g L oa gs ys ks) s
end Px
namespace Px
open PySem PySem.Spec PyProof.Rows L2
/-- no cell -/
def NoC (o : Obj) : Prop := ∀ v, o.data ≠ .cell v
/-- the consumer's view of how it sleeps -/
abbrev GP.at (X : Cx) (A : Around) (L : Addr) (B : BX) (ks : List Addr) (D : GDef) : GP := GP.of X.prog X.w X.K X.base A X.stack L B ks D
abbrev ownL (a L : Addr) (its : List (Addr × Obj)) : List Addr := a :: L :: its.map (·.1)
structure AslG (X : Cx) (Γ : GP) (pins : List (Addr × Obj)) (oa : Obj) (a : Addr) (g : Nat) (ys : List PV) (its : List (Addr × Obj)) (μ0 : Mu) (G0 H0 : Hp) (s0 : Shared) (H : Hp) (s : Shared) : Prop where
  ge : s.heap.get? a = some oa
  own : ∀ o, s0.heap.get? Γ.L = some o → s.heap.get? Γ.L = some o
  ownE : ∃ o, s0.heap.get? Γ.L = some o ∧ NoC o
  itO : ∀ p ∈ its, s.heap.get? p.1 = some p.2 ∧ NoC p.2 ∧ Γ.L ≤ p.1 ∧ p.1 ≠ Γ.L
  gen : ∃ gs, s.gens[g]? = some gs ∧ ((∃ c, gs = .fresh c) ∨ ∃ k l c p fs, gs = .suspended k l c p fs false) ∧ ∀ d, Ready Γ its μ0 G0 H0 s0 d → WkG (model X.prog X.w) Γ.A (TF Γ ys d) gs d.s
  fp : ∀ b ∈ ownL a Γ.L its, FpOk X pins H b
section
variable {X : Cx} {dk : Addr → Prop} {A1 : Around} {L a : Addr} {B : BX} {ks : List Addr} {D : GDef} {pins its : List (Addr × Obj)} {oa : Obj} {g : Nat} {ys : List PV} {μ0 μ : Mu} {G0 H0 G H : Hp} {s0 s : Shared} {σ : L2.St} {ρ : En}
theorem AslG.tnc {Γ : GP} (z : AslG X Γ pins oa a g ys its μ0 G0 H0 s0 H s) (hoa : NoC oa) : ∀ b ∈ ownL a Γ.L its, ∃ o, s.heap.get? b = some o ∧ ∀ v, o.data ≠ .cell v := fun b hb => by
  rcases List.mem_cons.mp hb with e | hb
  · rw [e]; exact ⟨oa, z.ge, hoa⟩
  · rcases List.mem_cons.mp hb with e | hb
    · rw [e]
      obtain ⟨o, e, n⟩ := z.ownE
      exact ⟨o, z.own _ e, n⟩
    · obtain ⟨p, hp, e⟩ := List.mem_map.mp hb
      rw [← e]
      obtain ⟨e1, e2, _⟩ := z.itO p hp
      exact ⟨_, e1, e2⟩
/-- the consumer ran on: the sleeper sleeps -/
theorem AslG.keep {Γ : GP} {σ' : L2.St} {H' : Hp} {s' : Shared} (z : AslG X Γ pins oa a g ys its μ0 G0 H0 s0 H s) (hoa : NoC oa) (I : Inv X (pins ++ pinsAt (ownL a Γ.L its) s.heap) σ' H' s') (hsus : ∃ k l c p fs, s.gens[g]? = some (GenState.suspended k l c p fs false))
    (hg : ∀ k l c p fs cl, s.gens[g]? = some (GenState.suspended k l c p fs cl) → s'.gens[g]? = some (GenState.suspended k l c p fs cl)) : AslG X Γ pins oa a g ys its μ0 G0 H0 s0 H' s' ∧ ∃ k l c p fs, s'.gens[g]? = some (GenState.suspended k l c p fs false) := by
  have pin : ∀ b ∈ ownL a Γ.L its, ∀ o, s.heap.get? b = some o → s'.heap.get? b = some o ∧ H' b = none := fun b hb o e => by
    have q := I.pin (b, o) (List.mem_append_right _ (List.mem_append_right _ (mem_pinsAt hb e)))
    exact ⟨q.1, q.2.1⟩
  obtain ⟨k, l, c, p, fs, es⟩ := hsus
  obtain ⟨gs, egs, hform, wk⟩ := z.gen
  have es' := hg _ _ _ _ _ _ es
  rw [es] at egs
  cases egs
  refine ⟨⟨(pin a List.mem_cons_self _ z.ge).1, fun o e => (pin Γ.L (List.mem_cons_of_mem _ List.mem_cons_self) o (z.own o e)).1, z.ownE, fun p hp => ?_, ⟨_, es', hform, wk⟩, fun b hb => ?_⟩, ⟨k, l, c, p, fs, es'⟩⟩
  · obtain ⟨e1, e2⟩ := z.itO p hp
    exact ⟨(pin p.1 (List.mem_cons_of_mem _ (List.mem_cons_of_mem _ (List.mem_map_of_mem hp))) _ e1).1, e2⟩
  · obtain ⟨o, e, _⟩ := z.tnc hoa b hb
    exact fpAt (z.fp b hb) (pin b hb o e).2
end
end Px
namespace Px
open PySem PySem.Spec PyProof.Rows L2
end Px
namespace Px
open PySem PySem.Spec PyProof.Rows L2
end Px
namespace Px
open PySem PySem.Spec PyProof.Rows L2
end Px
namespace HotX
open PySem PySem.Spec PyProof.Rows
section
variable {prog : Program} {w : World} {A : Around} {E : Value → Shared → Prop} {s : Shared}
theorem list_end_hot {it x1 l : Addr} {i : Nat} {items : Array Value} {Q : Option Value → Shared → Prop} (hot : HotAt A x1 s.heap) (hit : s.heap.IsListIter it l i) (hl : s.heap.IsList l items) (hx : items[i]? = none)
    (hQ : ∀ h', (∀ b o, b ≠ it → s.heap.get? b = some o → h'.get? b = some o) → Q none { s with heap := h' }) : wpAny (model prog w) A (pyNext (.ref it)) Q E s := by
  obtain ⟨o, ho, hc, hd⟩ := id hit
  obtain ⟨ol, hol, _, nl, hdl⟩ := hl
  obtain ⟨hh, o1, vs1, h1, d1, c1⟩ := hot
  have hne : x1 ≠ it := fun z => by
    rw [z, ho] at h1
    cases h1
    rw [hd] at d1
    cases d1
    cases c1
  unfold pyNext
  refine wpAny_bind (wpAny_attempt (wpAny_callSpecial?_slot (name := Str.ofString "__next__") hit.typeIs slot_listiter_next
    (wpAny_call_entry slot_listiter_next hit.typeIs entry_listiter_next ?_ (args_listiter_next _))))
  show wpAny _ _ (field (.ref it) 0 >>= _) _ _ s
  refine wpAny_bind (wpAny_field ho hd (x := .ref l) rfl ?_)
  show wpAny _ _ (if (Value.ref l == Value.none) = true then _ else _) _ _ s
  rw [if_neg (show ¬ ((Value.ref l == Value.none) = true) from Bool.false_ne_true)]
  show wpAny _ _ (field (.ref it) 1 >>= _) _ _ s
  refine wpAny_bind (wpAny_field ho hd (x := .int i 0) rfl ?_)
  show wpAny _ _ (seqItems? (.ref l) >>= _) _ _ s
  refine wpAny_bind (wpAny_seqItems hol hdl ?_)
  simp only [Int.toNat_natCast, hx]
  refine wpAny_bind (wpAny_rule (wpAny_bind (wpAny_setField ho hd (by simp) ?_)))
  show wpAny _ _ (newExc (.type "StopIteration") [] >>= _) _ _ _
  refine wpAny_bind ?_
  simp only [newExc, newTuple]
  refine wpAny_bind (wpAny_newObj_type ?_ (by size_fits))
  refine wpAny_bind (m := firstArgMember _ _) (wpAny_of_eq (a := Value.none) (by first | rfl | (simp only [firstArgMember]; rfl)) ?_)
  refine wpAny_newObj_type ?_ (by size_fits)
  have h1' := (Heap.get?_update_other s.heap (Obj.mapFields (·.setIfInBounds 0 .none)) (Ne.symm hne)).trans h1
  refine raiseNew_hot ⟨hh, o1, vs1, Heap.get?_push_of_some _ (Heap.get?_push_of_some _ h1'), d1, c1⟩ (Nat.ne_of_lt (Heap.lt_size (Heap.get?_push_of_some _ h1'))) (Heap.get?_push_size _ rfl) rfl (by first | (simp; done) | (simp; omega) | (simp only [Array.size_append]; simp; omega)) ?_
  refine wpAny_bind (wpAny_isInstance (T := "StopIteration") (b := true) ⟨_, Heap.get?_update_self _ (Heap.get?_push_size _ rfl) rfl, rfl⟩ isSubtype_stop ?_)
  refine wpAny_pure (hQ _ fun b o hb e => ?_)
  have e' := (Heap.get?_update_other s.heap (Obj.mapFields (·.setIfInBounds 0 .none)) (Ne.symm hb)).trans e
  rw [Heap.get?_update_other _ _ (Nat.ne_of_gt (Heap.lt_size (Heap.get?_push_of_some _ e')))]
  exact Heap.get?_push_of_some _ (Heap.get?_push_of_some _ e')
theorem tuple_end_hot {it x1 l : Addr} {i : Nat} {items : Array Value} {Q : Option Value → Shared → Prop} (hot : HotAt A x1 s.heap) (hit : s.heap.IsTupleIter it l i) (hl : s.heap.IsTuple l items) (hx : items[i]? = none)
    (hQ : ∀ h', (∀ b o, b ≠ it → s.heap.get? b = some o → h'.get? b = some o) → Q none { s with heap := h' }) : wpAny (model prog w) A (pyNext (.ref it)) Q E s := by
  obtain ⟨o, ho, hc, hd⟩ := id hit
  obtain ⟨ol, hol, _, nl, hdl⟩ := hl
  obtain ⟨hh, o1, vs1, h1, d1, c1⟩ := hot
  have hne : x1 ≠ it := fun z => by
    rw [z, ho] at h1
    cases h1
    rw [hd] at d1
    cases d1
    cases c1
  unfold pyNext
  refine wpAny_bind (wpAny_attempt (wpAny_callSpecial?_slot (name := Str.ofString "__next__") hit.typeIs F.slot_tuple_iterator_next
    (wpAny_call_entry F.slot_tuple_iterator_next hit.typeIs F.entry_tuple_iterator_next ?_ (F.args_tuple_iterator_next_1 _))))
  show wpAny _ _ (field (.ref it) 0 >>= _) _ _ s
  refine wpAny_bind (wpAny_field ho hd (x := .ref l) rfl ?_)
  show wpAny _ _ (if (Value.ref l == Value.none) = true then _ else _) _ _ s
  rw [if_neg (show ¬ ((Value.ref l == Value.none) = true) from Bool.false_ne_true)]
  show wpAny _ _ (field (.ref it) 1 >>= _) _ _ s
  refine wpAny_bind (wpAny_field ho hd (x := .int i 0) rfl ?_)
  show wpAny _ _ (seqItems? (.ref l) >>= _) _ _ s
  refine wpAny_bind (wpAny_seqItems hol hdl ?_)
  simp only [Int.toNat_natCast, hx]
  refine wpAny_bind (wpAny_rule (wpAny_bind (wpAny_setField ho hd (by simp) ?_)))
  show wpAny _ _ (newExc (.type "StopIteration") [] >>= _) _ _ _
  refine wpAny_bind ?_
  simp only [newExc, newTuple]
  refine wpAny_bind (wpAny_newObj_type ?_ (by size_fits))
  refine wpAny_bind (m := firstArgMember _ _) (wpAny_of_eq (a := Value.none) (by first | rfl | (simp only [firstArgMember]; rfl)) ?_)
  refine wpAny_newObj_type ?_ (by size_fits)
  have h1' := (Heap.get?_update_other s.heap (Obj.mapFields (·.setIfInBounds 0 .none)) (Ne.symm hne)).trans h1
  refine raiseNew_hot ⟨hh, o1, vs1, Heap.get?_push_of_some _ (Heap.get?_push_of_some _ h1'), d1, c1⟩ (Nat.ne_of_lt (Heap.lt_size (Heap.get?_push_of_some _ h1'))) (Heap.get?_push_size _ rfl) rfl (by first | (simp; done) | (simp; omega) | (simp only [Array.size_append]; simp; omega)) ?_
  refine wpAny_bind (wpAny_isInstance (T := "StopIteration") (b := true) ⟨_, Heap.get?_update_self _ (Heap.get?_push_size _ rfl) rfl, rfl⟩ isSubtype_stop ?_)
  refine wpAny_pure (hQ _ fun b o hb e => ?_)
  have e' := (Heap.get?_update_other s.heap (Obj.mapFields (·.setIfInBounds 0 .none)) (Ne.symm hb)).trans e
  rw [Heap.get?_update_other _ _ (Nat.ne_of_gt (Heap.lt_size (Heap.get?_push_of_some _ e')))]
  exact Heap.get?_push_of_some _ (Heap.get?_push_of_some _ e')
/-- the walk of a built-in over a list -/
theorem walks_listH (I ax x1 : Addr) (hne : ax ≠ I) (h1 : x1 ≠ I) (items : Array Value) :
    Walks prog w A I [I, ax, x1] [I] items.size (fun i v => items[i]? = some v) (fun i h => (h.IsListIter I ax i ∧ h.IsList ax items) ∧ HotAt A x1 h) where
  sub := fun b hb => by simp at hb; simp [hb]
  frame := fun _ _ _ st hk => ⟨⟨st.1.1.at fun o e => hk I (by simp) o e, st.1.2.at fun o e => hk ax (by simp) o e⟩, by
    obtain ⟨a, o, vs, b, c, d⟩ := st.2
    exact ⟨a, o, vs, hk x1 (by simp) o b, c, d⟩⟩
  item := fun i s Q E hi st hQ => by
    refine wpAny_pyNext_list_item st.1.1 st.1.2 (x := items[i]) (by simp [hi]) fun h' hit' hs' => ?_
    refine hQ _ h' s.toks (by simp [hi]) ⟨⟨hit', st.1.2.extBut hs'.extBut hne⟩, ?_⟩ fun b o hb e => hs'.extBut b o (fun h => hb (by simp [h])) e
    obtain ⟨a, o, vs, b, c, d⟩ := st.2
    exact ⟨a, o, vs, hs'.extBut x1 o h1 b, c, d⟩
  done := fun s Q E st hQ => list_end_hot st.2 st.1.1 st.1.2 (by simp) fun h' he' => hQ h' s.toks fun b o hb e => he' b o (fun h => hb (by simp [h])) e
  self := fun _ _ _ _ st hQ => wpAny_pyIter_listiter st.1.1 hQ
end
end HotX
namespace L2
open PySem PySem.Spec PyProof.Rows
theorem turn_listH {P : Program} {w : World} {K : PySem.W.Frag} {tg : Expr} (a it : Addr) : L2H.TurnH P w K tg (Itl K a) [it] it (fun i h => h.IsListIter it a i) where
  mem := by simp
  obj := fun i h st b hb => (turn_list (P := P) (w := w) (K := K) (tg := tg) a it).obj i h st b hb
  keep := fun i h h' st k => (turn_list (P := P) (w := w) (K := K) (tg := tg) a it).keep i h h' st k
  item := by
    intro X hP hw hK hc i pins s σ H E I hf st hg
    subst hP hw hK
    obtain ⟨xs, x, hq, hx⟩ := hg
    obtain ⟨its, rv, p, hz⟩ := I.list hq
    obtain ⟨u, hu, ru⟩ := rv.get hx
    obtain ⟨f0, f1, f2, f3, f4, f5⟩ := hf it (by simp)
    refine wpAny_pyNext_list_item st p.isList (x := u) (by simpa using hu) fun h' st' sb => ?_
    have I1 : Inv X pins σ H { s with heap := h' } := I.turned (t' := s.toks) (fun b o hb e => (sb.2 b hb).trans e) f0 f1 f3 f4 f5
    obtain ⟨o, e, c, d⟩ := id st'
    exact ⟨u, rfl, go_of (s := { s with heap := h' }) e c d (by decide) ⟨x, H, I1, ru, ⟨rfl, fun ys hy => by rw [I.list_inj hy hq]; exact hx⟩, st', fun b hb => (hf b hb).1⟩⟩
  done := by
    intro X hP hw hK hc i pins s σ H E I hf st hg
    subst hP hw hK
    obtain ⟨xs, hq, hx⟩ := hg
    obtain ⟨its, rv, p, hz⟩ := I.list hq
    obtain ⟨f0, f1, f2, f3, f4, f5⟩ := hf it (by simp)
    obtain ⟨x1, hot⟩ := hc.at I
    have hl := rv.length
    exact HotX.list_end_hot hot st p.isList (by simp; omega) fun h' eb => ⟨rfl, I.turned (t' := s.toks) (fun b o hb e => eb b o hb e) f0 f1 f3 f4 f5⟩
  self := fun A i s Q E st h => (turn_list (P := P) (w := w) (K := K) (tg := tg) a it).self A i s Q E st h
theorem turn_tupleH {P : Program} {w : World} {K : PySem.W.Frag} {tg : Expr} (a it : Addr) : L2H.TurnH P w K tg (Itt K a) [it] it (fun i h => h.IsTupleIter it a i) where
  mem := by simp
  obj := fun i h st b hb => (turn_tuple (P := P) (w := w) (K := K) (tg := tg) a it).obj i h st b hb
  keep := fun i h h' st k => (turn_tuple (P := P) (w := w) (K := K) (tg := tg) a it).keep i h h' st k
  item := by
    intro X hP hw hK hc i pins s σ H E I hf st hg
    subst hP hw hK
    obtain ⟨xs, x, hq, hx⟩ := hg
    obtain ⟨its, rv, p, hz⟩ := I.tuple hq
    obtain ⟨u, hu, ru⟩ := rv.get hx
    obtain ⟨f0, f1, f2, f3, f4, f5⟩ := hf it (by simp)
    refine wpAny_pyNext_tuple_item st (show s.heap.IsTuple a its.toArray from p) (x := u) (by simpa using hu) fun h' st' sb => ?_
    have I1 : Inv X pins σ H { s with heap := h' } := I.turned (t' := s.toks) (fun b o hb e => (sb.2 b hb).trans e) f0 f1 f3 f4 f5
    obtain ⟨o, e, c, d⟩ := id st'
    exact ⟨u, rfl, go_of (s := { s with heap := h' }) e c d (by decide) ⟨x, H, I1, ru, ⟨rfl, fun ys hy => by rw [I.tuple_inj hy hq]; exact hx⟩, st', fun b hb => (hf b hb).1⟩⟩
  done := by
    intro X hP hw hK hc i pins s σ H E I hf st hg
    subst hP hw hK
    obtain ⟨xs, hq, hx⟩ := hg
    obtain ⟨its, rv, p, hz⟩ := I.tuple hq
    obtain ⟨f0, f1, f2, f3, f4, f5⟩ := hf it (by simp)
    obtain ⟨x1, hot⟩ := hc.at I
    have hl := rv.length
    exact HotX.tuple_end_hot hot st (show s.heap.IsTuple a its.toArray from p) (by simp; omega) fun h' eb => ⟨rfl, I.turned (t' := s.toks) (fun b o hb e => eb b o hb e) f0 f1 f3 f4 f5⟩
  self := fun A i s Q E st h => (turn_tuple (P := P) (w := w) (K := K) (tg := tg) a it).self A i s Q E st h
/-- the block of a comprehension; the handled error stays pinned -/
abbrev blkH (X : Cx) (p : Addr × Obj) (s : Shared) (H : Hp) (scope : Scope) (cenv : Env) (fp : List Addr) : Cx := { X.blk s H scope cenv fp with pn := [p] }
def PinF (Y : Cx) (H : Hp) (s : Shared) (p : Addr × Obj) : Prop := s.heap.get? p.1 = some p.2 ∧ H p.1 = none ∧ p.1 ≠ Y.env.locals ∧ p.1 ∉ Y.fs ∧ ∀ v, p.2.data ≠ .cell v
theorem pinC {X : Cx} {s s' : Shared} {H H' : Hp} {scope : Scope} {cenv : Env} {fp : List Addr} {σ : St} {p : Addr × Obj} (I : Inv (X.blk s H scope cenv fp) [] σ H' s') (h : PinF (X.blk s H scope cenv fp) H' s' p) : Inv (blkH X p s H scope cenv fp) [] σ H' s' :=
  ⟨⟨I.ok.mod, I.ok.kind, I.ok.glob, I.ok.blt, I.ok.above, I.ok.inj, I.ok.has, I.ok.cab, I.ok.hd, I.ok.frames, I.ok.stk, I.ok.exf, I.ok.bs, I.ok.bsz, I.ok.noex, I.ok.exfs, I.ok.funs, I.ok.frf⟩, I.os, I.bare, I.base, I.loc, I.cell, I.free, I.freeC, fun q hq => by
    have e : q = p := by simpa using (show q ∈ ([p] : List (Addr × Obj)) ++ [] from hq)
    rw [e]
    exact h, I.hok, I.len⟩
theorem pinF {X : Cx} {pins : List (Addr × Obj)} {σ : St} {H : Hp} {s : Shared} {h' : Heap} {tk : Nat} {scope : Scope} {cl : List (Str × Addr)} {fp : List Addr} {p : Addr × Obj} (I : Inv X pins σ H s) (hp : p ∈ X.pn) (k : ∀ b o, s.heap.get? b = some o → h'.get? b = some o) :
    PinF (X.blk s H scope (compEnvC scope cl s.heap.objs.size X.env) fp) H { s with heap := h' } p := by
  obtain ⟨a1, a2, a3, a4, a5⟩ := I.pin p (List.mem_append_left _ hp)
  refine ⟨k _ _ a1, a2, fun z => ?_, fun z => ?_, a5⟩
  · have z : p.1 = s.heap.objs.size := z
    exact absurd (Heap.lt_size a1) (by rw [z]; exact Nat.lt_irrefl _)
  · have z : p.1 ∈ frs X.stack := z
    rcases I.ok.stk with e | ⟨e, e2⟩
    · rw [e] at z
      exact a4 z
    · rw [e] at z
      unfold frs at z
      rw [List.filterMap_cons, e2] at z
      rcases List.mem_cons.mp z with q | q
      · exact a3 q
      · exact a4 q
section
variable {X : Cx}
theorem lcH_core {pins : List (Addr × Obj)} {s : Shared} {σ : St} {H : Hp} {Q : VK} {elt tg iter : Expr} {ifs : List Expr} {scope : Scope} {own : List (Str × Nat)} {pos pos' : Pos} {wi : TI} {g : TG} {tt : TT} {te : TE} {use : Option (Value → Sem Unit)} {Qf : Value → Shared → Prop}
    (hc : L2H.HotC X) (hN : X.N.Nodup) (I : Inv X pins σ H s) (hi : L2H.PIH X tg iter wi) (ok : BlkOk X.N X.env.scope scope own)
    (hg : ∀ (p : Addr × Obj), L2H.Hot1 X.A p → ∀ (s : Shared) (H : Hp) (C : Addr) (cl : List (Str × Addr)) (fp : List Addr), PG (blkH X p s H scope (compEnvC scope cl C X.env) fp) tg g) (ht : ∀ (p : Addr × Obj), L2H.Hot1 X.A p → ∀ (s : Shared) (H : Hp) (C : Addr) (cl : List (Str × Addr)) (fp : List Addr), PTs (blkH X p s H scope (compEnvC scope cl C X.env) fp) ifs tt)
    (he : ∀ (p : Addr × Obj), L2H.Hot1 X.A p → ∀ (s : Shared) (H : Hp) (C : Addr) (cl : List (Str × Addr)) (fp : List Addr), PE (blkH X p s H scope (compEnvC scope cl C X.env) fp) elt te) (hs : ∀ x, foldedSetIterable iter X.env x = pure x)
    (h : tLc wi g tt te (own.map (·.2)) σ H Q)
    (hRR : ∀ D C s' m H', Inv X pins σ H' s' → Q (.ref D) H' → s'.heap.Ns C m → FpOk X pins H' C → compPost (model X.prog X.w) X.A X.xe use Qf (.ref D) C (.ok .next) s') :
    wpAny (model X.prog X.w) X.A (comprehension (.ListComp elt [⟨tg, iter, ifs, 0⟩] scope pos) scope X.env pos' (newList []) false (eval iter X.env) use) Qf X.xe s := by
  obtain ⟨p, hot1, hpn⟩ := hc
  have hfree : ∀ y ∈ scope.names, y.2 = .free → ∃ c, X.env.cells.lookup y.1 = some c := fun y hy e => by
    rcases ok.free y hy e with k | k
    · exact I.ok.has _ (.inl k)
    · exact I.ok.has _ (.inr k)
  refine wpAny_comprehension_free (use := use) rfl hs (closure_ok hfree) ok.kind (fun y hy e => by rw [ok.uniq y hy, e])
    (thn (hi.run pins s σ H _ I h) fun xv s1 hx => thn hx fun itv s2 h2 => ?_)
  obtain ⟨it, fp, tn, J, H2, e, I2, T, st2, f2, q⟩ := h2
  subst e
  refine wpAny_newObj_type (newEnv_comp ?_) (by show 0 ≤ sizeLine; decide)
  generalize hD : s2.heap.objs.size = D
  have hDn : H2 D = none := I2.hok.fresh (Nat.le_of_eq hD)
  obtain ⟨W, ⟨m0, w0⟩, turn⟩ := q D hDn
  -- the new list
  generalize hs3 : ({ s2 with heap := s2.heap.push { cls := .type "list", data := .seq ([] : List Value).toArray } } : Shared) = s3
  have I3 : Inv X pins σ (upd H2 D (.lst [])) s3 := by
    rw [← hs3]
    refine I2.laid (t' := s2.toks) (fun b o e => Heap.get?_push_of_some _ e) (Nat.le_of_eq hD) ⟨Nat.zero_le _, [], 0, .nil, ?_⟩
    rw [← hD]
    exact Heap.get?_push_size _ rfl
  have h3 : s3.heap = s2.heap.push { cls := .type "list", data := .seq ([] : List Value).toArray } := by rw [← hs3]
  have sz : ∀ b ∈ fp, b < s2.heap.objs.size := fun b hb => by
    obtain ⟨o, e, _⟩ := T.obj _ _ st2 b hb
    exact Heap.lt_size e
  have f3 : ∀ b ∈ fp, FpOk X pins (upd H2 D (.lst [])) b ∧ b < s3.heap.objs.size := fun b hb => by
    have hlt := sz b hb
    refine ⟨⟨?_, (f2 b hb).2⟩, by rw [h3, Heap.size_push]; exact Nat.lt_succ_of_lt hlt⟩
    rw [upd_ne (by rw [← hD]; exact Nat.ne_of_lt hlt)]
    exact (f2 b hb).1
  have st3 : tn 0 s3.heap := T.keep _ _ _ st2 fun b _ o e => by rw [h3]; exact Heap.get?_push_of_some _ e
  have I4 := pinC (p := p) (block_start I3 ok hN f3) (pinF (tk := s3.toks) I3 hpn (fun b o e => pushCells_keeps _ _ _ _ (Heap.get?_push_of_some _ e)))
  have pg := hg p hot1 s3 (upd H2 D (.lst [])) s3.heap.objs.size (cellsFrom (s3.heap.objs.size + 1) scope.names (cloFrom X.env.cells scope.names [])) fp
  have pt := ht p hot1 s3 (upd H2 D (.lst [])) s3.heap.objs.size (cellsFrom (s3.heap.objs.size + 1) scope.names (cloFrom X.env.cells scope.names [])) fp
  have pe := he p hot1 s3 (upd H2 D (.lst [])) s3.heap.objs.size (cellsFrom (s3.heap.objs.size + 1) scope.names (cloFrom X.env.cells scope.names [])) fp
  show codeAny _ _ (.compStart (.ListComp elt [⟨tg, iter, ifs, 0⟩] scope pos) 0 (.ref it) (.ref D) (compEnvC scope (cellsFrom (s3.heap.objs.size + 1) scope.names (cloFrom X.env.cells scope.names [])) s3.heap.objs.size X.env)) (compPost (model X.prog X.w) X.A X.xe use Qf (.ref D) s3.heap.objs.size) { s3 with heap := pushCells (s3.heap.push { cls := .type "dict", data := .dict #[] }) scope.names }
  have nfp : ∀ b ∈ fp, (upd H2 D (.lst [])) b = none := fun b hb => (f3 b hb).1.1
  generalize hce : compEnvC scope (cellsFrom (s3.heap.objs.size + 1) scope.names (cloFrom X.env.cells scope.names [])) s3.heap.objs.size X.env = ce at I4 pg pt pe ⊢
  have cL : ce.locals = s3.heap.objs.size := by subst hce; rfl
  generalize hH3 : upd H2 D (.lst []) = H3 at I3 I4 pg pt pe w0 nfp f3
  generalize hs4 : ({ s3 with heap := pushCells (s3.heap.push { cls := .type "dict", data := .dict #[] }) scope.names } : Shared) = s4 at I4 ⊢
  have st4 : tn 0 s4.heap := T.keep _ _ _ st3 fun b _ o e => by rw [← hs4]; exact pushCells_keeps _ _ _ _ (Heap.get?_push_of_some _ e)
  have stat : ∀ {σ' : St} {H' : Hp} {s' : Shared}, Inv (blkH X p s3 H3 scope ce fp) [] σ' H' s' → (∀ b ∈ fp, H' b = none) → ∀ b ∈ fp, FpOk (blkH X p s3 H3 scope ce fp) [] H' b := fun {σ' H' s'} I' hn b hb =>
    ⟨hn b hb, (I'.ok.exf b hb).1, I'.ok.exfs b hb, .inl hb, fun x c e => (I'.ok.exf b hb).2 x c e, fun q hq => by
      have e : q = p := by simpa using (show q ∈ ([p] : List (Addr × Obj)) ++ [] from hq)
      rw [e]
      exact (f3 b hb).1.2.2.2.2.2 p (List.mem_append_left _ hpn)⟩
  have hot : L2H.HotC (blkH X p s3 H3 scope ce fp) := ⟨p, hot1, List.mem_singleton.mpr rfl⟩
  have loop : codeAny (model X.prog X.w) X.A (.compLoop (.ListComp elt [⟨tg, iter, ifs, 0⟩] scope pos) 0 (.ref it) (.ref D) ce) (compPost (model X.prog X.w) X.A X.xe use Qf (.ref D) s3.heap.objs.size) s4 := by
    refine compLoop_any (fun n s' => ∃ i H', Inv (blkH X p s3 H3 scope ce fp) [] (wipe σ (own.map (·.2))) H' s' ∧ tn i s'.heap ∧ (∀ b ∈ fp, H' b = none) ∧ W i n H') ?_ m0 ⟨0, H3, I4, st4, nfp, w0⟩
    rintro n s5 ⟨i, H5, I5, st5, n5, w5⟩
    rcases turn i n H5 w5 with ⟨stop, qq⟩ | ⟨go, Nx, hNx, step⟩
    · have td := T.done (blkH X p s3 H3 scope ce fp) rfl rfl rfl hot i [] s5 _ H5 (fun _ _ => False) I5 (stat I5 n5) st5 stop
      refine thnF td fun r s6 ⟨hr, I6⟩ => ?_
      subst hr
      -- back in the def's context
      have I7 : Inv X pins σ H5 s6 := I3.call' (ch := fp) I6.os I6.base I6.hok I6.bare fun b hb => ⟨(f3 b hb).1.2.2.2.1, (f3 b hb).1.2.1, (f3 b hb).1.2.2.2.2.1, (f3 b hb).1.2.2.2.2.2⟩
      have nC : H5 s3.heap.objs.size = none := by
        have z : H5 ce.locals = none := I6.free
        rw [cL] at z
        exact z
      obtain ⟨m, hn, _⟩ := I6.loc
      have hn : s6.heap.Ns ce.locals m := hn
      rw [cL] at hn
      exact hRR D s3.heap.objs.size s6 m H5 I7 qq hn (I3.fpOk (Nat.le_refl _) nC)
    · have ti := T.item (blkH X p s3 H3 scope ce fp) rfl rfl rfl hot i [] s5 _ H5 (fun _ _ => False) I5 (stat I5 n5) st5 go
      refine thnF ti fun r s6 ⟨u, hr, h6⟩ => ?_
      subst hr
      refine thnF h6 fun _ s7 ⟨x, H7, I7, r7, y7, st7, n7⟩ => ?_
      have I7' := I7.pinned (stat I7 n7) (T.obj _ _ st7)
      refine thnF (pg.run _ s7 _ H7 x u _ I7' r7 (step x H7 y7)) fun _ s8 ⟨σ8, H8, I8, hw8, q8⟩ => ?_
      refine thnF (pt.run _ s8 σ8 H8 _ I8 q8) fun b s9 ⟨H9, I9, q9⟩ => ?_
      -- the turn's end
      have fin : ∀ {s' : Shared} {H' : Hp}, Inv (blkH X p s3 H3 scope ce fp) ([] ++ pinsAt fp s7.heap) σ8 H' s' → Nx H' → ∃ m, m < n ∧ ∃ i H', Inv (blkH X p s3 H3 scope ce fp) [] (wipe σ (own.map (·.2))) H' s' ∧ tn i s'.heap ∧ (∀ b ∈ fp, H' b = none) ∧ W i m H' := fun {s' H'} I' nx => by
        obtain ⟨m', hm, w'⟩ := hNx H' nx
        have pin' : ∀ b ∈ fp, ∀ o, s7.heap.get? b = some o → s'.heap.get? b = some o ∧ H' b = none := fun b hb o e =>
          let z := I'.pin (b, o) (List.mem_append_right _ (List.mem_append_right _ (mem_pinsAt hb e)))
          ⟨z.1, z.2.1⟩
        have hl : (wipe σ (own.map (·.2))).length = σ8.length := by rw [← hw8, wipe_length]
        refine ⟨m', hm, i + 1, H', (I'.unpinned (pins := [])).weak hl (fun j v e => ?_), T.keep _ _ _ st7 fun b hb o e => (pin' b hb o e).1, fun b hb => ?_, w'⟩
        · rw [← hw8] at e
          exact (wipe_some e).1
        · obtain ⟨o, e, _⟩ := T.obj _ _ st7 b hb
          exact (pin' b hb o e).2
      cases b with
      | false =>
        simp only [Bool.false_eq_true, if_false] at q9 ⊢
        exact fin I9 q9
      | true =>
        simp only [if_true] at q9 ⊢
        refine thnF (pe.run _ s9 σ8 H9 _ I9 q9) fun z s10 ⟨yv, H10, I10, r10, acc, hD10, hz10, nx⟩ => ?_
        exact app_ok (X := blkH X p s3 H3 scope ce fp) I10 hD10 hz10 r10 fun s11 I11 => fin I11 nx
  exact codeAny_compStart_list loop (T.self X.A 0 _ _ _ st4 loop)
theorem pe_lcH {elt tg iter : Expr} {ifs : List Expr} {scope : Scope} {own : List (Str × Nat)} {pos : Pos} {wi : TI} {g : TG} {tt : TT} {te : TE} (hc : L2H.HotC X) (hN : X.N.Nodup) (hi : L2H.PIH X tg iter wi) (ok : BlkOk X.N X.env.scope scope own)
    (hg : ∀ (p : Addr × Obj), L2H.Hot1 X.A p → ∀ (s : Shared) (H : Hp) (C : Addr) (cl : List (Str × Addr)) (fp : List Addr), PG (blkH X p s H scope (compEnvC scope cl C X.env) fp) tg g) (ht : ∀ (p : Addr × Obj), L2H.Hot1 X.A p → ∀ (s : Shared) (H : Hp) (C : Addr) (cl : List (Str × Addr)) (fp : List Addr), PTs (blkH X p s H scope (compEnvC scope cl C X.env) fp) ifs tt)
    (he : ∀ (p : Addr × Obj), L2H.Hot1 X.A p → ∀ (s : Shared) (H : Hp) (C : Addr) (cl : List (Str × Addr)) (fp : List Addr), PE (blkH X p s H scope (compEnvC scope cl C X.env) fp) elt te) (hs : ∀ x, foldedSetIterable iter X.env x = pure x := by intro _; rfl) :
    PE X (.ListComp elt [⟨tg, iter, ifs, 0⟩] scope pos) (tLc wi g tt te (own.map (·.2))) := by
  refine ⟨fun pins s σ H Q I h => ?_⟩
  rw [eval_ListComp]
  refine lcH_core hc hN I hi ok hg ht he hs h fun D C s' m H' I' q hn f => ⟨m, hn, fun h'' sb => ?_⟩
  obtain ⟨f0, f1, f2, f3, f4, f5⟩ := f
  exact ⟨.ref D, H', I'.turned (t' := s'.toks) (fun b o hb e => (sb.2 b hb).trans e) f0 f1 f3 f4 f5, rfl, q⟩
end
end L2
namespace L2
open PySem PySem.Spec PyProof.Rows
section
variable {X : Cx}
theorem cr_allH (hc : L2H.HotC X) : CallR X (.builtin "all") (rAll X.K) := by
  intro pins s σ H vs us Q I r h
  obtain ⟨a, bs, rfl, hs, q⟩ := h
  obtain ⟨its, rv, hl, _⟩ := I.list hs
  rw [Vals.ref1 r]
  have hb := rv.bls
  obtain ⟨x1, hot⟩ := hc.at I
  obtain ⟨hh, o1, vs1, g1, d1, c1⟩ := id hot
  refine call_all_walk (iter_any hl.isList fun s₂ e2 st hne => ?_)
  subst e2
  refine ⟨_, _, _, _, _, _, _, rfl, HotX.walks_listH (A := X.A.in1) _ a x1 hne (Nat.ne_of_lt (Heap.lt_size g1)) its.toArray, ⟨st, hh, o1, vs1, Heap.get?_push_of_some _ g1, d1, c1⟩, truth_bools hb, fun h' tk hk => ?_⟩
  refine ⟨.bl _, H, I.kept fun b o eo => hk b o (fun hmem => ?_) (Heap.get?_push_of_some _ eo), ?_, q⟩
  · rcases List.mem_cons.mp hmem with e1 | hmem
    · exact absurd (e1 ▸ Heap.lt_size eo) (Nat.lt_irrefl _)
    · cases hmem
  · show Value.bool _ = Value.bool _
    rw [← all_range, hb, List.size_toArray, List.length_map]
end
end L2
namespace Px
open PySem PySem.Spec PyProof.Rows L2
theorem piH_imp {X : Cx} {tg it : Expr} {t t' : TI} (h : L2H.PIH X tg it t) (i : ∀ σ H Q, t' σ H Q → t σ H Q) : L2H.PIH X tg it t' := ⟨fun pins s σ H Q J z => h.run pins s σ H Q J (i σ H Q z)⟩
abbrev IJH (X : Cx) (W : WX) (tg iter : Expr) (d : DI) : Prop := L2H.PIH X tg iter (tI X.K W d)
section
variable {X : Cx} {W : WX} {tg e : Expr} {es : List Expr} {pos p0 : Pos} {d : DE} {ds : DA}
/-- a list or a tuple, walked -/
theorem pi_seqH {tl : TE} (hl : PE X e tl) : L2H.PIH X tg e (fun σ H R => tl σ H fun x H1 => ∃ a, x = .ref a ∧ (((∃ xs, SqL X.K H1 a xs) ∧ R (Itl X.K a) H1) ∨ ((∃ xs, SqT X.K H1 a xs) ∧ R (Itt X.K a) H1))) := by
  refine ⟨fun pins s σ H R I h => ?_⟩
  refine thn (hl.run pins s σ H _ I h) fun v s1 ⟨x, H1, I1, r1, q1⟩ => ?_
  obtain ⟨a, e, ⟨⟨xs, hq⟩, q⟩ | ⟨⟨xs, hq⟩, q⟩⟩ := q1
  · subst e
    cases r1
    obtain ⟨its, rv, p, hz⟩ := I1.list hq
    refine wpAny_pyIter_list p.isList ?_
    refine ⟨s1.heap.objs.size, [s1.heap.objs.size], _, _, H1, rfl, I1.kept (t' := s1.toks) fun b o e => Heap.get?_push_of_some _ e, turn_listH a _, ⟨_, Heap.get?_push_size _ rfl, rfl, rfl⟩, fun b hb => ?_, q⟩
    have e : b = s1.heap.objs.size := by simpa using hb
    subst e
    exact I1.fpOk (Nat.le_refl _) (I1.hok.fresh (Nat.le_refl _))
  · subst e
    cases r1
    obtain ⟨its, rv, p, hz⟩ := I1.tuple hq
    refine wpAny_pyIter_tuple (show s1.heap.IsTuple a its.toArray from p) ?_
    refine ⟨s1.heap.objs.size, [s1.heap.objs.size], _, _, H1, rfl, I1.kept (t' := s1.toks) fun b o e => Heap.get?_push_of_some _ e, turn_tupleH a _, ⟨_, Heap.get?_push_size _ rfl, rfl, rfl⟩, fun b hb => ?_, q⟩
    have e : b = s1.heap.objs.size := by simpa using hb
    subst e
    exact I1.fpOk (Nat.le_refl _) (I1.hok.fresh (Nat.le_refl _))
theorem i_seqH (h : EJ X W e d) : IJH X W tg e (iSeq d) := piH_imp (pi_seqH h) fun σ H R ⟨B, ρ, μ, G, q, x, Rl, h, gv, gx⟩ =>
  ⟨B, ρ, μ, G, _, x, Rl, h, fun p v μ1 G1 H1 h1 g1 r1 => by
    cases p with
    | lst xs =>
      obtain ⟨a, vs, rfl, sq, rs⟩ := r1.lst_inv
      exact ⟨a, rfl, .inl ⟨⟨vs, .inl (.inl (g1.ok.sub _ _ sq))⟩, gv xs _ μ1 G1 H1 h1 g1 (itok_list (.inl (.inl sq)) rs)⟩⟩
    | tup xs =>
      obtain ⟨a, vs, rfl, sq, rs⟩ := r1.tup_inv
      exact ⟨a, rfl, .inr ⟨⟨vs, g1.ok.sub.t sq⟩, gv xs _ μ1 G1 H1 h1 g1 (itok_tup sq rs)⟩⟩
    | _ => exact h1.elim, gx⟩
theorem i_range1H (hm : X.mg "range" = none) (ha : AJ X W [e] ds) (hg : Gl X "range" := by rfl) (h1 : starEach [e] X.env = [(false, eval e X.env)] := by rfl) : IJH X W tg (.Call (.Name "range" p0) [e] [] pos) (iR1 ds) := piH_imp (L2H.pi_range1H hg hm ha h1) fun σ H R ⟨B, ρ, μ, G, q, x, Rl, h, gv, gx⟩ =>
  ⟨B, ρ, μ, G, _, x, Rl, h, fun ps vs μ1 G1 H1 h0 g1 r1 => by
    obtain ⟨n, rfl, b1, b2, h1⟩ := r1P_inv h0
    exact ⟨n, r1.int1, b1, b2, gv _ _ μ1 G1 H1 h1 g1 (itok_range 0 _)⟩, gx⟩
end
theorem s_forH {X : Cx} {W : WX} {tg iter : Expr} {body : List Stmt} {pos : Pos} {di : DI} {db : DS} {t : Tg} (hp : PassesOwn (model X.prog X.w) X.A X.env X.xe) (hc : L2H.HotC X) (hi : IJH X W tg iter di) (hg : PG X tg (tgOf X.K t)) (hb : BJ X W body db)
    (hs : ∀ x, foldedSetIterable iter X.env x = pure x := by intro _; rfl) : SJ X W (.For tg iter body [] pos) (dFor t di db) := ps_imp (L2H.ps_forH hp hc hi hg hb hs) fun D σ H ⟨B, ρ, μ, G, P, R, h, eo⟩ => by
  refine ⟨B, ρ, μ, G, _, _, R, h, fun xs J μ1 G1 H1 hf g1 io => ?_, eo.gx R⟩
  have eo1 := eo.go g1
  refine ⟨fun i m σ' H' => m = xs.length - i ∧ i ≤ xs.length ∧ ∃ ρ' μ' G', Rel X.K B ρ' μ' σ' G' H' ∧ Go X.K B μ1 G1 H1 μ' G' H' ∧ forD t db (xs.drop i) P ρ' μ', ⟨xs.length, by omega, Nat.zero_le _, ρ, μ1, G1, R.go g1, .refl g1.ok, hf.un⟩, ?_⟩
  rintro i m σ' H' ⟨rfl, hle, ρ', μ', G', R', g', hf'⟩
  by_cases hlt : i < xs.length
  · rw [drop_get hlt] at hf'
    refine .inr ⟨io.go i μ' G' H' g'.gx R'.ok hlt, fun σ2 H2 => ∃ ρ2 μ2 G2, Rel X.K B ρ2 μ2 σ2 G2 H2 ∧ Go X.K B μ1 G1 H1 μ2 G2 H2 ∧ forD t db (xs.drop (i + 1)) P ρ2 μ2, fun σ2 H2 ⟨ρ2, μ2, G2, R2, g2, h2⟩ => ⟨xs.length - (i + 1), by omega, rfl, hlt, ρ2, μ2, G2, R2, g2, h2⟩, fun v H2 y => ?_⟩
    obtain ⟨G2, g2, r2⟩ := io.yld i μ' G' H' v H2 xs[i] g'.gx R'.ok (List.getElem?_eq_getElem hlt) y
    have g12 := g'.trans g2
    refine tg_ok (own := t.idx) (fun _ z => z) (R'.go g2) r2 hf' fun ρ3 σ3 h3 R3 _ => ?_
    have eo2 := eo1.go g12
    exact ⟨B, ρ3, μ', G2, _, R3, h3, ⟨fun ρ4 σ4 μ4 G4 H4 h4 R4 g4 => ⟨ρ4, μ4, G4, R4, g12.trans g4, h4.un⟩, eo2.rt, eo2.nx, fun ρ4 σ4 μ4 G4 H4 h4 R4 g4 => ⟨ρ4, μ4, G4, R4, g12.trans g4, h4.un⟩, eo2.xc⟩⟩
  · have e : i = xs.length := by omega
    subst e
    rw [List.drop_length] at hf'
    exact .inl ⟨io.stop _ μ' G' H' g'.gx R'.ok (Nat.le_refl _), eo1.nx _ _ _ _ _ hf' R' g'⟩
theorem l_compH {X : Cx} {W : WX} {elt tg iter : Expr} {ifs : List Expr} {scope : Scope} {own : List (Str × Nat)} {pos : Pos} {di : DI} {dt : DT} {de : DE} {t : Tg} (hc : L2H.HotC X) (nd : X.N.Nodup) (hi : IJH X W tg iter di) (ok : BlkOk X.N X.env.scope scope own)
    (hg : ∀ (p : Addr × Obj), L2H.Hot1 X.A p → ∀ (s : Shared) (H : Hp) (C : Addr) (cl : List (Str × Addr)) (fp : List Addr), PG (blkH X p s H scope (compEnvC scope cl C X.env) fp) tg (tgOf X.K t)) (ht : ∀ (p : Addr × Obj), L2H.Hot1 X.A p → ∀ (s : Shared) (H : Hp) (C : Addr) (cl : List (Str × Addr)) (fp : List Addr), TsJ (blkH X p s H scope (compEnvC scope cl C X.env) fp) Wno ifs dt)
    (he : ∀ (p : Addr × Obj), L2H.Hot1 X.A p → ∀ (s : Shared) (H : Hp) (C : Addr) (cl : List (Str × Addr)) (fp : List Addr), EJ (blkH X p s H scope (compEnvC scope cl C X.env) fp) Wno elt de) (hw : ∀ i ∈ t.idx, i ∈ own.map (·.2) := by decide) (hs : ∀ x, foldedSetIterable iter X.env x = pure x := by intro _; rfl) :
    LJ X W (.ListComp elt [⟨tg, iter, ifs, 0⟩] scope pos) (lComp t (own.map (·.2)) di dt de) := pe_imp (pe_lcH hc nd hi ok hg ht he hs) fun σ H Q h => tlc_of hw h
section
variable {X : Cx} {W : WX}
theorem cj_allM {hot : Bool} (m : Md X hot) : CaJ X W (.builtin "all") (fc fAll) := m.elim cj_all fun h => .of (cr_allH h.2) pcl_all
end
end Px
namespace Px
open PySem PySem.Spec PyProof.Rows L2
theorem meets_enum1 {v : Value} {o : Obj} {H : Heap → Prop} (B : Begins v o H) :
    Meets (Builtin.«enumerate.__new__» ⟨[.type "enumerate", v], []⟩) (fun _ R s => H s.heap ∧
      R (.ok (.ret (.ref (s.heap.push o).objs.size))) { s with heap := (s.heap.push o).push { cls := .type "enumerate", data := .fields #[.none, .bool false, .ref s.heap.objs.size, rawInt 0, .none, .none] } }) :=
  .of_wp fun prog w A R s h => by
    obtain ⟨hp, g, d, tk, os⟩ := s; obtain ⟨h1, h⟩ := h
    have hsub := sub_enumerate
    have q1 : ∀ {A' : Around} {E : Value → Shared → Prop} {Q : Value → Shared → Prop}, Q (.ref hp.objs.size) ⟨hp.push o, g, d, tk, os⟩ → wpAny (model prog w) A' (pyIter v) Q E ⟨hp, g, d, tk, os⟩ :=
      fun q => B.iter prog w _ _ ⟨hp, g, d, tk, os⟩ _ h1 q
    wp_walk using q1
    refine wpAny_stack_any fun st => wpAny_pure ?_
    split
    · rename_i c _ _ _ _ _
      cases (c == Value.type "enumerate")
      · wp_walk using q1
        exact ⟨_, rfl, h⟩
      · wp_walk using q1
        exact ⟨_, rfl, h⟩
    · wp_walk using q1
      exact ⟨_, rfl, h⟩
section
variable {prog : Program} {w : World} {A : Around} {E : Value → Shared → Prop} {s : Shared}
theorem enum_begins1 {v : Value} {o : Obj} {H : Heap → Prop} {Q : Value → Shared → Prop} (B : Begins v o H) (h1 : H s.heap)
    (h : ∀ h', IsEnum h' (s.heap.objs.size + 1) s.heap.objs.size 0 .none → h'.get? s.heap.objs.size = some o → h'.objs.size = s.heap.objs.size + 2 →
      (∀ b o, s.heap.get? b = some o → h'.get? b = some o) → Q (.ref (s.heap.objs.size + 1)) { s with heap := h' }) :
    wpAny (model prog w) A (call (.type "enumerate") [v]) Q E s := by
  refine callType_new F.called_enumerate (by decide) (F.typeCall_enumerate_1 _) (F.newCall_enumerate_1 _) (fun obj => F.args_object_init_2 obj _) F.entry_enumerate_new
    (meets_enum1 B) ⟨h1, ?_⟩
  have hz : (s.heap.push o).objs.size = s.heap.objs.size + 1 := Heap.size_push ..
  show _ ∧ _
  rw [hz]
  have he : IsEnum ((s.heap.push o).push { cls := .type "enumerate", data := .fields #[.none, .bool false, .ref s.heap.objs.size, rawInt 0, .none, .none] }) (s.heap.objs.size + 1) s.heap.objs.size 0 .none := by
    have := Heap.get?_push_size (s.heap.push o) (o := { cls := .type "enumerate", data := .fields #[.none, .bool false, .ref s.heap.objs.size, rawInt 0, .none, .none] }) rfl
    rw [hz] at this; exact this
  refine ⟨⟨_, he, rfl⟩, h _ he (Heap.get?_push_of_some _ (Heap.get?_push_size _ B.free)) (by rw [Heap.size_push, hz]) fun b o x => Heap.get?_push_of_some _ (Heap.get?_push_of_some _ x)⟩
end
/-- the tuple at a, each item in a new pair -/
def IteT (K : PySem.W.Frag) (a : Addr) : It :=
  ⟨fun i H => ∃ (xs : List V) (x : V), SqT K H a xs ∧ xs[i]? = some x, fun i H v H' => ∃ T x, v = .ref T ∧ H T = none ∧ H' = upd H T (.tup [.int (i : Nat), x]) ∧ ∀ xs, SqT K H a xs → xs[i]? = some x, fun i H => ∃ xs : List V, SqT K H a xs ∧ xs.length ≤ i⟩
theorem turn_enumT {P : Program} {w : World} {K : PySem.W.Frag} {elts : List Expr} {kk : Nat} {tpos : Pos} (a e it : Addr) :
    Turn P w K (.Tuple elts kk tpos) (IteT K a) [e, it] e (fun i h => (∃ old, IsEnum h e it ((i : Nat) : Int) old) ∧ h.IsTupleIter it a i ∧ e ≠ it ∧ e ≠ a ∧ a ≠ it) where
  mem := by simp
  obj := fun i h st b hb => by
    obtain ⟨⟨old, he⟩, ⟨o, ho, hc, hd⟩, _⟩ := st
    have e' : b = e ∨ b = it := by simpa using hb
    rcases e' with z | z
    · rw [z]; exact ⟨_, he, fun v q => nomatch q⟩
    · rw [z]; exact ⟨o, ho, fun v q => by rw [hd] at q; cases q⟩
  keep := fun i h h' st k => let ⟨⟨old, he⟩, hi, hne⟩ := st; ⟨⟨old, k e (by simp) _ he⟩, hi.at fun o q => k it (by simp) o q, hne⟩
  item := by
    intro X hP hw hK hc i pins s σ H E I hf st hg
    subst hP hw hK
    obtain ⟨⟨old, he⟩, hit, hne, hea, hai⟩ := st
    obtain ⟨xs, x, hq, hx⟩ := hg
    obtain ⟨its, rv, p, hz⟩ := I.tuple hq
    obtain ⟨u, hu, ru⟩ := rv.get hx
    have hel : e < s.heap.objs.size := Heap.lt_size he
    have hil : it < s.heap.objs.size := by obtain ⟨_, q, _⟩ := hit; exact Heap.lt_size q
    have hlt : i < its.toArray.size := by
      rw [List.size_toArray]
      exact (List.getElem?_eq_some_iff.mp hu).1
    have hp : s.heap.IsTuple a its.toArray := p
    refine wpAny_pyNext_enum_itemD (Draws.tuple (show X.A.in1.handled = none from I.ok.hd hc) it a hai its.toArray) he ⟨hit, hp⟩ hlt hne (by simp only [List.mem_cons, List.not_mem_nil, or_false, not_or]; exact ⟨hne, hea⟩) fun y h' tk hy ho hst hT hsz hk => ?_
    have ey : y = u := by
      have h1 : its.toArray[i]? = some y := hy
      have h2 : its.toArray[i]? = some u := by simpa using hu
      rw [h1] at h2
      cases h2; rfl
    subst ey
    refine ⟨_, rfl, wpAny_letOwnedTupleGo_enum (s := { s with heap := h', toks := tk + 1 }) ho fun h'' he' sb => ?_⟩
    have hT2 : h''.get? s.heap.objs.size = some { cls := .type "tuple", data := .seq #[.int i tk, y] } := (sb.2 _ (Nat.ne_of_gt hel)).trans hT
    have new : ObjOk X.prog X.w (upd H s.heap.objs.size (.tup [.int (i : Nat), x])) h'' s.heap.objs.size (.tup [.int (i : Nat), x]) :=
      ⟨by show 2 ≤ sizeLine; decide, [.int i tk, y], .cons ⟨_, rfl⟩ (.cons ru .nil), ⟨_, hT2, rfl, _, rfl⟩⟩
    have I1 : Inv X pins σ (upd H s.heap.objs.size (.tup [.int (i : Nat), x])) { s with heap := h'', toks := tk + 1 } :=
      I.turnedNew (ch := [e, it]) (fun b ob hb q => (sb.2 b (fun z => hb (by simp [z]))).trans (hk b ob (fun z => hb (by simp [z])) (fun z => hb (by simp [z])) q)) hf (Nat.le_refl _) new
    refine ⟨.ref s.heap.objs.size, _, I1, rfl, ⟨_, x, rfl, I.hok.fresh (Nat.le_refl _), rfl, fun ys hy => by rw [I.tuple_inj hy hq]; exact hx⟩, ⟨⟨y, ?_⟩, hst.1.at fun o q => (sb.2 it (Ne.symm hne)).trans q, hne, hea, hai⟩, fun b hb => ?_⟩
    · have e1 : ((i + 1 : Nat) : Int) = (i : Int) + 1 := by omega
      rw [e1]; exact he'
    · have hb' : b < s.heap.objs.size := by
        have e' : b = e ∨ b = it := by simpa using hb
        rcases e' with z | z
        · rw [z]; exact hel
        · rw [z]; exact hil
      rw [upd_ne (Nat.ne_of_lt hb')]
      exact (hf b hb).1
  done := by
    intro X hP hw hK hc i pins s σ H E I hf st hg
    subst hP hw hK
    obtain ⟨⟨old, he⟩, hit, hne, hea, hai⟩ := st
    obtain ⟨xs, hq, hx⟩ := hg
    obtain ⟨its, rv, p, hz⟩ := I.tuple hq
    obtain ⟨f0, f1, f2, f3, f4, f5⟩ := hf it (by simp)
    have hl := rv.length
    have hp : s.heap.IsTuple a its.toArray := p
    have hT : s.TypeIs (.ref e) "enumerate" := ⟨_, he, rfl⟩
    unfold pyNext
    refine wpAny_bind (wpAny_attempt (wpAny_callSpecial?_slot (name := Str.ofString "__next__") hT F.slot_enumerate_next
      (wpAny_call_entry F.slot_enumerate_next hT F.entry_enumerate_next ?_ (F.args_enumerate_next_1 _))))
    show wpAny _ _ (field (.ref e) 2 >>= _) _ _ _
    refine wpAny_bind (wpAny_field he rfl (x := .ref it) rfl ?_)
    refine wpAny_bind (wpAny_nextOf_tuple_end (show X.A.in1.handled = none from I.ok.hd hc) hit hp (by simp; omega) fun h' x he' hx' => ?_)
    obtain ⟨o, ho, hc2⟩ := hx'
    refine wpAny_bind (wpAny_isInstance (T := "StopIteration") (b := true) ⟨o, ho, hc2⟩ isSubtype_stop ?_)
    exact wpAny_pure ⟨rfl, I.turned (t' := s.toks) (fun b o hb e => he' b o hb e) f0 f1 f3 f4 f5⟩
  self := fun A i s Q E st h => let ⟨⟨_, he⟩, _⟩ := st; wpAny_pyIter_enum he h
def iEnumA (K : PySem.W.Frag) (ta : TA) : TI := fun σ H R => ta σ H fun vs H1 => ∃ a xs, vs = [.ref a] ∧ ((SqL K H1 a xs ∧ R (Ite K a) H1) ∨ (SqT K H1 a xs ∧ R (IteT K a) H1))
theorem pi_enumA {X : Cx} {e : Expr} {ta : TA} {p pos tpos : Pos} {elts : List Expr} {kk : Nat} (hg : Gl X "enumerate") (hm : X.mg "enumerate" = none) (ha : PA X [e] ta) (hs : starEach [e] X.env = [(false, eval e X.env)] := by rfl) :
    PI X (.Tuple elts kk tpos) (.Call (.Name "enumerate" p) [e] [] pos) (iEnumA X.K ta) := by
  refine ⟨fun pins s σ H R I h => ?_⟩
  refine Call_ (ld_blt I hg hm boot_enumerate (PyProof.Rows.callWith_type1 (thn (ha.run pos pins s σ H _ I h) fun us s1 ⟨vs, H1, I1, r1, q1⟩ => ?_) hs rfl))
  obtain ⟨a, xs, ex, q1⟩ := q1
  subst ex
  cases r1 with
  | cons r rr =>
    cases rr
    cases r
    have fresh2 : ∀ b, b ∈ [s1.heap.objs.size + 1, s1.heap.objs.size] → FpOk X pins H1 b := fun b hb => by
      have e' : b = s1.heap.objs.size + 1 ∨ b = s1.heap.objs.size := by simpa using hb
      have hle : s1.heap.objs.size ≤ b := by
        rcases e' with z | z
        · rw [z]; exact Nat.le_add_right _ _
        · rw [z]; exact Nat.le_refl _
      exact I1.fpOk hle (I1.hok.fresh hle)
    rcases q1 with ⟨hq, q⟩ | ⟨hq, q⟩
    · obtain ⟨its, rv, p', hz⟩ := I1.list hq
      refine call_enumerate_list p'.isList fun h' he hit hsz hk => wpAny_pyIter_enum he ?_
      have I2 : Inv X pins σ H1 { s1 with heap := h' } := I1.kept (t' := s1.toks) hk
      exact ⟨s1.heap.objs.size + 1, [s1.heap.objs.size + 1, s1.heap.objs.size], _, _, H1, rfl, I2, turn_enum a (s1.heap.objs.size + 1) s1.heap.objs.size, ⟨⟨.none, he⟩, hit, Nat.succ_ne_self _⟩, fresh2, q⟩
    · obtain ⟨its, rv, p', hz⟩ := I1.tuple hq
      have hp : s1.heap.IsTuple a its.toArray := p'
      have hal : a < s1.heap.objs.size := by obtain ⟨o, ho, _⟩ := id hp; exact Heap.lt_size ho
      refine enum_begins1 (begins_tuple a its.toArray) hp fun h' he hit hsz hk => wpAny_pyIter_enum he ?_
      have I2 : Inv X pins σ H1 { s1 with heap := h' } := I1.kept (t' := s1.toks) hk
      exact ⟨s1.heap.objs.size + 1, [s1.heap.objs.size + 1, s1.heap.objs.size], _, _, H1, rfl, I2, turn_enumT a (s1.heap.objs.size + 1) s1.heap.objs.size, ⟨⟨.none, he⟩, ⟨_, hit, rfl, rfl⟩, Nat.succ_ne_self _, Nat.ne_of_gt (Nat.lt_succ_of_lt hal), Nat.ne_of_lt hal⟩, fresh2, q⟩
def enumP : Nat → List PV → List PV
  | _, [] => []
  | i, x :: xs => .tup [.int (i : Nat), x] :: enumP (i + 1) xs
theorem enumP_len : ∀ (i : Nat) (xs : List PV), (enumP i xs).length = xs.length
  | _, [] => rfl
  | i, x :: xs => by
    show (enumP (i + 1) xs).length + 1 = xs.length + 1
    rw [enumP_len (i + 1) xs]
theorem enumP_get : ∀ {j i : Nat} {xs : List PV} {y : PV}, (enumP j xs)[i]? = some y → ∃ x, xs[i]? = some x ∧ y = .tup [.int ((j + i : Nat) : Int), x]
  | j, i, [], y, h => by cases i <;> cases h
  | j, 0, x :: xs, y, h => by
    have h : some (PV.tup [.int (j : Nat), x]) = some y := h
    cases h
    exact ⟨x, rfl, rfl⟩
  | j, i + 1, x :: xs, y, h => by
    have h : (enumP (j + 1) xs)[i]? = some y := h
    obtain ⟨z, e, rfl⟩ := enumP_get h
    refine ⟨z, e, ?_⟩
    have : j + 1 + i = j + (i + 1) := by omega
    rw [this]
theorem itok_enum {K : Frg} {B : BX} {G : Hp} {a : Addr} {xs : List PV} {vs : List V} (sq : SqL K G a vs) (rs : Reps K B G xs vs) : ItOk K B G (Ite K a) (enumP 0 xs) := by
  have hl := rs.length
  refine ⟨fun i μ G' H s o hi => ?_, fun i μ G' H v H' x s o e y => ?_, fun i μ G' H s o hi => ⟨vs, o.sub.l (s.l sq), by rw [enumP_len] at hi; omega⟩⟩
  · rw [enumP_len] at hi
    have hi' : i < vs.length := by omega
    exact ⟨vs, vs[i], o.sub.l (s.l sq), by simp [hi']⟩
  · obtain ⟨T, u, rfl, hT, rfl, hy⟩ := y
    obtain ⟨z, ez, rfl⟩ := enumP_get e
    have e1 := hy vs (o.sub.l (s.l sq))
    obtain ⟨u2, e2, r⟩ := rs.get ez
    rw [e1] at e2
    cases e2
    have g := o.new1 (u := .tup [.int (i : Nat), u]) hT
    refine ⟨_, g, ?_⟩
    rw [Nat.zero_add]
    exact rep_tup upd_same (.cons (by simp only [Rep]) (.cons ((r.mono s).mono g.gx) .nil))
theorem itok_enumT {K : Frg} {B : BX} {G : Hp} {a : Addr} {xs : List PV} {vs : List V} (sq : SqT K G a vs) (rs : Reps K B G xs vs) : ItOk K B G (IteT K a) (enumP 0 xs) := by
  have hl := rs.length
  refine ⟨fun i μ G' H s o hi => ?_, fun i μ G' H v H' x s o e y => ?_, fun i μ G' H s o hi => ⟨vs, o.sub.t (s.t sq), by rw [enumP_len] at hi; omega⟩⟩
  · rw [enumP_len] at hi
    have hi' : i < vs.length := by omega
    exact ⟨vs, vs[i], o.sub.t (s.t sq), by simp [hi']⟩
  · obtain ⟨T, u, rfl, hT, rfl, hy⟩ := y
    obtain ⟨z, ez, rfl⟩ := enumP_get e
    have e1 := hy vs (o.sub.t (s.t sq))
    obtain ⟨u2, e2, r⟩ := rs.get ez
    rw [e1] at e2
    cases e2
    have g := o.new1 (u := .tup [.int (i : Nat), u]) hT
    refine ⟨_, g, ?_⟩
    rw [Nat.zero_add]
    exact rep_tup upd_same (.cons (by simp only [Rep]) (.cons ((r.mono s).mono g.gx) .nil))
def enP (ps : List PV) (q : List PV → Prop) : Prop := match ps with
  | [.lst xs] => q (enumP 0 xs)
  | [.tup xs] => q (enumP 0 xs)
  | _ => False
theorem enP_inv {ps : List PV} {q : List PV → Prop} (h : enP ps q) : ∃ xs, (ps = [.lst xs] ∨ ps = [.tup xs]) ∧ q (enumP 0 xs) := by
  unfold enP at h
  split at h
  · exact ⟨_, .inl rfl, h⟩
  · exact ⟨_, .inr rfl, h⟩
  · exact h.elim
def iEn (d : DA) : DI := fun ρ μ q x => d ρ μ (fun ps μ1 => enP ps fun xs => q xs μ1) x
theorem i_enum {X : Cx} {W : WX} {e : Expr} {ds : DA} {p pos tpos : Pos} {elts : List Expr} {kk : Nat} (hm : X.mg "enumerate" = none) (ha : AJ X W [e] ds) (hg : Gl X "enumerate" := by rfl) (hs : starEach [e] X.env = [(false, eval e X.env)] := by rfl) :
    IJ X W (.Tuple elts kk tpos) (.Call (.Name "enumerate" p) [e] [] pos) (iEn ds) := pi_imp (pi_enumA hg hm ha hs) fun σ H R ⟨B, ρ, μ, G, q, x, Rl, h, gv, gx⟩ =>
  ⟨B, ρ, μ, G, _, x, Rl, h, fun ps vs μ1 G1 H1 h0 g1 r1 => by
    obtain ⟨xs, rfl | rfl, h1⟩ := enP_inv h0
    · obtain ⟨v, ws, rfl, r, rs⟩ := r1.cons_inv
      obtain rfl := rs.nil_inv
      obtain ⟨a, vs, rfl, sq, rs⟩ := r.lst_inv
      exact ⟨a, vs, rfl, .inl ⟨.inl (.inl (g1.ok.sub _ _ sq)), gv _ _ μ1 G1 H1 h1 g1 (itok_enum (.inl (.inl sq)) rs)⟩⟩
    · obtain ⟨v, ws, rfl, r, rs⟩ := r1.cons_inv
      obtain rfl := rs.nil_inv
      obtain ⟨a, vs, rfl, sq, rs⟩ := r.tup_inv
      exact ⟨a, vs, rfl, .inr ⟨g1.ok.sub.t sq, gv _ _ μ1 G1 H1 h1 g1 (itok_enumT sq rs)⟩⟩, gx⟩
end Px
namespace HotX
open PySem PySem.Spec PyProof.Rows
section
variable {prog : Program} {w : World} {A : Around} {E : Value → Shared → Prop} {s : Shared}
theorem list_nextOf_end_hot {it x1 l : Addr} {i : Nat} {items : Array Value} {Q : Value → Shared → Prop} (hot : HotAt A x1 s.heap) (hit : s.heap.IsListIter it l i) (hl : s.heap.IsList l items) (hx : items[i]? = none)
    (hE : ∀ h' e, Heap.ExtBut it s.heap h' → (∃ o, h'.get? e = some o ∧ o.cls = .type "StopIteration") → E (.ref e) { s with heap := h' }) : wpAny (model prog w) A (Builtin.SmallTypes.nextOf (.ref it)) Q E s := by
  obtain ⟨o, ho, hc, hd⟩ := id hit
  obtain ⟨ol, hol, _, nl, hdl⟩ := hl
  obtain ⟨hh, o1, vs1, h1, d1, c1⟩ := hot
  have hne : x1 ≠ it := fun z => by
    rw [z, ho] at h1
    cases h1
    rw [hd] at d1
    cases d1
    cases c1
  unfold Builtin.SmallTypes.nextOf
  refine wpAny_bind (wpAny_callSpecial?_slot (name := Str.ofString "__next__") hit.typeIs slot_listiter_next
    (wpAny_call_entry slot_listiter_next hit.typeIs entry_listiter_next ?_ (args_listiter_next _)))
  show wpAny _ _ (field (.ref it) 0 >>= _) _ _ s
  refine wpAny_bind (wpAny_field ho hd (x := .ref l) rfl ?_)
  show wpAny _ _ (if (Value.ref l == Value.none) = true then _ else _) _ _ s
  rw [if_neg (show ¬ ((Value.ref l == Value.none) = true) from Bool.false_ne_true)]
  show wpAny _ _ (field (.ref it) 1 >>= _) _ _ s
  refine wpAny_bind (wpAny_field ho hd (x := .int i 0) rfl ?_)
  show wpAny _ _ (seqItems? (.ref l) >>= _) _ _ s
  refine wpAny_bind (wpAny_seqItems hol hdl ?_)
  simp only [Int.toNat_natCast, hx]
  refine wpAny_bind (wpAny_rule (wpAny_bind (wpAny_setField ho hd (by simp) ?_)))
  show wpAny _ _ (newExc (.type "StopIteration") [] >>= _) _ _ _
  refine wpAny_bind ?_
  simp only [newExc, newTuple]
  refine wpAny_bind (wpAny_newObj_type ?_ (by size_fits))
  refine wpAny_bind (m := firstArgMember _ _) (wpAny_of_eq (a := Value.none) (by first | rfl | (simp only [firstArgMember]; rfl)) ?_)
  refine wpAny_newObj_type ?_ (by size_fits)
  have h1' := (Heap.get?_update_other s.heap (Obj.mapFields (·.setIfInBounds 0 .none)) (Ne.symm hne)).trans h1
  refine raiseNew_hot ⟨hh, o1, vs1, Heap.get?_push_of_some _ (Heap.get?_push_of_some _ h1'), d1, c1⟩ (Nat.ne_of_lt (Heap.lt_size (Heap.get?_push_of_some _ h1'))) (Heap.get?_push_size _ rfl) rfl (by first | (simp; done) | (simp; omega) | (simp only [Array.size_append]; simp; omega)) ?_
  refine hE _ _ (fun b o hb e => ?_) ⟨_, Heap.get?_update_self _ (Heap.get?_push_size _ rfl) rfl, rfl⟩
  have e' := (Heap.get?_update_other s.heap (Obj.mapFields (·.setIfInBounds 0 .none)) (Ne.symm hb)).trans e
  rw [Heap.get?_update_other _ _ (Nat.ne_of_gt (Heap.lt_size (Heap.get?_push_of_some _ e')))]
  exact Heap.get?_push_of_some _ (Heap.get?_push_of_some _ e')
theorem tuple_nextOf_end_hot {it x1 l : Addr} {i : Nat} {items : Array Value} {Q : Value → Shared → Prop} (hot : HotAt A x1 s.heap) (hit : s.heap.IsTupleIter it l i) (hl : s.heap.IsTuple l items) (hx : items[i]? = none)
    (hE : ∀ h' e, Heap.ExtBut it s.heap h' → (∃ o, h'.get? e = some o ∧ o.cls = .type "StopIteration") → E (.ref e) { s with heap := h' }) : wpAny (model prog w) A (Builtin.SmallTypes.nextOf (.ref it)) Q E s := by
  obtain ⟨o, ho, hc, hd⟩ := id hit
  obtain ⟨ol, hol, _, nl, hdl⟩ := hl
  obtain ⟨hh, o1, vs1, h1, d1, c1⟩ := hot
  have hne : x1 ≠ it := fun z => by
    rw [z, ho] at h1
    cases h1
    rw [hd] at d1
    cases d1
    cases c1
  unfold Builtin.SmallTypes.nextOf
  refine wpAny_bind (wpAny_callSpecial?_slot (name := Str.ofString "__next__") hit.typeIs F.slot_tuple_iterator_next
    (wpAny_call_entry F.slot_tuple_iterator_next hit.typeIs F.entry_tuple_iterator_next ?_ (F.args_tuple_iterator_next_1 _)))
  show wpAny _ _ (field (.ref it) 0 >>= _) _ _ s
  refine wpAny_bind (wpAny_field ho hd (x := .ref l) rfl ?_)
  show wpAny _ _ (if (Value.ref l == Value.none) = true then _ else _) _ _ s
  rw [if_neg (show ¬ ((Value.ref l == Value.none) = true) from Bool.false_ne_true)]
  show wpAny _ _ (field (.ref it) 1 >>= _) _ _ s
  refine wpAny_bind (wpAny_field ho hd (x := .int i 0) rfl ?_)
  show wpAny _ _ (seqItems? (.ref l) >>= _) _ _ s
  refine wpAny_bind (wpAny_seqItems hol hdl ?_)
  simp only [Int.toNat_natCast, hx]
  refine wpAny_bind (wpAny_rule (wpAny_bind (wpAny_setField ho hd (by simp) ?_)))
  show wpAny _ _ (newExc (.type "StopIteration") [] >>= _) _ _ _
  refine wpAny_bind ?_
  simp only [newExc, newTuple]
  refine wpAny_bind (wpAny_newObj_type ?_ (by size_fits))
  refine wpAny_bind (m := firstArgMember _ _) (wpAny_of_eq (a := Value.none) (by first | rfl | (simp only [firstArgMember]; rfl)) ?_)
  refine wpAny_newObj_type ?_ (by size_fits)
  have h1' := (Heap.get?_update_other s.heap (Obj.mapFields (·.setIfInBounds 0 .none)) (Ne.symm hne)).trans h1
  refine raiseNew_hot ⟨hh, o1, vs1, Heap.get?_push_of_some _ (Heap.get?_push_of_some _ h1'), d1, c1⟩ (Nat.ne_of_lt (Heap.lt_size (Heap.get?_push_of_some _ h1'))) (Heap.get?_push_size _ rfl) rfl (by first | (simp; done) | (simp; omega) | (simp only [Array.size_append]; simp; omega)) ?_
  refine hE _ _ (fun b o hb e => ?_) ⟨_, Heap.get?_update_self _ (Heap.get?_push_size _ rfl) rfl, rfl⟩
  have e' := (Heap.get?_update_other s.heap (Obj.mapFields (·.setIfInBounds 0 .none)) (Ne.symm hb)).trans e
  rw [Heap.get?_update_other _ _ (Nat.ne_of_gt (Heap.lt_size (Heap.get?_push_of_some _ e')))]
  exact Heap.get?_push_of_some _ (Heap.get?_push_of_some _ e')
theorem draws_tupleH (it l x1 : Addr) (hne : l ≠ it) (h1 : x1 ≠ it) (items : Array Value) :
    Draws prog w A it [it, l, x1] items.size (fun i v => items[i]? = some v) (fun i h => (h.IsTupleIter it l i ∧ h.IsTuple l items) ∧ HotAt A x1 h) where
  live := fun _ _ st => let ⟨o, ho, _⟩ := st.1.1; ⟨o, ho⟩
  frame := fun _ _ _ st hk => ⟨⟨st.1.1.at fun o e => hk it (by simp) o e, st.1.2.at fun o e => hk l (by simp) o e⟩, by
    obtain ⟨a, o, vs, b, c, d⟩ := st.2
    exact ⟨a, o, vs, hk x1 (by simp) o b, c, d⟩⟩
  item := fun i s Q E hi st hQ => by
    refine wpAny_nextOf_tuple_item st.1.1 st.1.2 (x := items[i]) (by simp [hi]) fun h' hit' hs' => ?_
    refine hQ _ h' s.toks (by simp [hi]) ⟨⟨hit', st.1.2.extBut hs'.extBut hne⟩, ?_⟩ hs'
    obtain ⟨a, o, vs, b, c, d⟩ := st.2
    exact ⟨a, o, vs, hs'.extBut x1 o h1 b, c, d⟩
  done := fun s Q E st hE => tuple_nextOf_end_hot st.2 st.1.1 st.1.2 (by simp) hE
end
end HotX
namespace Px
open PySem PySem.Spec PyProof.Rows L2
theorem turn_enumH {P : Program} {w : World} {K : PySem.W.Frag} {elts : List Expr} {kk : Nat} {tpos : Pos} (a e it : Addr) :
    L2H.TurnH P w K (.Tuple elts kk tpos) (Ite K a) [e, it] e (fun i h => (∃ old, IsEnum h e it ((i : Nat) : Int) old) ∧ h.IsListIter it a i ∧ e ≠ it) where
  mem := by simp
  obj := fun i h st b hb => by
    obtain ⟨⟨old, he⟩, ⟨o, ho, hc, hd⟩, _⟩ := st
    have e' : b = e ∨ b = it := by simpa using hb
    rcases e' with z | z
    · rw [z]; exact ⟨_, he, fun v q => nomatch q⟩
    · rw [z]; exact ⟨o, ho, fun v q => by rw [hd] at q; cases q⟩
  keep := fun i h h' st k => let ⟨⟨old, he⟩, hi, hne⟩ := st; ⟨⟨old, k e (by simp) _ he⟩, hi.at fun o q => k it (by simp) o q, hne⟩
  item := by
    intro X hP hw hK hc i pins s σ H E I hf st hg
    subst hP hw hK
    obtain ⟨⟨old, he⟩, hit, hne⟩ := st
    obtain ⟨xs, x, hq, hx⟩ := hg
    obtain ⟨its, rv, p, hz⟩ := I.list hq
    obtain ⟨u, hu, ru⟩ := rv.get hx
    have hel : e < s.heap.objs.size := Heap.lt_size he
    have hil : it < s.heap.objs.size := by obtain ⟨_, q, _⟩ := hit; exact Heap.lt_size q
    refine wpAny_pyNext_enum_item he hit p.isList (x := u) (by simpa using hu) hne fun h' ho hit' hT hsz hk => ?_
    refine ⟨_, rfl, wpAny_letOwnedTupleGo_enum (s := { s with heap := h', toks := s.toks + 1 }) ho fun h'' he' sb => ?_⟩
    have hT2 : h''.get? s.heap.objs.size = some { cls := .type "tuple", data := .seq #[.int i s.toks, u] } := (sb.2 _ (Nat.ne_of_gt hel)).trans hT
    have new : ObjOk X.prog X.w (upd H s.heap.objs.size (.tup [.int (i : Nat), x])) h'' s.heap.objs.size (.tup [.int (i : Nat), x]) :=
      ⟨by show 2 ≤ sizeLine; decide, [.int i s.toks, u], .cons ⟨_, rfl⟩ (.cons ru .nil), ⟨_, hT2, rfl, _, rfl⟩⟩
    have I1 : Inv X pins σ (upd H s.heap.objs.size (.tup [.int (i : Nat), x])) { s with heap := h'', toks := s.toks + 1 } :=
      I.turnedNew (ch := [e, it]) (fun b ob hb q => (sb.2 b (fun z => hb (by simp [z]))).trans (hk b ob (fun z => hb (by simp [z])) (fun z => hb (by simp [z])) q)) hf (Nat.le_refl _) new
    refine ⟨.ref s.heap.objs.size, _, I1, rfl, ⟨_, x, rfl, I.hok.fresh (Nat.le_refl _), rfl, fun ys hy => by rw [I.list_inj hy hq]; exact hx⟩, ⟨⟨u, ?_⟩, hit'.at fun o q => (sb.2 it (Ne.symm hne)).trans q, hne⟩, fun b hb => ?_⟩
    · have e1 : ((i + 1 : Nat) : Int) = (i : Int) + 1 := by omega
      rw [e1]; exact he'
    · have hb' : b < s.heap.objs.size := by
        have e' : b = e ∨ b = it := by simpa using hb
        rcases e' with z | z
        · rw [z]; exact hel
        · rw [z]; exact hil
      rw [upd_ne (Nat.ne_of_lt hb')]
      exact (hf b hb).1
  done := by
    intro X hP hw hK hc i pins s σ H E I hf st hg
    subst hP hw hK
    obtain ⟨⟨old, he⟩, hit, hne⟩ := st
    obtain ⟨xs, hq, hx⟩ := hg
    obtain ⟨its, rv, p, hz⟩ := I.list hq
    obtain ⟨f0, f1, f2, f3, f4, f5⟩ := hf it (by simp)
    have hl := rv.length
    obtain ⟨x1, hot⟩ := hc.at I
    have hT : s.TypeIs (.ref e) "enumerate" := ⟨_, he, rfl⟩
    unfold pyNext
    refine wpAny_bind (wpAny_attempt (wpAny_callSpecial?_slot (name := Str.ofString "__next__") hT F.slot_enumerate_next
      (wpAny_call_entry F.slot_enumerate_next hT F.entry_enumerate_next ?_ (F.args_enumerate_next_1 _))))
    show wpAny _ _ (field (.ref e) 2 >>= _) _ _ _
    refine wpAny_bind (wpAny_field he rfl (x := .ref it) rfl ?_)
    refine wpAny_bind (HotX.list_nextOf_end_hot (A := X.A.in1) hot hit p.isList (by simp; omega) fun h' x he' hx' => ?_)
    obtain ⟨o, ho, hc2⟩ := hx'
    refine wpAny_bind (wpAny_isInstance (T := "StopIteration") (b := true) ⟨o, ho, hc2⟩ isSubtype_stop ?_)
    exact wpAny_pure ⟨rfl, I.turned (t' := s.toks) (fun b o hb e => he' b o hb e) f0 f1 f3 f4 f5⟩
  self := fun A i s Q E st h => let ⟨⟨_, he⟩, _⟩ := st; wpAny_pyIter_enum he h
theorem turn_enumTH {P : Program} {w : World} {K : PySem.W.Frag} {elts : List Expr} {kk : Nat} {tpos : Pos} (a e it : Addr) :
    L2H.TurnH P w K (.Tuple elts kk tpos) (IteT K a) [e, it] e (fun i h => (∃ old, IsEnum h e it ((i : Nat) : Int) old) ∧ h.IsTupleIter it a i ∧ e ≠ it ∧ e ≠ a ∧ a ≠ it) where
  mem := by simp
  obj := fun i h st b hb => by
    obtain ⟨⟨old, he⟩, ⟨o, ho, hc, hd⟩, _⟩ := st
    have e' : b = e ∨ b = it := by simpa using hb
    rcases e' with z | z
    · rw [z]; exact ⟨_, he, fun v q => nomatch q⟩
    · rw [z]; exact ⟨o, ho, fun v q => by rw [hd] at q; cases q⟩
  keep := fun i h h' st k => let ⟨⟨old, he⟩, hi, hne⟩ := st; ⟨⟨old, k e (by simp) _ he⟩, hi.at fun o q => k it (by simp) o q, hne⟩
  item := by
    intro X hP hw hK hc i pins s σ H E I hf st hg
    subst hP hw hK
    obtain ⟨⟨old, he⟩, hit, hne, hea, hai⟩ := st
    obtain ⟨xs, x, hq, hx⟩ := hg
    obtain ⟨its, rv, p, hz⟩ := I.tuple hq
    obtain ⟨u, hu, ru⟩ := rv.get hx
    have hel : e < s.heap.objs.size := Heap.lt_size he
    have hil : it < s.heap.objs.size := by obtain ⟨_, q, _⟩ := hit; exact Heap.lt_size q
    have hlt : i < its.toArray.size := by
      rw [List.size_toArray]
      exact (List.getElem?_eq_some_iff.mp hu).1
    have hp : s.heap.IsTuple a its.toArray := p
    obtain ⟨x1, hot⟩ := hc.at I
    have hx1 : x1 ≠ it ∧ x1 ≠ e := by
      obtain ⟨_, o1, vs1, g1, d1, c1⟩ := id hot
      obtain ⟨oi, hoi, _, hdi⟩ := id hit
      refine ⟨fun z => ?_, fun z => ?_⟩
      · rw [z, hoi] at g1; cases g1; rw [hdi] at d1; cases d1; cases c1
      · rw [z, he] at g1; cases g1; cases d1; cases c1
    refine wpAny_pyNext_enum_itemD (HotX.draws_tupleH (A := X.A.in1) it a x1 hai hx1.1 its.toArray) he ⟨⟨hit, hp⟩, hot⟩ hlt hne (by simp only [List.mem_cons, List.not_mem_nil, or_false, not_or]; exact ⟨hne, hea, Ne.symm hx1.2⟩) fun y h' tk hy ho hst hT hsz hk => ?_
    have ey : y = u := by
      have h1 : its.toArray[i]? = some y := hy
      have h2 : its.toArray[i]? = some u := by simpa using hu
      rw [h1] at h2
      cases h2; rfl
    subst ey
    refine ⟨_, rfl, wpAny_letOwnedTupleGo_enum (s := { s with heap := h', toks := tk + 1 }) ho fun h'' he' sb => ?_⟩
    have hT2 : h''.get? s.heap.objs.size = some { cls := .type "tuple", data := .seq #[.int i tk, y] } := (sb.2 _ (Nat.ne_of_gt hel)).trans hT
    have new : ObjOk X.prog X.w (upd H s.heap.objs.size (.tup [.int (i : Nat), x])) h'' s.heap.objs.size (.tup [.int (i : Nat), x]) :=
      ⟨by show 2 ≤ sizeLine; decide, [.int i tk, y], .cons ⟨_, rfl⟩ (.cons ru .nil), ⟨_, hT2, rfl, _, rfl⟩⟩
    have I1 : Inv X pins σ (upd H s.heap.objs.size (.tup [.int (i : Nat), x])) { s with heap := h'', toks := tk + 1 } :=
      I.turnedNew (ch := [e, it]) (fun b ob hb q => (sb.2 b (fun z => hb (by simp [z]))).trans (hk b ob (fun z => hb (by simp [z])) (fun z => hb (by simp [z])) q)) hf (Nat.le_refl _) new
    refine ⟨.ref s.heap.objs.size, _, I1, rfl, ⟨_, x, rfl, I.hok.fresh (Nat.le_refl _), rfl, fun ys hy => by rw [I.tuple_inj hy hq]; exact hx⟩, ⟨⟨y, ?_⟩, hst.1.1.at fun o q => (sb.2 it (Ne.symm hne)).trans q, hne, hea, hai⟩, fun b hb => ?_⟩
    · have e1 : ((i + 1 : Nat) : Int) = (i : Int) + 1 := by omega
      rw [e1]; exact he'
    · have hb' : b < s.heap.objs.size := by
        have e' : b = e ∨ b = it := by simpa using hb
        rcases e' with z | z
        · rw [z]; exact hel
        · rw [z]; exact hil
      rw [upd_ne (Nat.ne_of_lt hb')]
      exact (hf b hb).1
  done := by
    intro X hP hw hK hc i pins s σ H E I hf st hg
    subst hP hw hK
    obtain ⟨⟨old, he⟩, hit, hne, hea, hai⟩ := st
    obtain ⟨xs, hq, hx⟩ := hg
    obtain ⟨its, rv, p, hz⟩ := I.tuple hq
    obtain ⟨f0, f1, f2, f3, f4, f5⟩ := hf it (by simp)
    have hl := rv.length
    obtain ⟨x1, hot⟩ := hc.at I
    have hp : s.heap.IsTuple a its.toArray := p
    have hT : s.TypeIs (.ref e) "enumerate" := ⟨_, he, rfl⟩
    unfold pyNext
    refine wpAny_bind (wpAny_attempt (wpAny_callSpecial?_slot (name := Str.ofString "__next__") hT F.slot_enumerate_next
      (wpAny_call_entry F.slot_enumerate_next hT F.entry_enumerate_next ?_ (F.args_enumerate_next_1 _))))
    show wpAny _ _ (field (.ref e) 2 >>= _) _ _ _
    refine wpAny_bind (wpAny_field he rfl (x := .ref it) rfl ?_)
    refine wpAny_bind (HotX.tuple_nextOf_end_hot (A := X.A.in1) hot hit hp (by simp; omega) fun h' x he' hx' => ?_)
    obtain ⟨o, ho, hc2⟩ := hx'
    refine wpAny_bind (wpAny_isInstance (T := "StopIteration") (b := true) ⟨o, ho, hc2⟩ isSubtype_stop ?_)
    exact wpAny_pure ⟨rfl, I.turned (t' := s.toks) (fun b o hb e => he' b o hb e) f0 f1 f3 f4 f5⟩
  self := fun A i s Q E st h => let ⟨⟨_, he⟩, _⟩ := st; wpAny_pyIter_enum he h
theorem pi_enumAH {X : Cx} {e : Expr} {ta : TA} {p pos tpos : Pos} {elts : List Expr} {kk : Nat} (hg : Gl X "enumerate") (hm : X.mg "enumerate" = none) (ha : PA X [e] ta) (hs : starEach [e] X.env = [(false, eval e X.env)] := by rfl) :
    L2H.PIH X (.Tuple elts kk tpos) (.Call (.Name "enumerate" p) [e] [] pos) (iEnumA X.K ta) := by
  refine ⟨fun pins s σ H R I h => ?_⟩
  refine Call_ (ld_blt I hg hm boot_enumerate (PyProof.Rows.callWith_type1 (thn (ha.run pos pins s σ H _ I h) fun us s1 ⟨vs, H1, I1, r1, q1⟩ => ?_) hs rfl))
  obtain ⟨a, xs, ex, q1⟩ := q1
  subst ex
  cases r1 with
  | cons r rr =>
    cases rr
    cases r
    have fresh2 : ∀ b, b ∈ [s1.heap.objs.size + 1, s1.heap.objs.size] → FpOk X pins H1 b := fun b hb => by
      have e' : b = s1.heap.objs.size + 1 ∨ b = s1.heap.objs.size := by simpa using hb
      have hle : s1.heap.objs.size ≤ b := by
        rcases e' with z | z
        · rw [z]; exact Nat.le_add_right _ _
        · rw [z]; exact Nat.le_refl _
      exact I1.fpOk hle (I1.hok.fresh hle)
    rcases q1 with ⟨hq, q⟩ | ⟨hq, q⟩
    · obtain ⟨its, rv, p', hz⟩ := I1.list hq
      refine call_enumerate_list p'.isList fun h' he hit hsz hk => wpAny_pyIter_enum he ?_
      have I2 : Inv X pins σ H1 { s1 with heap := h' } := I1.kept (t' := s1.toks) hk
      exact ⟨s1.heap.objs.size + 1, [s1.heap.objs.size + 1, s1.heap.objs.size], _, _, H1, rfl, I2, turn_enumH a (s1.heap.objs.size + 1) s1.heap.objs.size, ⟨⟨.none, he⟩, hit, Nat.succ_ne_self _⟩, fresh2, q⟩
    · obtain ⟨its, rv, p', hz⟩ := I1.tuple hq
      have hp : s1.heap.IsTuple a its.toArray := p'
      have hal : a < s1.heap.objs.size := by obtain ⟨o, ho, _⟩ := id hp; exact Heap.lt_size ho
      refine enum_begins1 (begins_tuple a its.toArray) hp fun h' he hit hsz hk => wpAny_pyIter_enum he ?_
      have I2 : Inv X pins σ H1 { s1 with heap := h' } := I1.kept (t' := s1.toks) hk
      exact ⟨s1.heap.objs.size + 1, [s1.heap.objs.size + 1, s1.heap.objs.size], _, _, H1, rfl, I2, turn_enumTH a (s1.heap.objs.size + 1) s1.heap.objs.size, ⟨⟨.none, he⟩, ⟨_, hit, rfl, rfl⟩, Nat.succ_ne_self _, Nat.ne_of_gt (Nat.lt_succ_of_lt hal), Nat.ne_of_lt hal⟩, fresh2, q⟩
theorem i_enumH {X : Cx} {W : WX} {e : Expr} {ds : DA} {p pos tpos : Pos} {elts : List Expr} {kk : Nat} (hm : X.mg "enumerate" = none) (ha : AJ X W [e] ds) (hg : Gl X "enumerate" := by rfl) (hs : starEach [e] X.env = [(false, eval e X.env)] := by rfl) :
    IJH X W (.Tuple elts kk tpos) (.Call (.Name "enumerate" p) [e] [] pos) (iEn ds) := piH_imp (pi_enumAH hg hm ha hs) fun σ H R ⟨B, ρ, μ, G, q, x, Rl, h, gv, gx⟩ =>
  ⟨B, ρ, μ, G, _, x, Rl, h, fun ps vs μ1 G1 H1 h0 g1 r1 => by
    obtain ⟨xs, rfl | rfl, h1⟩ := enP_inv h0
    · obtain ⟨v, ws, rfl, r, rs⟩ := r1.cons_inv
      obtain rfl := rs.nil_inv
      obtain ⟨a, vs, rfl, sq, rs⟩ := r.lst_inv
      exact ⟨a, vs, rfl, .inl ⟨.inl (.inl (g1.ok.sub _ _ sq)), gv _ _ μ1 G1 H1 h1 g1 (itok_enum (.inl (.inl sq)) rs)⟩⟩
    · obtain ⟨v, ws, rfl, r, rs⟩ := r1.cons_inv
      obtain rfl := rs.nil_inv
      obtain ⟨a, vs, rfl, sq, rs⟩ := r.tup_inv
      exact ⟨a, vs, rfl, .inr ⟨g1.ok.sub.t sq, gv _ _ μ1 G1 H1 h1 g1 (itok_enumT sq rs)⟩⟩, gx⟩
theorem unpackItems_tupleH {prog : Program} {w : World} {A : Around} {E : Value → Shared → Prop} {s : Shared} {x1 t : Addr} {items : Array Value} {Q : List Value → Shared → Prop} (hot : HotX.HotAt A x1 s.heap) (ht : IsTup s.heap t items)
    (hQ : ∀ h', Heap.ExtBut s.heap.objs.size s.heap h' → Q items.toList { s with heap := h' }) : wpAny (model prog w) A (unpackItems (.ref t) items.size none) Q E s := by
  have hlt : t ≠ s.heap.objs.size := by obtain ⟨o, ho, _⟩ := ht; exact Nat.ne_of_lt (Heap.lt_size ho)
  unfold unpackItems
  refine wpAny_bind ?_
  · unfold notIterableAtAll
    refine wpAny_bind (wpAny_specialOf ht.typeIs slot_tuple_iter.lookup ?_)
    refine wpAny_pure ?_
    simp only [Bool.false_eq_true, if_false]
    refine wpAny_bind (wpAny_holding (iter_tuple ht ?_))
    refine wpAny_bind (wpAny_holding (draw_tuple hlt items.size 0 _ _ ⟨_, Heap.get?_push_size _ rfl, rfl, rfl⟩ (ht.push _) (by omega) fun h₁ hit₁ hs₁ => ?_))
    have hall : List.take items.size (List.drop 0 items.toList) = items.toList := by
      rw [List.drop_zero]; exact List.take_of_length_le (by simp)
    rw [hall]
    rw [if_neg (by simp)]
    have ht₁ : IsTup h₁ t items := (ht.push _).extBut hs₁.extBut hlt
    have hot₁ : HotX.HotAt A x1 h₁ := by
      obtain ⟨hh, o1, vs1, g1, d1, c1⟩ := hot
      exact ⟨hh, o1, vs1, hs₁.extBut x1 o1 (Nat.ne_of_lt (Heap.lt_size g1)) (Heap.get?_push_of_some _ g1), d1, c1⟩
    refine wpAny_bind (wpAny_holding (HotX.tuple_end_hot (s := { s with heap := h₁ }) hot₁ hit₁ ht₁ (by simp) fun h₂ he₂ => ?_))
    simp only [Option.isSome_none, Bool.false_eq_true, if_false]
    refine wpAny_pure (hQ h₂ fun b o hb e => he₂ b o hb (hs₁.extBut b o hb (Heap.get?_push_of_some _ e)))
theorem pg_tupH {X : Cx} {es : List Expr} {k : Nat} {t : TGs} {n : Nat} {pos : Pos} (hc : L2H.HotC X) (h : PGs X es t)
    (hn : (assignEach es X.env).length = n := by rfl) (hst : (assignEach es X.env).findIdx? (·.1) = none := by rfl) : PG X (.Tuple es k pos) (gTup X.K n t) := by
  refine ⟨fun pins s σ H v u Q I r hw => ?_⟩
  obtain ⟨a, xs, e1, hq, hl, hw⟩ := hw
  subst e1
  cases r
  obtain ⟨its, rv, ht, hz⟩ := I.tuple hq
  obtain ⟨x1, hot⟩ := hc.at I
  rw [assign_Tuple]
  refine wpAny_bind (wpAny_standAt ?_)
  unfold unpack
  rw [show (assignEach es X.env).length = its.toArray.size by simp [hn, ← hl, rv.length], hst]
  refine wpAny_bind (wpAny_holding (unpackItems_tupleH hot ht fun h' hx => ?_))
  have I1 : Inv X pins σ H { s with heap := h' } := I.kept (t' := s.toks) fun b o e => hx b o (Nat.ne_of_lt (Heap.lt_size e)) e
  exact h.run pins _ σ H xs _ Q I1 (by simpa using rv) hw
theorem pg_tupM {X : Cx} {hot : Bool} {es : List Expr} {k : Nat} {t : TGs} {n : Nat} {pos : Pos} (m : Md X hot) (h : PGs X es t)
    (hn : (assignEach es X.env).length = n := by rfl) (hst : (assignEach es X.env).findIdx? (·.1) = none := by rfl) : PG X (.Tuple es k pos) (gTup X.K n t) := m.elim (fun hc => pg_tup hc h hn hst) fun z => pg_tupH z.2 h hn hst
end Px
namespace Px
open PySem PySem.Spec PyProof.Rows L2
/-- a new generator behind the state s: woken, it raises -/
structure GXn (P : Program) (w : World) (K : Frg) (k : Nat) (outer : List Env) (H : Hp) (s : Shared) (E : XK) (s1 : Shared) (a : Addr) (g : Nat) (gs : GenState) (oa : Obj) : Prop where
  a1 : s.heap.objs.size ≤ a
  a2 : a < s1.heap.objs.size
  ge : s1.heap.get? a = some oa
  isg : ∀ h : Heap, h.get? a = some oa → h.IsGen a g
  gen : s1.gens[g]? = some gs
  os : s1.os = s.os
  bare : AllBare s1.gens
  keep : ∀ b o, s.heap.get? b = some o → s1.heap.get? b = some o
  wake : ∀ (A : Around) (s2 : Shared), A.handled = none → Rm k A → A.frames = some outer → (∀ b o, s1.heap.get? b = some o → s2.heap.get? b = some o) → s2.os = s.os → AllBare s2.gens →
    WkG (model P w) A (fun e s3 => ∃ u, e = .ret (.error u) ∧ CXI K P w outer H s E u s3 ∧ s3.heap.get? a = some oa) gs s2
def GnX (P : Program) (w : World) (K : Frg) (mg : Str → Option Value) (base : Heap) (k : Nat) (f : Addr) (n : Nat) (c0 : Cl) (ct : Ct) : Prop :=
  stopB K c0 = true ∧ ∀ (A : Around) (outer : List Env) (s : Shared) (H : Hp) (us : List Value) (vs : List V) (E : XK) (B : BX) (μ : Mu) (G : Hp) (as : List PV) (z : QX), A.handled = none → Rm k A → Env0 P w K mg base A outer s H → us.length = n → Vals vs us → Ok K B μ G H → Reps K B G as vs → ct as μ (fun _ _ => False) z →
    (∀ xv d μ' G' H', z xv μ' → Go K B μ G H μ' G' H' → XRep K B G' xv d → E (.ref (ca K xv.1)) d H') →
    codeAny (model P w) A (.call (.ref f) ⟨us, []⟩) (fun r s1 => ∃ a g gs oa, r = .ok (.ret (.ref a)) ∧ GXn P w K k outer H s (fun cls d H' => E cls d H' ∧ cls = .ref (ca K c0)) s1 a g gs oa) s
theorem GnX.up {P : Program} {w : World} {K : Frg} {mg : Str → Option Value} {base : Heap} {k j n : Nat} {f : Addr} {c0 : Cl} {ct : Ct} (F : GnX P w K mg base k f n c0 ct) (h : k ≤ j) : GnX P w K mg base j f n c0 ct :=
  ⟨F.1, fun A outer s H us vs E B μ G as z hA hr e0 hn r o rr hc hE => codeAny_mono (F.2 A outer s H us vs E B μ G as z hA (hr.mono h) e0 hn r o rr hc hE) fun rr s1 ⟨a, g, gs, oa, er, N⟩ =>
    ⟨a, g, gs, oa, er, ⟨N.a1, N.a2, N.ge, N.isg, N.gen, N.os, N.bare, N.keep, fun A s2 h1 h2 h3 h4 h5 h6 => N.wake A s2 h1 (h2.mono h) h3 h4 h5 h6⟩⟩⟩
end Px
namespace Px
open PySem PySem.Spec PyProof.Rows L2
open PySem.W (findIn typeIn keepIn subIn clsIn nsIn codeIn alongIn fnX envX)
def e2Args (p1 p2 p3 : Pos) : Arguments := { posonlyargs := [], args := [⟨"self", none, p1⟩, ⟨"x", none, p2⟩, ⟨"y", none, p3⟩], vararg := none, kwonlyargs := [], kw_defaults := [], kwarg := none, defaults := [] }
def e2Body (msg : Str) (j : Nat) (p1 p2 p3 p4 p5 p6 q1 q2 q3 q4 r1 r2 r3 r4 : Pos) : List Stmt :=
  [.Expr (.Call (.Attribute (.Call (.Name "super" p1) [] [] p2) "__init__" p3) [.Constant (.str msg) j p4] [] p5) p6, .Assign [.Attribute (.Name "self" q1) "x" q2] (.Name "x" q3) q4, .Assign [.Attribute (.Name "self" r1) "y" r2] (.Name "y" r3) r4]
def e2Scope : Scope := { kind := .function, names := [("self", .local), ("x", .local), ("y", .local), ("__class__", .free), ("super", .globalImplicit)], isGenerator := false, isCoroutine := false, more := [] }
/-- what the written part says of such a class at C, its __init__ at fI -/
structure ErrF2 (P : Program) (K : Frg) (C fI : Addr) : Prop where
  new : PySem.W.excInitIn K C He.veBase "ValueError.__new__" = true
  cd : ∃ cd, clsIn K C = some cd ∧ cd.hasDict = true ∧ HandSPX.refsVE cd.mro = true ∧ alongIn K "__init__" ((cd.mro.dropWhile (· != .ref C)).drop 1) = some (some (.builtin "ValueError.__init__"))
  sa : findIn K (.ref C) "__setattr__" = some (some (.builtin "object.__setattr__"))
  no : findIn K (.ref C) "x" = some none
  no2 : findIn K (.ref C) "y" = some none
  iC : findIn K (.ref C) "__init__" = some (some (.ref fI))
  tI : typeIn K (.ref fI) = some (.type "function")
  kC : keepIn K (.ref C) = true
  ex : subIn K (.ref C) (.type "BaseException") = some true
  ty : typeIn K (.ref C) = some (.type "type")
  ve : subIn K (.ref C) (.type "ValueError") = some true
  me : subIn K (.ref C) (.ref C) = some true
  op : nsIn K cStatics "thirdparty.any" = some none
  fn : ∃ (oc : Value) (od : Option Addr) (qual msg : Str) (j : Nat) (dV kV doc pm : Value) (an : Option Addr) (cda cc : Addr) (ct : Value) (osl : Array (Option Value)) (a1 a2 a3 p1 p2 p3 p4 p5 p6 q1 q2 q3 q4 r1 r2 r3 r4 : Pos) (o2 o3 : Obj) (vs : Array Value) (file : Str) (tf : Tok),
    K.lookup fI = some ⟨oc, od, .func (fnX "__init__" qual (e2Args a1 a2 a3) (e2Body msg j p1 p2 p3 p4 p5 p6 q1 q2 q3 q4 r1 r2 r3 r4) e2Scope [("__class__", cc)] dV kV doc pm an (.ref cda) ct), osl⟩ ∧ codeIn K (.ref cda) qual = true ∧
      K.lookup cc = some o2 ∧ o2.data = .cell (some (.ref C)) ∧ K.lookup cda = some o3 ∧ o3.data = .fields vs ∧ vs[2]? = some (.str file tf) ∧ (P.main.file == file) = true ∧
      (∀ u v v2 : Value, bindArgs (fnX "__init__" qual (e2Args a1 a2 a3) (e2Body msg j p1 p2 p3 p4 p5 p6 q1 q2 q3 q4 r1 r2 r3 r4) e2Scope [("__class__", cc)] dV kV doc pm an (.ref cda) ct) ⟨[u, v, v2], []⟩ = pure ([("self", u), ("x", v), ("y", v2)] : List (Str × Value))) ∧ ∀ env : Env, MCall msg j p1 p2 p3 p4 p5 env
  sup : (P.main.scope.names.lookup ("super" : Str)).isSome = false
end Px
namespace Px
open PySem PySem.Spec PyProof.Rows L2
/-- the promise of a def, whatever is handled where it is called -/
def FnA (P : Program) (w : World) (K : Frg) (mg : Str → Option Value) (base : Heap) (k : Nat) (f : Addr) (sp : Sp) : Prop :=
  ∀ (A : Around) (outer : List Env) (s : Shared) (H : Hp) (us : List Value) (vs : List V) (Q : VK) (E : XK), Rm k A → Env0 P w K mg base A outer s H → Vals vs us → sp vs H Q E → codeAny (model P w) A (.call (.ref f) ⟨us, []⟩) (CR (CXI K P w) outer P w H s Q E) s
theorem FnA.up {P : Program} {w : World} {K : Frg} {mg : Str → Option Value} {base : Heap} {k j : Nat} {f : Addr} {sp : Sp} (F : FnA P w K mg base k f sp) (h : k ≤ j) : FnA P w K mg base j f sp := fun A outer s H us vs Q E hr => F A outer s H us vs Q E (hr.mono h)
/-- two ints are compared -/
def ctI : Ct := fun as μ q _ => match as with
  | [.int i, .int n] => q (.bl (decide (i = n))) μ
  | _ => False
end Px
namespace Px
open PySem PySem.Spec PyProof.Rows L2
def nstar : Expr → Bool
  | .Starred _ _ => false
  | _ => true
theorem star_cons {e : Expr} {es : List Expr} {env : Env} (h : nstar e = true) : starEach (e :: es) env = (false, eval e env) :: starEach es env := by
  cases e <;> first | rfl | cases h
def nost (es : List Expr) : Bool := es.all nstar
theorem nost_any {pos : Pos} {env : Env} : ∀ {es : List Expr}, nost es = true → (backTo pos (starEach es env)).any (·.1) = false
  | [], _ => rfl
  | e :: es, h => by
    have h : (nstar e && nost es) = true := h
    obtain ⟨h1, h2⟩ := He.ba h
    rw [star_cons h1]
    show (false || (backTo pos (starEach es env)).any (·.1)) = false
    rw [nost_any h2] <;> rfl
theorem nost_all {pos : Pos} {env : Env} : ∀ {es : List Expr}, nost es = true → (backTo pos (starEach es env)).all (!·.1) = true
  | [], _ => rfl
  | e :: es, h => by
    have h : (nstar e && nost es) = true := h
    obtain ⟨h1, h2⟩ := He.ba h
    rw [star_cons h1]
    show (true && (backTo pos (starEach es env)).all (!·.1)) = true
    rw [nost_all h2] <;> rfl
/-- not super() -/
def nsup : Expr → Bool
  | .Call (.Name id _) [] [] _ => id != "super"
  | _ => true
theorem base_of {o : Expr} {f : Str} {env : Env} {whole : Sem Value} (h : nsup o = true) : attributeBase o f env whole = whole := by
  unfold attributeBase
  split
  · rename_i id p pos
    have h : (id != "super") = true := h
    simp [h]
  · rfl
/-- a test that is a value -/
def plainT : Expr → Bool
  | .UnaryOp .Not _ _ => false
  | .BoolOp _ _ _ => false
  | .IfExp _ _ _ _ => false
  | .Compare _ _ _ _ => false
  | _ => true
theorem isTrue_of {a : Expr} {env : Env} (h : plainT a = true) : ∀ whole, isTrue a env whole = (do let v ← whole; standAt a.pos; holding [v] (truthy v)) := by
  intro whole
  cases a with
  | UnaryOp op x p => cases op <;> first | rfl | exact absurd h Bool.false_ne_true
  | BoolOp _ _ _ => exact absurd h Bool.false_ne_true
  | IfExp _ _ _ _ => exact absurd h Bool.false_ne_true
  | Compare _ _ _ _ => exact absurd h Bool.false_ne_true
  | _ => rfl
/-- no comprehension: stored or dropped plainly -/
def noComp : Expr → Bool
  | .ListComp _ _ _ _ => false
  | .SetComp _ _ _ _ => false
  | .DictComp _ _ _ _ _ => false
  | _ => true
theorem swaps_of {e : Expr} {t : Option Expr} {l : Nat} {env : Env} (h : noComp e = true) : swapsWith e t l env = pure false := by
  cases e <;> first | rfl | exact absurd h Bool.false_ne_true
def noSet : Expr → Bool
  | .Set _ _ _ => false
  | _ => true
theorem mark_of {op : CmpOp} {e : Expr} (h : noSet e = true) : behindInMarks op e = false := by
  cases e <;> first | rfl | exact absurd h Bool.false_ne_true
theorem fold_of {e : Expr} {env : Env} (h : noSet e = true) : ∀ x, foldedSetIterable e env x = pure x := by
  intro x
  cases e <;> first | rfl | exact absurd h Bool.false_ne_true
def noSlice : Expr → Bool
  | .Slice _ _ _ _ => false
  | _ => true
theorem plainIx_of {b : Expr} (h : noSlice b = true) : PlainIx b := by
  intro o i
  cases b <;> first | rfl | exact absurd h Bool.false_ne_true
def visB (sc : Scope) (x : Str) : Bool := match sc.names.lookup x with
  | some .local => true
  | some .cell => true
  | some .free => true
  | _ => false
theorem visB_ok {sc : Scope} {x : Str} (h : visB sc x = true) : Vis sc x := by
  unfold visB at h
  split at h
  · exact .inl (by assumption)
  · exact .inr (.inl (by assumption))
  · exact .inr (.inr (by assumption))
  · cases h
def locB (sc : Scope) (x : Str) : Bool := match sc.names.lookup x with
  | some .local => true
  | some .cell => true
  | _ => false
theorem locB_ok {sc : Scope} {x : Str} (h : locB sc x = true) : Loc sc x := by
  unfold locB at h
  split at h
  · exact .inl (by assumption)
  · exact .inr (by assumption)
  · cases h
def glB (sc : Scope) (x : Str) : Bool := decide (sc.names.lookup x = some .globalImplicit) && (!(x == ("__debug__" : Str)) && decide (x ≠ "__name__"))
def kwN (kws : List Keyword) : List (Option Str) := kws.map (·.arg)
theorem kw_all {pos : Pos} {env : Env} : ∀ {kws : List Keyword} {ks : List Str}, kwN kws = ks.map some → (backToKw pos (keywordEach kws env)).all (·.1.isSome) = true ∧ (backToKw pos (keywordEach kws env)).filterMap (·.1) = ks ∧ (backToKw pos (keywordEach kws env)).any (·.1.isNone) = false
  | [], [], _ => ⟨rfl, rfl, rfl⟩
  | [], _ :: _, h => by cases h
  | _ :: _, [], h => by cases h
  | ⟨nm, v, p⟩ :: kws, k :: ks, h => by
    have h : nm :: kwN kws = some k :: ks.map some := h
    obtain ⟨h1, h2⟩ := List.cons.inj h
    subst h1
    obtain ⟨a, b, c⟩ := kw_all (pos := pos) (env := env) h2
    refine ⟨?_, ?_, ?_⟩
    · show (true && (backToKw pos (keywordEach kws env)).all (·.1.isSome)) = true
      rw [a] <;> rfl
    · show k :: (backToKw pos (keywordEach kws env)).filterMap (·.1) = k :: ks
      rw [b]
    · show (false || (backToKw pos (keywordEach kws env)).any (·.1.isNone)) = false
      rw [c] <;> rfl
/-- o.m(..): the form of a method call -/
def fewB (args : List Expr) (kws : List Keyword) (apos pos : Pos) : Bool := nost args && (decide (args.length + kws.length < 29) && (apos.endLine == pos.line))
theorem eval_meth {o : Expr} {m : Str} {apos pos : Pos} {args : List Expr} {kws : List Keyword} {ks : List Str} {env : Env} (hs : nsup o = true) (hf : fewB args kws apos pos = true) (hk : kwN kws = ks.map some) :
    eval (.Call (.Attribute o m apos) args kws pos) env = (do
      let ov ← eval o env
      standAt apos.atName
      let (g, first) ← holding [ov] (getMethod ov m (do return (← importBound o env).getD true))
      callWith pos g first (backTo pos (starEach args env)) (backToKw pos (keywordEach kws env))) := by
  obtain ⟨h1, h2⟩ := He.ba hf
  obtain ⟨h2, h3⟩ := He.ba h2
  have h2 := of_decide_eq_true h2
  have few : methodCallForm (args.length + kws.length) (backTo pos (starEach args env)) (backToKw pos (keywordEach kws env)) = true := by
    unfold methodCallForm
    rw [nost_all h1, (kw_all hk).1]
    have : args.length + kws.length + (if (backToKw pos (keywordEach kws env)).isEmpty then 0 else 1) < 30 := by split <;> omega
    exact decide_eq_true this
  show (do
    let ov ← attributeBase o m env (eval o env)
    standAt apos.atName
    methodCall o m apos pos env ov (args.length + kws.length) (backTo pos (starEach args env)) (backToKw pos (keywordEach kws env))) = _
  rw [base_of hs]
  unfold methodCall
  simp only [few, calleeOf, methodCallPos, h3, if_true, Bool.not_true, Bool.false_or]
  rfl
end Px
namespace Px
open PySem PySem.Spec PyProof.Rows L2
inductive Fid where
  | g (x : Nat) (ks : List Nat)
  | m (c : Cl) (x : Nat) (ks : List Nat)
  | cm (c : Cl) (x : Nat) (ks : List Nat)
  | k (c : Cl) (fz : Bool) (ks : List Nat)
  | p (c : Cl) (x : Nat) (ks : List Nat)
  | gn (x : Nat) (ks : List Nat)
  | kf (x : Nat) (ks : List Nat)
  | mg (c : Cl) (x : Nat) (ks : List Nat)
  | bo (c : Cl)
  | gw (x : Nat) (ks : List Nat)
  | e2 (c : Cl)
  | sp (c : Cl) (x : Nat)
  | bm (c : Cl) (x : Nat)
  | iv (x : Nat)
  | gx (c : Cl) (x : Nat) (ks : List Nat)
  | st (c : Cl) (x : Nat) (ks : List Nat)
def eqN : List Nat → List Nat → Bool
  | [], [] => true
  | a :: as, b :: bs => (match Nat.beq a b with
    | true => eqN as bs
    | false => false)
  | _, _ => false
theorem eqN_ok : ∀ {a b : List Nat}, eqN a b = true → a = b
  | [], [], _ => rfl
  | [], _ :: _, h => by cases h
  | _ :: _, [], h => by cases h
  | a :: as, b :: bs, h => by
    unfold eqN at h
    split at h
    · rename_i e
      rw [Nat.eq_of_beq_eq_true e, eqN_ok h]
    · cases h
def Fid.eqb : Fid → Fid → Bool
  | .g x ks, .g y ls => (match Nat.beq x y with
    | true => eqN ks ls
    | false => false)
  | .m c x ks, .m d y ls => (match Nat.beq x y with
    | true => (match decEq c d with
      | .isTrue _ => eqN ks ls
      | .isFalse _ => false)
    | false => false)
  | .cm c x ks, .cm d y ls => (match Nat.beq x y with
    | true => (match decEq c d with
      | .isTrue _ => eqN ks ls
      | .isFalse _ => false)
    | false => false)
  | .k c x ks, .k d y ls => (match decEq c d with
    | .isTrue _ => (match x, y with
      | true, true => eqN ks ls
      | false, false => eqN ks ls
      | _, _ => false)
    | .isFalse _ => false)
  | .p c x ks, .p d y ls => (match Nat.beq x y with
    | true => (match decEq c d with
      | .isTrue _ => eqN ks ls
      | .isFalse _ => false)
    | false => false)
  | .gn x ks, .gn y ls => (match Nat.beq x y with
    | true => eqN ks ls
    | false => false)
  | .kf x ks, .kf y ls => (match Nat.beq x y with
    | true => eqN ks ls
    | false => false)
  | .mg c x ks, .mg d y ls => (match Nat.beq x y with
    | true => (match decEq c d with
      | .isTrue _ => eqN ks ls
      | .isFalse _ => false)
    | false => false)
  | .bo c, .bo d => (match decEq c d with
    | .isTrue _ => true
    | .isFalse _ => false)
  | .gw x ks, .gw y ls => (match Nat.beq x y with
    | true => eqN ks ls
    | false => false)
  | .e2 c, .e2 d => (match decEq c d with
    | .isTrue _ => true
    | .isFalse _ => false)
  | .sp c x, .sp d y => (match Nat.beq x y with
    | true => (match decEq c d with
      | .isTrue _ => true
      | .isFalse _ => false)
    | false => false)
  | .bm c x, .bm d y => (match Nat.beq x y with
    | true => (match decEq c d with
      | .isTrue _ => true
      | .isFalse _ => false)
    | false => false)
  | .iv x, .iv y => Nat.beq x y
  | .gx c x ks, .gx d y ls => (match Nat.beq x y with
    | true => (match decEq c d with
      | .isTrue _ => eqN ks ls
      | .isFalse _ => false)
    | false => false)
  | .st c x ks, .st d y ls => (match Nat.beq x y with
    | true => (match decEq c d with
      | .isTrue _ => eqN ks ls
      | .isFalse _ => false)
    | false => false)
  | _, _ => false
theorem Fid.eqb_ok {a b : Fid} (h : Fid.eqb a b = true) : a = b := by
  unfold Fid.eqb at h
  split at h
  · split at h
    · rename_i e
      rw [Nat.eq_of_beq_eq_true e, eqN_ok h]
    · cases h
  · split at h
    · rename_i e
      split at h
      · rename_i z _
        rw [Nat.eq_of_beq_eq_true e, eqN_ok h, z]
      · cases h
    · cases h
  · split at h
    · rename_i e
      split at h
      · rename_i z _
        rw [Nat.eq_of_beq_eq_true e, eqN_ok h, z]
      · cases h
    · cases h
  · split at h
    · rename_i z _
      split at h
      · rw [eqN_ok h, z]
      · rw [eqN_ok h, z]
      · cases h
    · cases h
  · split at h
    · rename_i e
      split at h
      · rename_i z _
        rw [Nat.eq_of_beq_eq_true e, eqN_ok h, z]
      · cases h
    · cases h
  · split at h
    · rename_i e
      rw [Nat.eq_of_beq_eq_true e, eqN_ok h]
    · cases h
  · split at h
    · rename_i e
      rw [Nat.eq_of_beq_eq_true e, eqN_ok h]
    · cases h
  · split at h
    · rename_i e
      split at h
      · rename_i z _
        rw [Nat.eq_of_beq_eq_true e, eqN_ok h, z]
      · cases h
    · cases h
  · split at h
    · rename_i z _
      rw [z]
    · cases h
  · split at h
    · rename_i e
      rw [Nat.eq_of_beq_eq_true e, eqN_ok h]
    · cases h
  · split at h
    · rename_i z _
      rw [z]
    · cases h
  · split at h
    · rename_i e
      split at h
      · rename_i z _
        rw [Nat.eq_of_beq_eq_true e, z]
      · cases h
    · cases h
  · split at h
    · rename_i e
      split at h
      · rename_i z _
        rw [Nat.eq_of_beq_eq_true e, z]
      · cases h
    · cases h
  · rw [Nat.eq_of_beq_eq_true h]
  · split at h
    · rename_i e
      split at h
      · rename_i z _
        rw [Nat.eq_of_beq_eq_true e, eqN_ok h, z]
      · cases h
    · cases h
  · split at h
    · rename_i e
      split at h
      · rename_i z _
        rw [Nat.eq_of_beq_eq_true e, eqN_ok h, z]
      · cases h
    · cases h
  · cases h
abbrev Tbl := List (Fid × Ct)
def look : Tbl → Fid → Option Ct
  | [], _ => none
  | (g, c) :: r, f => (match Fid.eqb f g with
    | true => some c
    | false => look r f)
theorem look_mem {F : Fid} {ct : Ct} : ∀ {L : Tbl}, look L F = some ct → (F, ct) ∈ L
  | [], h => by cases h
  | (g, c) :: r, h => by
    unfold look at h
    split at h
    · rename_i e
      cases h
      rw [Fid.eqb_ok e]
      exact List.mem_cons_self
    · exact List.mem_cons_of_mem _ (look_mem h)
def noCt : Ct := fun _ _ _ _ => False
/-- what is known while a text runs: the promises of the defs it calls (LH: also while an error is handled), the error that is handled -/
structure Rt where
  L : Tbl
  LH : Tbl := []
  Q : Qt := []
  xi : Option (Addr × Addr × Cl) := none
def Rt.ct (R : Rt) (F : Fid) : Ct := match look R.L F with
  | some c => c
  | none => noCt
/-- the table has it -/
def Rt.has (R : Rt) (F : Fid) : Bool := match look R.L F with
  | some _ => true
  | none => false
theorem Rt.has_mem {R : Rt} {F : Fid} (h : R.has F = true) : (F, R.ct F) ∈ R.L := by
  unfold Rt.has at h
  unfold Rt.ct
  cases e : look R.L F with
  | none => rw [e] at h; cases h
  | some c => exact look_mem e
def Kst.pv : Kst → PV
  | .int i => .int i
  | .str z => .str z
  | .txs zs => .ctup (zs.map .str)
/-- an error without an __init__ of its own -/
structure Facts (S : Stt) (K : Frg) (mg : Str → Option Value) : Prop where
  fre : ∀ x ∈ S.fre, mg x = none
  ka : KA K
  kc : ∀ c ∈ S.hs, kcB K c = true
  xc : ∀ c ∈ S.xs, xcB K c = true
  cn : ∀ c ∈ S.hs ++ S.xs, mg c.name = some (.ref (ca K c))
  gl : ∀ i ∈ S.gl, mg (S.nm i) = some (.ref (He.ga K (S.nm i))) ∧ PySem.W.keepIn K (.ref (He.ga K (S.nm i))) = true
  cms : ∀ p ∈ S.cms, knB K p.1 = true ∧ ClX.CRead K (ca K p.1) (.type "type") ∧ ClX.CMet K (ca K p.1) (.type "type") (S.nm p.2) (cmRec K (ca K p.1) (S.nm p.2)) (cmFn K (ca K p.1) (S.nm p.2))
  mks : ∀ c ∈ S.mks, kcB K c = true ∧ mg c.name = some (.ref (ca K c)) ∧ Mk K (ca K c) (He.ma K (ca K c) "__init__")
  ms : ∀ p ∈ S.ms, S.nm p.2 ∉ p.1.flds ∧ kcB K p.1 = true ∧ Meth K (ca K p.1) (S.nm p.2) (He.ma K (ca K p.1) (S.nm p.2)) ∧ PySem.W.fnIn K (He.ma K (ca K p.1) (S.nm p.2)) = true ∧ PySem.W.selfFirst K (ca K p.1) = true
  sa : ∀ p ∈ S.sa, He.ma K (ca K p.1) (S.nm p.2.2) = He.ma K (ca K p.2.1) (S.nm p.2.2)
  er : ∀ p ∈ S.er, p.1.flds = [p.2] ∧ ∃ fI, ErrF S.P K (ca K p.1) fI p.2
  cv : ∀ p ∈ S.cv, ∃ v u, ClX.CRead K (ca K p.1) (.type "type") ∧ ClX.CVal K (ca K p.1) (.type "type") p.2.1 v u ∧ ∀ B G, Rep K B G p.2.2.pv v
  gc : ∀ p ∈ S.gc, ∃ v u, mg p.1 = some u ∧ RelV v u ∧ ∀ B G, Rep K B G p.2.pv v
  prs : ∀ p ∈ S.prs, S.nm p.2 ∉ p.1.flds ∧ kcB K p.1 = true ∧ PropOf K (ca K p.1) (S.nm p.2) (He.ma K (ca K p.1) (S.nm p.2)) (prFn K (ca K p.1) (S.nm p.2))
  isx : S.isx = true → IsX K
  ow : ∀ c ∈ S.ow, owB K c = true
section
variable (S : Stt) (hot : Bool) (P : Program) (w : World) (K : Frg) (mg : Str → Option Value) (base : Heap) (k : Nat)
/-- the def F keeps the promise ct -/
def PromOk : Fid → Ct → Prop
  | .g x ks, ct => FnS hot P w K mg base k (He.ga K (S.nm x)) (ks.map S.nm) (spP K ct)
  | .m c x ks, ct => S.nm x ∉ c.flds ∧ kcB K c = true ∧ Meth K (ca K c) (S.nm x) (He.ma K (ca K c) (S.nm x)) ∧ PySem.W.fnIn K (He.ma K (ca K c) (S.nm x)) = true ∧ PySem.W.selfFirst K (ca K c) = true ∧ FnS hot P w K mg base k (He.ma K (ca K c) (S.nm x)) (ks.map S.nm) (spP K ct)
  | .cm c x ks, ct => FnS hot P w K mg base k (cmFn K (ca K c) (S.nm x)) (ks.map S.nm) (spP K ct)
  | .p c x ks, ct => S.nm x ∉ c.flds ∧ kcB K c = true ∧ PropOf K (ca K c) (S.nm x) (He.ma K (ca K c) (S.nm x)) (prFn K (ca K c) (S.nm x)) ∧ FnS hot P w K mg base k (prFn K (ca K c) (S.nm x)) (ks.map S.nm) (spP K ct)
  | .gn x ks, ct => GnS P w K mg base k (He.ga K (S.nm x)) (ks.headD 0) (spP K ct)
  | .kf x _, _ => KeyF K (He.ga K (S.nm x))
  | .bo c, _ => noAddB K c = true
  | .sp c x, ct => S.nm x ∉ c.flds ∧ kcB K c = true ∧ psB K c (S.nm x) = true ∧ FnS hot P w K mg base k (psFn K (ca K c) (S.nm x)) [] (spP K ct)
  | .bm c x, _ => bmB K c (S.nm x) = true
  | .iv x, _ => FnA P w K mg base k (He.ga K (S.nm x)) (spP K ctI)
  | .gx c x ks, ct => GnX P w K mg base k (He.ga K (S.nm x)) (ks.headD 0) c ct
  | .st c x ks, ct => ssB K c (S.nm x) = true ∧ FnS hot P w K mg base k (smFn K (ca K c) (S.nm x)) (ks.map S.nm) (spP K ct)
  | .e2 c, _ => c.flds = [("x" : Str), "y"] ∧ ∃ fI, ErrF2 S.P K (ca K c) fI
  | .mg c x ks, ct => S.nm x ∉ c.flds ∧ kcB K c = true ∧ Meth K (ca K c) (S.nm x) (He.ma K (ca K c) (S.nm x)) ∧ PySem.W.fnIn K (He.ma K (ca K c) (S.nm x)) = true ∧ GnW P w K mg base k (He.ma K (ca K c) (S.nm x)) (ks.headD 0 + 1) (ks.tail.map S.nm) ct
  | .gw x ks, ct => GnW P w K mg base k (He.ga K (S.nm x)) (ks.headD 0) (ks.tail.map S.nm) ct
  | .k c fz ks, kc => ∃ ct, MkC fz c ct kc ∧ FnS hot P w K mg base k (He.ma K (ca K c) "__init__") (ks.map S.nm) (spP K ct)
end
/-- where a text stands -/
structure Cc where
  S : Stt
  N : List Str
  sc : Scope
  cm : Bool
  fn : Str → Bool := fun _ => true
  lam : Bool := false
  gk : Bool := true
/-- the context X of a text is as c says -/
structure Good (k : Nat) (R : Rt) (X : Cx) (W : WX) (c : Cc) : Prop where
  prog : X.prog = c.S.P
  N : X.N = c.N
  sc : X.env.scope = c.sc
  nd : X.N.Nodup
  fn : ∀ x, c.fn x = true → X.fn x = true
  md : Md X (!c.cm)
  tk : TkI X W
  rm : Rm (k + 2) X.A
  fa : Facts c.S X.K X.mg
  pr : ∀ F ct, (F, ct) ∈ R.L → PromOk c.S (!c.cm) X.prog X.w X.K X.mg X.base k F ct
  ph : ∀ F ct, (F, ct) ∈ R.LH → PromOk c.S true X.prog X.w X.K X.mg X.base k F ct
  qo : QOk X k R.Q
  lam : c.lam = true → LamC X
  xi : ∀ a dd cl, R.xi = some (a, dd, cl) → ∃ (X0 : Cx) (oe : Obj) (pn : List (Addr × Obj)) (d : Option Addr), X = X0.suite a ((a, oe) :: pn) ∧ W = Wno ∧ xcB X.K cl = true ∧ L2N.Zn (.ref (ca X.K cl)) d oe ∧ (∃ vs, oe.data = .fields vs) ∧ XD cl d dd
  xn : c.gk = true → R.xi = none
section
variable {k : Nat} {R : Rt} {X : Cx} {W : WX} {c : Cc}
theorem Good.calm (G : Good k R X W c) (h : c.cm = true) : X.calm = true := by
  rcases G.md with z | ⟨z, _⟩
  · exact z
  · rw [h] at z; cases z
theorem Good.rm1 (G : Good k R X W c) : Rm (k + 1) X.A := G.rm.mono (by omega)
theorem Good.rm0 (G : Good k R X W c) : Rm k X.A := G.rm.mono (by omega)
theorem Good.gl (G : Good k R X W c) {x : Str} (h : glB c.sc x = true) : Gl X x ∧ (x == ("__debug__" : Str)) = false ∧ x ≠ "__name__" := by
  obtain ⟨h1, h2⟩ := He.ba h
  obtain ⟨h2, h3⟩ := He.ba h2
  refine ⟨?_, by simpa using h2, of_decide_eq_true h3⟩
  show X.env.scope.names.lookup x = some .globalImplicit
  rw [G.sc]
  exact of_decide_eq_true h1
theorem Good.free (G : Good k R X W c) {x : Str} (h : decide (x ∈ c.S.fre) = true) : X.mg x = none := G.fa.fre x (of_decide_eq_true h)
end
theorem no_prom {hot : Bool} {P : Program} {w : World} {K : Frg} {mg : Str → Option Value} {base : Heap} {k : Nat} {f : Addr} {ks : List Str} : FnS hot P w K mg base k f ks (spP K noCt) := fun A outer s H us ws vs Q E hm hr e0 hl r h => by
  obtain ⟨B, μ, G, as, q, z, o, rr, hc, hq⟩ := h
  exact hc.elim
/-- where the table has no entry, nothing is asked: a promise of False is kept by anything -/
theorem noCt_mem {R : Rt} (F : Fid) : (F, R.ct F) ∈ R.L ∨ R.ct F = noCt := by
  unfold Rt.ct
  cases e : look R.L F with
  | none => exact .inr rfl
  | some c => exact .inl (look_mem e)
section
variable {k : Nat} {R : Rt} {X : Cx} {W : WX} {c : Cc}
theorem Good.prg (G : Good k R X W c) (x : Nat) (ks : List Nat) : FnS (!c.cm) X.prog X.w X.K X.mg X.base k (He.ga X.K (c.S.nm x)) (ks.map c.S.nm) (spP X.K (R.ct (.g x ks))) := by
  rcases noCt_mem (R := R) (.g x ks) with z | z
  · exact G.pr _ _ z
  · rw [z]; exact no_prom
theorem Good.prcm (G : Good k R X W c) (cl : Cl) (x : Nat) (ks : List Nat) : FnS (!c.cm) X.prog X.w X.K X.mg X.base k (cmFn X.K (ca X.K cl) (c.S.nm x)) (ks.map c.S.nm) (spP X.K (R.ct (.cm cl x ks))) := by
  rcases noCt_mem (R := R) (.cm cl x ks) with z | z
  · exact G.pr _ _ z
  · rw [z]; exact no_prom
theorem Good.prk (G : Good k R X W c) (hc : c.cm = true) (cl : Cl) (fz : Bool) (ks : List Nat) : ∃ ct, MkC fz cl ct (R.ct (.k cl fz ks)) ∧ FnS false X.prog X.w X.K X.mg X.base k (He.ma X.K (ca X.K cl) "__init__") (ks.map c.S.nm) (spP X.K ct) := by
  rcases noCt_mem (R := R) (.k cl fz ks) with z | z
  · have := G.pr _ _ z
    rw [hc] at this
    exact this
  · rw [z]; exact ⟨noCt, fun _ _ _ _ h => h.elim, no_prom⟩
end
structure ZE where
  d : Rt → DE
  ck : Cc → Expr → Bool
  ok : ∀ {k : Nat} {R : Rt} {X : Cx} {W : WX} {c : Cc} {e : Expr}, ck c e = true → Good k R X W c → EJ X W e (d R)
structure ZA where
  d : Rt → DA
  ck : Cc → List Expr → Bool
  ok : ∀ {k : Nat} {R : Rt} {X : Cx} {W : WX} {c : Cc} {e : List Expr}, ck c e = true → Good k R X W c → AJ X W e (d R)
structure ZT where
  d : Rt → DT
  ck : Cc → Expr → Bool
  ok : ∀ {k : Nat} {R : Rt} {X : Cx} {W : WX} {c : Cc} {e : Expr}, ck c e = true → Good k R X W c → TJ X W e (d R)
structure ZL where
  d : Rt → DL
  ck : Cc → Expr → Bool
  ok : ∀ {k : Nat} {R : Rt} {X : Cx} {W : WX} {c : Cc} {e : Expr}, ck c e = true → Good k R X W c → LJ X W e (d R)
theorem ff {P : Prop} {b : Bool} (h : b = true) (e : b = false) : P := by rw [e] at h; cases h
def zVar (i : Nat) : ZE where
  d := fun _ => dVar i
  ck := fun c e => match e with
    | .Name x _ => decide (c.N[i]? = some x) && (visB c.sc x && (!(x == ("__debug__" : Str)) && !(x == ("__classdict__" : Str))))
    | _ => false
  ok := fun {k R X W c e} h G => by
    cases e with
    | Name x p =>
      obtain ⟨h1, h⟩ := He.ba h
      obtain ⟨h2, h⟩ := He.ba h
      obtain ⟨h3, h4⟩ := He.ba h
      exact e_var i (by rw [G.N]; exact of_decide_eq_true h1) (by rw [G.sc]; exact visB_ok h2) (by simpa using h3) (by simpa using h4)
    | _ => exact ff h rfl
def zInt (i : Int) : ZE where
  d := fun _ => dC (.int i)
  ck := fun _ e => match e with
    | .Constant v _ _ => (match v with
      | .int j => decide (j = i)
      | _ => false)
    | _ => false
  ok := fun {k R X W c e} h G => by
    cases e with
    | Constant v j p =>
      cases v with
      | int n => obtain rfl : n = i := of_decide_eq_true h; exact e_int
      | _ => exact ff h rfl
    | _ => exact ff h rfl
def zBl (i : Bool) : ZE where
  d := fun _ => dC (.bl i)
  ck := fun _ e => match e with
    | .Constant v _ _ => (match v with
      | .bool j => decide (j = i)
      | _ => false)
    | _ => false
  ok := fun {k R X W c e} h G => by
    cases e with
    | Constant v j p =>
      cases v with
      | bool n => obtain rfl : n = i := of_decide_eq_true h; exact e_bl
      | _ => exact ff h rfl
    | _ => exact ff h rfl
def zStr (i : Str) : ZE where
  d := fun _ => dC (.str i)
  ck := fun _ e => match e with
    | .Constant v _ _ => (match v with
      | .str j => decide (j = i)
      | _ => false)
    | _ => false
  ok := fun {k R X W c e} h G => by
    cases e with
    | Constant v j p =>
      cases v with
      | str n => obtain rfl : n = i := of_decide_eq_true h; exact e_str
      | _ => exact ff h rfl
    | _ => exact ff h rfl
def zNon : ZE where
  d := fun _ => dC .non
  ck := fun _ e => match e with
    | .Constant v _ _ => (match v with
      | .none => true
      | _ => false)
    | _ => false
  ok := fun {k R X W c e} h G => by
    cases e with
    | Constant v j p =>
      cases v with
      | none => exact e_non
      | _ => exact ff h rfl
    | _ => exact ff h rfl
def zCls (c : Cl) : ZE where
  d := fun _ => dC (.cls c)
  ck := fun C e => match e with
    | .Name x _ => decide (x = c.name) && (glB C.sc x && decide (c ∈ C.S.hs ++ C.S.xs))
    | _ => false
  ok := fun {k R X W C e} h G => by
    cases e with
    | Name x p =>
      obtain ⟨h1, h⟩ := He.ba h
      obtain ⟨h2, h3⟩ := He.ba h
      obtain rfl := of_decide_eq_true h1
      have h3 := of_decide_eq_true h3
      obtain ⟨g1, g2, _⟩ := G.gl h2
      refine e_cls c ?_ (G.fa.cn c h3) g1 g2
      rcases List.mem_append.mp h3 with z | z
      · unfold knB; rw [G.fa.kc c z] <;> rfl
      · unfold knB; rw [G.fa.xc c z]; simp
    | _ => exact ff h rfl
/-- a built-in class, as a value -/
def zTy (n : String) : ZE where
  d := fun _ => dC (.ty n)
  ck := fun C e => match e with
    | .Name x _ => glB C.sc x && (decide (x ∈ C.S.fre) && decide (bootBuiltins x = some (.type n)))
    | _ => false
  ok := fun {k R X W C e} h G => by
    cases e with
    | Name x p =>
      obtain ⟨h1, h⟩ := He.ba h
      obtain ⟨h2, h3⟩ := He.ba h
      obtain ⟨g1, g2, g3⟩ := G.gl h1
      exact e_ty n (G.free h2) (of_decide_eq_true h3) g1 g3 g2
    | _ => exact ff h rfl
/-- a module's constant -/
def zGc (x : Str) (v : Kst) : ZE where
  d := fun _ => dC v.pv
  ck := fun C e => match e with
    | .Name y _ => decide (y = x) && (glB C.sc y && decide ((x, v) ∈ C.S.gc))
    | _ => false
  ok := fun {k R X W C e} h G => by
    cases e with
    | Name y p =>
      obtain ⟨h1, h⟩ := He.ba h
      obtain ⟨h2, h3⟩ := He.ba h
      obtain rfl := of_decide_eq_true h1
      obtain ⟨g1, g2, _⟩ := G.gl h2
      obtain ⟨v', u, e1, e2, e3⟩ := G.fa.gc _ (of_decide_eq_true h3)
      exact e_glob e1 e2 e3 g1 g2
    | _ => exact ff h rfl
def zNil : ZA where
  d := fun _ => dNil
  ck := fun _ e => match e with
    | [] => true
    | _ => false
  ok := fun {k R X W c e} h G => by
    cases e with
    | nil => exact a_nil
    | cons _ _ => exact ff h rfl
def zCons (a : ZE) (as : ZA) : ZA where
  d := fun R => dCons (a.d R) (as.d R)
  ck := fun c e => match e with
    | x :: xs => nstar x && (a.ck c x && as.ck c xs)
    | [] => false
  ok := fun {k R X W c e} h G => by
    cases e with
    | nil => exact ff h rfl
    | cons x xs =>
      obtain ⟨h1, h⟩ := He.ba h
      obtain ⟨h2, h3⟩ := He.ba h
      exact a_cons (a.ok h2 G) (as.ok h3 G) (star_cons h1)
def zTup (as : ZA) : ZE where
  d := fun R => dTup (as.d R)
  ck := fun c e => match e with
    | .Tuple es _ _ => as.ck c es
    | _ => false
  ok := fun {k R X W c e} h G => by
    cases e with
    | Tuple es n p => exact e_tup (as.ok h G)
    | _ => exact ff h rfl
def zDisp (as : ZA) : ZL where
  d := fun R => lDisp (as.d R)
  ck := fun c e => match e with
    | .List es _ => as.ck c es
    | _ => false
  ok := fun {k R X W c e} h G => by
    cases e with
    | List es p => exact l_disp (as.ok h G)
    | _ => exact ff h rfl
/-- list(e) -/
def zList (a : ZE) : ZL where
  d := fun R => lList (a.d R)
  ck := fun c e => match e with
    | .Call (.Name x _) [e1] [] _ => decide (x = "list") && (glB c.sc "list" && (decide (("list" : Str) ∈ c.S.fre) && (nstar e1 && a.ck c e1)))
    | _ => false
  ok := fun {k R X W c e} h G => by
    split at h
    · rename_i x p0 e1 pos
      obtain ⟨h1, h⟩ := He.ba h
      obtain ⟨h2, h⟩ := He.ba h
      obtain ⟨h3, h⟩ := He.ba h
      obtain ⟨h4, h5⟩ := He.ba h
      obtain rfl := of_decide_eq_true h1
      exact l_list (G.free h3) (a.ok h5 G) (G.gl h2).1 (star_cons h4) rfl
    · cases h
/-- a list that is never changed -/
def zLst (l : ZL) : ZE where
  d := fun R => dLst (l.d R)
  ck := l.ck
  ok := fun h G => e_new (l.ok h G)
/-- a list that may be changed -/
def zNew (l : ZL) : ZE where
  d := fun R => dNew (l.d R)
  ck := l.ck
  ok := fun h G => e_newC (l.ok h G)
/-- .. that is changed no longer -/
def zFrz (a : ZE) : ZE where
  d := fun R => dFrz (a.d R)
  ck := a.ck
  ok := fun h G => e_frz (a.ok h G)
end Px
namespace Px
open PySem PySem.Spec PyProof.Rows L2
section
variable {k : Nat} {R : Rt} {X : Cx} {W : WX} {c : Cc}
def mT (R : Rt) (m : Nat) : Cl → Option Ct := fun cl => look R.L (.m cl m [])
theorem Good.mtab (G : Good k R X W c) (m : Nat) : MTab (!c.cm) X k (c.S.nm m) [] (mT R m) := fun cl ct h => by
  obtain ⟨h1, h2, h3, h4, h5, h6⟩ := G.pr _ _ (look_mem h)
  exact ⟨h1, _, (kcB_ok h2).cls, h3, h6⟩
theorem Good.sf (G : Good k R X W c) (m : Nat) : ∀ cl ct, mT R m cl = some ct → PySem.W.selfFirst X.K (ca X.K cl) = true := fun cl ct h => by
  obtain ⟨h1, h2, h3, h4, h5, h6⟩ := G.pr _ _ (look_mem h)
  exact h5
end
def noF : FO := fun _ _ _ _ _ => False
def opD (R : Rt) : Operator → FO
  | .Add => binA addP (mT R 0) (fun c => R.has (.bo c))
  | .Sub => binD subP (mT R 1)
  | .BitAnd => binD andP (mT R 2)
  | .BitOr => binD orP (mT R 3)
  | .BitXor => binD xorP (mT R 4)
  | .Mod => fo modP
  | .FloorDiv => fo divP
  | .Pow => fo powP
  | .LShift => fo shlP
  | .RShift => fo shrP
  | .Mult => fo mulP
  | _ => noF
theorem no_oj {X : Cx} {W : WX} {op : Value → Value → Sem Value} : OpJ X W op noF := fun pins s σ H B ρ μ G a b va vb u w q x Q J R ra rb ru rw' h gv gx => h.elim
theorem opD_ok {k : Nat} {R : Rt} {X : Cx} {W : WX} {c : Cc} (G : Good k R X W c) (op : Operator) : OpJ X W (binaryOp op) (opD R op) := by
  cases op with
  | Add => exact oj_add.withAdd (oj_add_own (G.mtab 0) (G.sf 0) (fun d h => G.pr _ _ (Rt.has_mem h)) G.md G.rm0 G.tk)
  | Sub => exact oj_sub.withOwn (oj_own (G.mtab 1) (G.sf 1) G.md G.rm0 G.tk)
  | BitAnd => exact oj_and.withOwn (oj_own (G.mtab 2) (G.sf 2) G.md G.rm0 G.tk)
  | BitOr => exact oj_or.withOwn (oj_own (G.mtab 3) (G.sf 3) G.md G.rm0 G.tk)
  | BitXor => exact oj_xor.withOwn (oj_own (G.mtab 4) (G.sf 4) G.md G.rm0 G.tk)
  | Mod => exact oj_mod
  | FloorDiv => exact oj_div
  | Pow => exact oj_pow
  | LShift => exact oj_shl
  | RShift => exact oj_shr
  | Mult => exact oj_mul
  | _ => exact no_oj
def zBin (op : Operator) (a b : ZE) : ZE where
  d := fun R => dBin (opD R op) (a.d R) (b.d R)
  ck := fun c e => match e with
    | .BinOp x o y _ => decide (o = op) && (a.ck c x && b.ck c y)
    | _ => false
  ok := fun {k R X W c e} h G => by
    cases e with
    | BinOp x o y p =>
      obtain ⟨h1, h⟩ := He.ba h
      obtain ⟨h2, h3⟩ := He.ba h
      obtain rfl := of_decide_eq_true h1
      exact e_bin (opD_ok G o) (a.ok h2 G) (b.ok h3 G)
    | _ => exact ff h rfl
/-- == and != -/
def eqD (R : Rt) (neg : Bool) : FO := eqQ R.Q neg
def cmpD (R : Rt) : CmpOp → FO
  | .Eq => eqD R false
  | .NotEq => eqD R true
  | .Lt => fo ltP
  | .LtE => fo leI
  | .Gt => fo gtI
  | .GtE => fo geI
  | .In => inD (mT R 6)
  | .NotIn => fo (inF true)
  | .Is => fo (isP false)
  | .IsNot => fo (isP true)
/-- what stands only where no error is handled -/
def cmpC : CmpOp → Bool
  | _ => false
theorem cmpD_ok {k : Nat} {R : Rt} {X : Cx} {W : WX} {c : Cc} (G : Good k R X W c) (op : CmpOp) (h : (!cmpC op || c.cm) = true) : OpJ X W (compareOp op) (cmpD R op) := by
  cases op with
  | Eq => exact oj_eqQ G.qo G.rm1
  | NotEq => exact oj_neQ G.qo G.rm1
  | Lt => exact oj_lt
  | LtE => exact oj_le
  | Gt => exact oj_gt
  | GtE => exact oj_ge
  | In => exact oj_inO (G.mtab 6) G.md G.rm0
  | NotIn => exact oj_notin
  | Is => exact oj_is
  | IsNot => exact oj_isnot
def zCmp (op : CmpOp) (a b : ZE) : ZE where
  d := fun R => dBin (cmpD R op) (a.d R) (b.d R)
  ck := fun c e => match e with
    | .Compare x [o] [y] _ => decide (o = op) && ((!cmpC op || c.cm) && (noSet y && (a.ck c x && b.ck c y)))
    | _ => false
  ok := fun {k R X W c e} h G => by
    split at h
    · rename_i x o y p
      obtain ⟨h1, h⟩ := He.ba h
      obtain ⟨h2, h⟩ := He.ba h
      obtain ⟨h3, h⟩ := He.ba h
      obtain ⟨h4, h5⟩ := He.ba h
      obtain rfl := of_decide_eq_true h1
      exact e_cmp (cmpD_ok G o h2) (a.ok h4 G) (b.ok h5 G) (mark_of h3)
    · cases h
/-- a comparison, as a test -/
def tCmp (op : CmpOp) (a b : ZE) : ZT where
  d := fun R => dB (dBin (cmpD R op) (a.d R) (b.d R))
  ck := fun c e => match e with
    | .Compare x [o] [y] _ => decide (o = op) && ((!cmpC op || c.cm) && (noSet y && (a.ck c x && b.ck c y)))
    | _ => false
  ok := fun {k R X W c e} h G => by
    split at h
    · rename_i x o y p
      obtain ⟨h1, h⟩ := He.ba h
      obtain ⟨h2, h⟩ := He.ba h
      obtain ⟨h3, h⟩ := He.ba h
      obtain ⟨h4, h5⟩ := He.ba h
      obtain rfl := of_decide_eq_true h1
      exact t_cmp (cmpD_ok G o h2) (a.ok h4 G) (b.ok h5 G) (mark_of h3)
    · cases h
def tChain (o1 o2 : CmpOp) (a b d : ZE) : ZT where
  d := fun R => dB (dChain (cmpD R o1) (cmpD R o2) (a.d R) (b.d R) (d.d R))
  ck := fun c e => match e with
    | .Compare x [p1, p2] [y, z] _ => decide (p1 = o1) && (decide (p2 = o2) && ((!cmpC o1 || c.cm) && ((!cmpC o2 || c.cm) && (noSet z && (a.ck c x && (b.ck c y && d.ck c z))))))
    | _ => false
  ok := fun {k R X W c e} h G => by
    split at h
    · rename_i x p1 p2 y z p
      obtain ⟨h1, h⟩ := He.ba h
      obtain ⟨h2, h⟩ := He.ba h
      obtain ⟨h3, h⟩ := He.ba h
      obtain ⟨h4, h⟩ := He.ba h
      obtain ⟨h5, h⟩ := He.ba h
      obtain ⟨h6, h⟩ := He.ba h
      obtain ⟨h7, h8⟩ := He.ba h
      obtain rfl := of_decide_eq_true h1
      obtain rfl := of_decide_eq_true h2
      exact t_chain (cmpD_ok G p1 h3) (cmpD_ok G p2 h4) (a.ok h6 G) (b.ok h7 G) (d.ok h8 G) (mark_of h5)
    · cases h
/-- .. or an object that says what it is -/
def tTr (a : ZE) : ZT where
  d := fun R => dTr (trD (mT R 8)) (a.d R)
  ck := fun c e => plainT e && a.ck c e
  ok := fun {k R X W c e} h G => by
    obtain ⟨h1, h2⟩ := He.ba h
    exact t_tr (tj_own (G.mtab 8) G.md G.rm0) (a.ok h2 G) (isTrue_of h1)
def tNot (a : ZT) : ZT where
  d := fun R => dNot (a.d R)
  ck := fun c e => match e with
    | .UnaryOp o x _ => (match o with
      | .Not => a.ck c x
      | _ => false)
    | _ => false
  ok := fun {k R X W c e} h G => by
    cases e with
    | UnaryOp o x p =>
      cases o with
      | Not => exact t_not (a.ok h G)
      | _ => exact ff h rfl
    | _ => exact ff h rfl
def tAndL : List ZT → Rt → DT
  | [], _ => dYes
  | [t], R => t.d R
  | t :: u :: r, R => dAnd (t.d R) (tAndL (u :: r) R)
def tOrL : List ZT → Rt → DT
  | [], _ => dYes
  | [t], R => t.d R
  | t :: u :: r, R => dOr (t.d R) (tOrL (u :: r) R)
def ckL : List ZT → Cc → List Expr → Bool
  | [], _, _ => false
  | [t], c, [e] => t.ck c e
  | t :: u :: r, c, e :: es => t.ck c e && ckL (u :: r) c es
  | _, _, _ => false
theorem andL_ok {k : Nat} {R : Rt} {X : Cx} {W : WX} {c : Cc} {pos : Pos} (G : Good k R X W c) : ∀ {ts : List ZT} {es : List Expr}, ckL ts c es = true → WJ X W (.BoolOp .And es pos) (tAndL ts R)
  | [], es, h => by cases h
  | [t], es, h => by
    match es, h with
    | [e], h => exact w_and1 (t.ok h G)
  | t :: u :: r, es, h => by
    match es, h with
    | e :: es', h =>
      obtain ⟨h1, h2⟩ := He.ba h
      match es', h2 with
      | e2 :: es2, h2 => exact w_and (t.ok h1 G) (andL_ok G h2)
      | [], h2 => cases r <;> cases h2
theorem orL_ok {k : Nat} {R : Rt} {X : Cx} {W : WX} {c : Cc} {pos : Pos} (G : Good k R X W c) : ∀ {ts : List ZT} {es : List Expr}, ckL ts c es = true → WJ X W (.BoolOp .Or es pos) (tOrL ts R)
  | [], es, h => by cases h
  | [t], es, h => by
    match es, h with
    | [e], h => exact w_or1 (t.ok h G)
  | t :: u :: r, es, h => by
    match es, h with
    | e :: es', h =>
      obtain ⟨h1, h2⟩ := He.ba h
      match es', h2 with
      | e2 :: es2, h2 => exact w_or (t.ok h1 G) (orL_ok G h2)
      | [], h2 => cases r <;> cases h2
def tAnd (ts : List ZT) : ZT where
  d := fun R => tAndL ts R
  ck := fun c e => match e with
    | .BoolOp o es _ => (match o with
      | .And => ckL ts c es
      | _ => false)
    | _ => false
  ok := fun {k R X W c e} h G => by
    cases e with
    | BoolOp o es p =>
      cases o with
      | And => exact t_w (andL_ok G h)
      | Or => exact ff h rfl
    | _ => exact ff h rfl
def tOr (ts : List ZT) : ZT where
  d := fun R => tOrL ts R
  ck := fun c e => match e with
    | .BoolOp o es _ => (match o with
      | .Or => ckL ts c es
      | _ => false)
    | _ => false
  ok := fun {k R X W c e} h G => by
    cases e with
    | BoolOp o es p =>
      cases o with
      | Or => exact t_w (orL_ok G h)
      | And => exact ff h rfl
    | _ => exact ff h rfl
def andV : List ZE → Rt → DE
  | [], _ => fun _ _ _ _ => False
  | [t], R => t.d R
  | t :: u :: r, R => dAndV (t.d R) (andV (u :: r) R)
def orV : List ZE → Rt → DE
  | [], _ => fun _ _ _ _ => False
  | [t], R => t.d R
  | t :: u :: r, R => dOrV (t.d R) (orV (u :: r) R)
def ckV : List ZE → Cc → List Expr → Bool
  | [], _, _ => false
  | [t], c, [e] => t.ck c e
  | t :: u :: r, c, e :: es => t.ck c e && ckV (u :: r) c es
  | _, _, _ => false
theorem andV_ok {k : Nat} {R : Rt} {X : Cx} {W : WX} {c : Cc} {pos : Pos} (G : Good k R X W c) : ∀ {ts : List ZE} {es : List Expr}, ckV ts c es = true → EJ X W (.BoolOp .And es pos) (andV ts R)
  | [], es, h => by cases h
  | [t], es, h => by
    match es, h with
    | [e], h => exact e_one (t.ok h G)
  | t :: u :: r, es, h => by
    match es, h with
    | e :: es', h =>
      obtain ⟨h1, h2⟩ := He.ba h
      match es', h2 with
      | e2 :: es2, h2 => exact e_and (t.ok h1 G) (andV_ok G h2)
      | [], h2 => cases r <;> cases h2
theorem orV_ok {k : Nat} {R : Rt} {X : Cx} {W : WX} {c : Cc} {pos : Pos} (G : Good k R X W c) : ∀ {ts : List ZE} {es : List Expr}, ckV ts c es = true → EJ X W (.BoolOp .Or es pos) (orV ts R)
  | [], es, h => by cases h
  | [t], es, h => by
    match es, h with
    | [e], h => exact e_one (t.ok h G)
  | t :: u :: r, es, h => by
    match es, h with
    | e :: es', h =>
      obtain ⟨h1, h2⟩ := He.ba h
      match es', h2 with
      | e2 :: es2, h2 => exact e_or (t.ok h1 G) (orV_ok G h2)
      | [], h2 => cases r <;> cases h2
def zAnd (ts : List ZE) : ZE where
  d := fun R => andV ts R
  ck := fun c e => match e with
    | .BoolOp o es _ => (match o with
      | .And => ckV ts c es
      | _ => false)
    | _ => false
  ok := fun {k R X W c e} h G => by
    cases e with
    | BoolOp o es p =>
      cases o with
      | And => exact andV_ok G h
      | Or => exact ff h rfl
    | _ => exact ff h rfl
def zOr (ts : List ZE) : ZE where
  d := fun R => orV ts R
  ck := fun c e => match e with
    | .BoolOp o es _ => (match o with
      | .Or => ckV ts c es
      | _ => false)
    | _ => false
  ok := fun {k R X W c e} h G => by
    cases e with
    | BoolOp o es p =>
      cases o with
      | Or => exact orV_ok G h
      | And => exact ff h rfl
    | _ => exact ff h rfl
def zNot (a : ZE) : ZE where
  d := fun R => dNotV (a.d R)
  ck := fun c e => match e with
    | .UnaryOp o x _ => (match o with
      | .Not => a.ck c x
      | _ => false)
    | _ => false
  ok := fun {k R X W c e} h G => by
    cases e with
    | UnaryOp o x p =>
      cases o with
      | Not => exact e_not (a.ok h G)
      | _ => exact ff h rfl
    | _ => exact ff h rfl
def zNeg (a : ZE) : ZE where
  d := fun R => dUn negP (a.d R)
  ck := fun c e => match e with
    | .UnaryOp o x _ => (match o with
      | .USub => a.ck c x
      | _ => false)
    | _ => false
  ok := fun {k R X W c e} h G => by
    cases e with
    | UnaryOp o x p =>
      cases o with
      | USub => exact e_un uj_neg (a.ok h G)
      | _ => exact ff h rfl
    | _ => exact ff h rfl
def zInv (a : ZE) : ZE where
  d := fun R => dUn (ownU (mT R 5)) (a.d R)
  ck := fun c e => match e with
    | .UnaryOp o x _ => (match o with
      | .Invert => a.ck c x
      | _ => false)
    | _ => false
  ok := fun {k R X W c e} h G => by
    cases e with
    | UnaryOp o x p =>
      cases o with
      | Invert => exact e_un (uj_own (G.mtab 5) G.md G.rm0 G.tk) (a.ok h G)
      | _ => exact ff h rfl
    | _ => exact ff h rfl
def zIf (t : ZT) (a b : ZE) : ZE where
  d := fun R => dIf (t.d R) (a.d R) (b.d R)
  ck := fun c e => match e with
    | .IfExp x y z _ => t.ck c x && (a.ck c y && b.ck c z)
    | _ => false
  ok := fun {k R X W c e} h G => by
    cases e with
    | IfExp x y z p =>
      obtain ⟨h1, h⟩ := He.ba h
      obtain ⟨h2, h3⟩ := He.ba h
      exact e_if (t.ok h1 G) (a.ok h2 G) (b.ok h3 G)
    | _ => exact ff h rfl
/-- f(e, ..) -/
def zCall (x : Nat) (as : ZA) : ZE where
  d := fun R => dCall (R.ct (.g x [])) (as.d R)
  ck := fun c e => match e with
    | .Call (.Name y _) (a :: es) [] _ => decide (y = c.S.nm x) && (glB c.sc y && (decide (x ∈ c.S.gl) && (nstar a && (nost es && as.ck c (a :: es)))))
    | _ => false
  ok := fun {k R X W c e} h G => by
    split at h
    · rename_i y p0 a es pos
      obtain ⟨h1, h⟩ := He.ba h
      obtain ⟨h2, h⟩ := He.ba h
      obtain ⟨h3, h⟩ := He.ba h
      obtain ⟨n1, h⟩ := He.ba h
      obtain ⟨n2, h4⟩ := He.ba h
      obtain rfl := of_decide_eq_true h1
      obtain ⟨g1, g2, _⟩ := G.gl h2
      obtain ⟨p1, p2⟩ := G.fa.gl x (of_decide_eq_true h3)
      exact e_call (G.prg x []) G.md G.rm0 G.tk p1 p2 (as.ok h4 G) g1 g2 (star_cons n1) (nost_any n2)
    · cases h
/-- v(*e) -/
def zMkVS (cl : Cl) (fz : Bool) (v a : ZE) : ZE where
  d := fun R => dMkV cl (R.ct (.k cl fz [])) (v.d R) (dStar (a.d R) dNil)
  ck := fun c e => match e with
    | .Call (.Name y p) [.Starred x _] [] _ => v.ck c (.Name y p) && (decide (cl ∈ c.S.mks) && (c.cm && a.ck c x))
    | _ => false
  ok := fun {k R X W c e} h G => by
    split at h
    · rename_i y p0 x p1 pos
      obtain ⟨h2, h⟩ := He.ba h
      obtain ⟨h3, h⟩ := He.ba h
      obtain ⟨h4, h5⟩ := He.ba h
      obtain ⟨p1, p2, p3⟩ := G.fa.mks cl (of_decide_eq_true h3)
      obtain ⟨ct, m1, m2⟩ := G.prk h4 cl fz []
      exact e_mkVS p1 m1 p3 m2 (G.calm h4) G.rm1 G.tk (v.ok h2 G) (a.ok h5 G)
    · cases h
end Px
namespace Px
open PySem PySem.Spec PyProof.Rows L2
def zCm (cl : Cl) (m : Nat) (o : ZE) (as : ZA) : ZE where
  d := fun R => dCm cl (R.ct (.cm cl m [])) (o.d R) (as.d R)
  ck := fun c e => match e with
    | .Call (.Attribute x y apos) (a :: es) [] pos => decide (y = c.S.nm m) && (nsup x && (fewB (a :: es) [] apos pos && (o.ck c x && (decide ((cl, m) ∈ c.S.cms) && (nstar a && (nost es && as.ck c (a :: es)))))))
    | _ => false
  ok := fun {k R X W c e} h G => by
    split at h
    · rename_i x y apos a es pos
      obtain ⟨h1, h⟩ := He.ba h
      obtain ⟨h2, h⟩ := He.ba h
      obtain ⟨h3, h⟩ := He.ba h
      obtain ⟨h4, h⟩ := He.ba h
      obtain ⟨h5, h⟩ := He.ba h
      obtain ⟨n1, h⟩ := He.ba h
      obtain ⟨n2, h6⟩ := He.ba h
      obtain rfl := of_decide_eq_true h1
      obtain ⟨p1, p2, p3⟩ := G.fa.cms _ (of_decide_eq_true h5)
      exact e_cmeth p1 p2 p3 (G.prcm cl m []) G.md G.rm0 G.tk (o.ok h4 G) (as.ok h6 G) (star_cons n1) (nost_any n2) (eval_meth (ks := []) h2 h3 rfl)
    · cases h
def zAtt (f : Str) (o : ZE) : ZE where
  d := fun R => dUn (attrP f) (o.d R)
  ck := fun c e => match e with
    | .Attribute x y _ => decide (y = f) && (nsup x && o.ck c x)
    | _ => false
  ok := fun {k R X W c e} h G => by
    cases e with
    | Attribute x y p =>
      obtain ⟨h1, h⟩ := He.ba h
      obtain ⟨h2, h3⟩ := He.ba h
      obtain rfl := of_decide_eq_true h1
      exact e_att uj_attr (o.ok h3 G) (base_of h2)
    | _ => exact ff h rfl
/-- e.f, e the error that is handled -/
def xatD (R : Rt) (f : Str) (d : DE) : DE := match R.xi with
  | some (a, dd, c) => fun ρ μ q x => memS f c.flds = true ∧ dUn (fXf a dd c f) d ρ μ q x
  | none => fun _ _ _ _ => False
def zXat (f : Str) (o : ZE) : ZE where
  d := fun R => xatD R f (o.d R)
  ck := fun c e => match e with
    | .Attribute x y _ => decide (y = f) && (nsup x && o.ck c x)
    | _ => false
  ok := fun {k R X W c e} h G => by
    cases e with
    | Attribute x y p =>
      obtain ⟨h1, h⟩ := He.ba h
      obtain ⟨h2, h3⟩ := He.ba h
      obtain rfl := of_decide_eq_true h1
      unfold xatD
      cases ex : R.xi with
      | none => exact ⟨fun pins s σ H Q J z => by obtain ⟨B, ρ, μ, G0, q, xx, Rl, hd, gv, gx⟩ := z; exact hd.elim⟩
      | some z =>
        obtain ⟨a, dd, cl⟩ := z
        refine ⟨fun pins s σ H Q J z => ?_⟩
        obtain ⟨B, ρ, μ, G0, q, xx, Rl, ⟨hf, hd⟩, gv, gx⟩ := z
        have hj := o.ok h3 G
        obtain ⟨X0, oe, pn, d, hX, hW, hxc, hz, hv, hx⟩ := G.xi a dd cl ex
        subst hX hW
        exact (e_xf hxc (memS_ok hf) hz hv hx hj (base_of h2)).run pins s σ H Q J ⟨B, ρ, μ, G0, q, xx, Rl, hd, gv, gx⟩
    | _ => exact ff h rfl
def zIdx (a b : ZE) : ZE where
  d := fun R => dBin (fo ixP) (a.d R) (b.d R)
  ck := fun c e => match e with
    | .Subscript x y _ => noSlice y && (a.ck c x && b.ck c y)
    | _ => false
  ok := fun {k R X W c e} h G => by
    cases e with
    | Subscript x y p =>
      obtain ⟨h1, h⟩ := He.ba h
      obtain ⟨h2, h3⟩ := He.ba h
      exact e_ixJ ij_seq (a.ok h2 G) (b.ok h3 G) (plainIx_of h1)
    | _ => exact ff h rfl
/-- the built-ins that are called by name: len, int, bool, all, any, sum, tuple, isinstance, repr, str -/
inductive Blt where
  | len | int | bool | all | any | sum | tuple | isi | repr | str | lenH
  deriving DecidableEq
def Blt.nm : Blt → Str
  | .len => "len" | .int => "int" | .bool => "bool" | .all => "all" | .any => "any" | .sum => "sum" | .tuple => "tuple" | .isi => "isinstance" | .repr => "repr" | .str => "str" | .lenH => "len"
def bltF (R : Rt) : Blt → FC
  | .len => bltD fLen (mT R 7) okLen
  | .int => fc fInt
  | .bool => bltD fBool (mT R 8) okBl
  | .all => fc fAll
  | .any => fc fAny
  | .sum => fc fSum
  | .tuple => fc fTuple
  | .isi => fc fIsi
  | .repr => own1 (mT R 11) okStr
  | .str => bltD fStr (mT R 10) okStr
  | .lenH => fc fLen
/-- those that may stand where an error is handled -/
def Blt.hot : Blt → Bool
  | .int => true | .isi => true | .lenH => true | .all => true | .len => true | .bool => true | .repr => true | .str => true | .tuple => true
  | _ => false
def zBlt (b : Blt) (as : ZA) : ZE where
  d := fun R => dBlt (bltF R b) (as.d R)
  ck := fun c e => match e with
    | .Call (.Name y _) (a :: es) [] _ => decide (y = b.nm) && (glB c.sc y && (decide (y ∈ c.S.fre) && ((b.hot || c.cm) && (nstar a && (nost es && as.ck c (a :: es))))))
    | _ => false
  ok := fun {k R X W c e} h G => by
    split at h
    · rename_i y p0 a es pos
      obtain ⟨h1, h⟩ := He.ba h
      obtain ⟨h2, h⟩ := He.ba h
      obtain ⟨h3, h⟩ := He.ba h
      obtain ⟨h4, h⟩ := He.ba h
      obtain ⟨n1, h⟩ := He.ba h
      obtain ⟨n2, h5⟩ := He.ba h
      obtain rfl := of_decide_eq_true h1
      obtain ⟨g1, g2, g3⟩ := G.gl h2
      have hf := G.free h3
      have ha := as.ok h5 G
      have hc : b.hot = false → X.calm = true := fun z => by
        rw [z] at h4
        exact G.calm h4
      cases b with
      | len => exact e_blt (cj_lenO (G.mtab 7) G.md G.rm1) hf (by decide +kernel) ha g1 g3 g2 (star_cons n1) (nost_any n2)
      | int => exact e_bty cj_int hf (by decide +kernel) ha g1 g3 g2 (star_cons n1) (nost_any n2)
      | bool => exact e_bty (cj_boolO (G.mtab 8) G.md G.rm1) hf (by decide +kernel) ha g1 g3 g2 (star_cons n1) (nost_any n2)
      | all => exact e_blt (cj_allM G.md) hf (by decide +kernel) ha g1 g3 g2 (star_cons n1) (nost_any n2)
      | any => exact e_blt (cj_any (hc rfl)) hf (by decide +kernel) ha g1 g3 g2 (star_cons n1) (nost_any n2)
      | sum => exact e_blt (cj_sum (hc rfl)) hf (by decide +kernel) ha g1 g3 g2 (star_cons n1) (nost_any n2)
      | tuple => exact e_bty cj_tuple hf (by decide +kernel) ha g1 g3 g2 (star_cons n1) (nost_any n2)
      | isi => exact e_blt (cj_isi G.fa.ka) hf (by decide +kernel) ha g1 g3 g2 (star_cons n1) (nost_any n2)
      | repr => exact e_blt (cj_reprO (G.mtab 11) G.md G.rm1) hf (by decide +kernel) ha g1 g3 g2 (star_cons n1) (nost_any n2)
      | lenH => exact e_blt cj_len hf (by decide +kernel) ha g1 g3 g2 (star_cons n1) (nost_any n2)
      | str => exact e_bty (cj_strO (G.mtab 10) G.md G.rm1) hf (by decide +kernel) ha g1 g3 g2 (star_cons n1) (nost_any n2)
    · cases h
def zJoin (a b : ZE) : ZE where
  d := fun R => dJoin (a.d R) (b.d R)
  ck := fun c e => match e with
    | .Call (.Attribute x y apos) [z] [] pos => decide (y = "join") && (nsup x && (nstar z && ((apos.endLine == pos.line) && (a.ck c x && b.ck c z))))
    | _ => false
  ok := fun {k R X W c e} h G => by
    split at h
    · rename_i x y apos z pos
      obtain ⟨h1, h⟩ := He.ba h
      obtain ⟨h2, h⟩ := He.ba h
      obtain ⟨h3, h⟩ := He.ba h
      obtain ⟨h4, h⟩ := He.ba h
      obtain ⟨h5, h6⟩ := He.ba h
      obtain rfl := of_decide_eq_true h1
      exact e_join (a.ok h5 G) (b.ok h6 G) (star_cons h3) (base_of h2) h4
    · cases h
end Px
namespace Px
open PySem PySem.Spec PyProof.Rows L2
section
variable {X : Cx} {W : WX} {y : Str} {py spos : Pos} {elt tg iter : Expr} {ifs : List Expr} {scope : Scope} {own : List (Str × Nat)} {pos : Pos}
theorem ps_setLcH {i : Nat} {wi : TI} {g : TG} {tt : TT} {te : TE} (hc : L2H.HotC X) (nd : X.N.Nodup) (hy : X.N[i]? = some y) (hyl : X.env.scope.names.lookup y = some .local) (hsw : swapsWith (.ListComp elt [⟨tg, iter, ifs, 0⟩] scope pos) (some (.Name y py)) spos.line X.env = pure true) (hi : L2H.PIH X tg iter wi) (ok : BlkOk X.N X.env.scope scope own)
    (hg : ∀ (p : Addr × Obj), L2H.Hot1 X.A p → ∀ (s : Shared) (H : Hp) (C : Addr) (cl : List (Str × Addr)) (fp : List Addr), PG (blkH X p s H scope (compEnvC scope cl C X.env) fp) tg g) (ht : ∀ (p : Addr × Obj), L2H.Hot1 X.A p → ∀ (s : Shared) (H : Hp) (C : Addr) (cl : List (Str × Addr)) (fp : List Addr), PTs (blkH X p s H scope (compEnvC scope cl C X.env) fp) ifs tt)
    (he : ∀ (p : Addr × Obj), L2H.Hot1 X.A p → ∀ (s : Shared) (H : Hp) (C : Addr) (cl : List (Str × Addr)) (fp : List Addr), PE (blkH X p s H scope (compEnvC scope cl C X.env) fp) elt te) (hs : ∀ x, foldedSetIterable iter X.env x = pure x) :
    PS X (.Assign [.Name y py] (.ListComp elt [⟨tg, iter, ifs, 0⟩] scope pos) spos) (tAsg (tLc wi g tt te (own.map (·.2))) (gName i)) := by
  refine ⟨fun pins s σ H D J h => ?_⟩
  rw [exec_Assign_Name_used _ _ _ _ hsw]
  refine wpAny_bind (wpAny_standAt (wpAny_bind ?_))
  show wpAny _ X.A (do let _ ← comprehension (.ListComp elt [⟨tg, iter, ifs, 0⟩] scope pos) scope X.env (firstIterPos [⟨tg, iter, ifs, 0⟩] pos) (newList []) false (eval iter X.env) (some (assign (.Name y py) X.env))) _ _ s
  have h : tLc wi g tt te (own.map (·.2)) σ H (fun x H1 => gName i x σ H1 D.nx) := h
  refine wpAny_bind (thn (lcH_core (Qf := fun _ s' => SP X pins D .next s') hc nd J hi ok hg ht he hs h fun L C s' m H' J' q hn f => ?_) fun _ s' hq => wpAny_pure (wpAny_pure hq))
  show wpAny _ _ (assign (.Name y py) X.env (.ref L)) _ _ _
  refine wpAny_assign_Name (store_ok2 (v := V.ref L) J' nd hy (.inl hyl) rfl (fun s2 J2 ⟨a, sb, ha⟩ => ?_) (.inr hyl))
  obtain ⟨f0, f1, f2, f3, f4, f5⟩ := f
  have nC : C ≠ a := ha.elim (fun z => by rw [z]; exact f1) fun z k => f4 y a z k.symm
  exact ⟨m, hn.sameBut sb nC, fun h3 sb3 => ⟨_, H', J2.turned (t' := s2.toks) (fun b o hb k => (sb3.2 b hb).trans k) f0 f1 f3 f4 f5, q⟩⟩
variable {di : DI} {dt : DT} {de : DE} {t : Tg}
def dFzL (fz : Bool) (l : DL) : DE := match fz with
  | true => dLst l
  | false => dNew l
theorem s_setLH (i : Nat) (fz : Bool) (hc : L2H.HotC X) (nd : X.N.Nodup) (hsw : swapsWith (.ListComp elt [⟨tg, iter, ifs, 0⟩] scope pos) (some (.Name y py)) spos.line X.env = pure true) (hi : IJH X W tg iter di) (ok : BlkOk X.N X.env.scope scope own)
    (hg : ∀ (p : Addr × Obj), L2H.Hot1 X.A p → ∀ (s : Shared) (H : Hp) (C : Addr) (cl : List (Str × Addr)) (fp : List Addr), PG (blkH X p s H scope (compEnvC scope cl C X.env) fp) tg (tgOf X.K t)) (ht : ∀ (p : Addr × Obj), L2H.Hot1 X.A p → ∀ (s : Shared) (H : Hp) (C : Addr) (cl : List (Str × Addr)) (fp : List Addr), TsJ (blkH X p s H scope (compEnvC scope cl C X.env) fp) Wno ifs dt)
    (he : ∀ (p : Addr × Obj), L2H.Hot1 X.A p → ∀ (s : Shared) (H : Hp) (C : Addr) (cl : List (Str × Addr)) (fp : List Addr), EJ (blkH X p s H scope (compEnvC scope cl C X.env) fp) Wno elt de) (hw : ∀ i ∈ t.idx, i ∈ own.map (·.2)) (hy : X.N[i]? = some y) (hyl : X.env.scope.names.lookup y = some .local) (hs : ∀ x, foldedSetIterable iter X.env x = pure x) :
    SJ X W (.Assign [.Name y py] (.ListComp elt [⟨tg, iter, ifs, 0⟩] scope pos) spos) (dSet i (dFzL fz (lComp t (own.map (·.2)) di dt de))) := by
  have r := ps_setLcH (i := i) (wi := tI X.K W di) (tt := tT X.K Wno dt) (te := tE X.K Wno de) hc nd hy hyl hsw hi ok hg ht he hs
  cases fz with
  | true =>
    exact ps_imp r fun D σ H ⟨B, ρ, μ, G, P, R, h, eo⟩ => tlc_of hw ⟨B, ρ, μ, G, _, _, R, h, fun ps l vs μ' G' H' hp g hl gl ml h2 rs => by
      have g2 := g.take1 hl h2 gl ml (R.ok.notB hl)
      exact eo.nx _ _ _ _ _ hp ((R.go g2).set i (rep_lst upd_same (rs.mono (.upd gl)))) g2, eo.gx R⟩
  | false =>
    exact ps_imp r fun D σ H ⟨B, ρ, μ, G, P, R, h, eo⟩ => tlc_of hw ⟨B, ρ, μ, G, _, _, R, h, fun ps l vs μ' G' H' hp g hl gl ml h2 rs => by
      have g2 := g.take hl h2 gl (R.ok.notB hl) (c := .lst ps) ⟨vs, rfl, rs⟩
      exact eo.nx _ _ _ _ _ (hp l ml) ((R.go g2).set i (rep_cell l)) g2, eo.gx R⟩
end
end Px
namespace Px
open PySem PySem.Spec PyProof.Rows L2
def locF (c : Cc) (x : Str) : Bool := locB c.sc x && (c.fn x || decide (c.sc.names.lookup x = some .local))
def tgNs (c : Cc) : List Nat → List Expr → Bool
  | [], [] => true
  | i :: is, .Name x _ :: es => decide (c.N[i]? = some x) && (locF c x && tgNs c is es)
  | _, _ => false
def tgCk (c : Cc) (t : Tg) (e : Expr) : Bool := match t with
  | .one i => (match e with
    | .Name x _ => decide (c.N[i]? = some x) && locF c x
    | _ => false)
  | .many is => (match e with
    | .Tuple es _ _ => tgNs c is es
    | _ => false)
  | .nest i is => (match e with
    | .Tuple [.Name x _, .Tuple es _ _] _ _ => decide (c.N[i]? = some x) && (locF c x && tgNs c is es)
    | _ => false)
section
variable {k : Nat} {R : Rt} {X : Cx} {W : WX} {c : Cc}
theorem Good.loc (G : Good k R X W c) {x : Str} (h : locF c x = true) : Loc X.env.scope x ∧ (X.fn x = true ∨ X.env.scope.names.lookup x = some .local) := by
  obtain ⟨h1, h2⟩ := He.ba h
  rw [G.sc]
  refine ⟨locB_ok h1, ?_⟩
  rcases Bool.or_eq_true_iff.mp h2 with z | z
  · exact .inl (G.fn x z)
  · exact .inr (of_decide_eq_true z)
theorem Good.name (G : Good k R X W c) {i : Nat} {x : Str} {p : Pos} (h1 : c.N[i]? = some x) (h2 : locF c x = true) : PG X (.Name x p) (gName i) :=
  g_one i G.nd (by rw [G.N]; exact h1) (G.loc h2).1 (G.loc h2).2
theorem Good.gj (G : Good k R X W c) : ∀ {is : List Nat} {es : List Expr}, tgNs c is es = true → GJ X es is ∧ (assignEach es X.env).length = is.length ∧ (assignEach es X.env).findIdx? (·.1) = none
  | [], [], _ => ⟨.nil, rfl, rfl⟩
  | [], _ :: _, h => by cases h
  | _ :: _, [], h => by cases h
  | i :: is, e :: es, h => by
    cases e with
    | Name x p =>
      obtain ⟨h1, h⟩ := He.ba h
      obtain ⟨h2, h3⟩ := He.ba h
      obtain ⟨j1, j2, j3⟩ := G.gj h3
      refine ⟨.cons (G.name (of_decide_eq_true h1) h2) j1, ?_, ?_⟩
      · show (assignEach es X.env).length + 1 = is.length + 1
        rw [j2]
      · show List.findIdx? (·.1) ((false, assign (.Name x p) X.env) :: assignEach es X.env) = none
        rw [List.findIdx?_cons, j3] <;> rfl
    | _ => exact ff h rfl
theorem Good.tg (G : Good k R X W c) {t : Tg} {e : Expr} (h : tgCk c t e = true) : PG X e (tgOf X.K t) := by
  cases t with
  | one i =>
    cases e with
    | Name x p =>
      obtain ⟨h1, h2⟩ := He.ba h
      exact G.name (of_decide_eq_true h1) h2
    | _ => exact ff h rfl
  | many is =>
    cases e with
    | Tuple es n p =>
      obtain ⟨j1, j2, j3⟩ := G.gj (show tgNs c is es = true from h)
      exact pg_tupM G.md j1.pg j2 j3
    | _ => exact ff h rfl
  | nest i is =>
    unfold tgCk at h
    dsimp only at h
    split at h
    · obtain ⟨h2, h⟩ := He.ba h
      obtain ⟨h3, h4⟩ := He.ba h
      obtain ⟨j1, j2, j3⟩ := G.gj h4
      exact pg_tupM G.md (pgs_cons (G.name (of_decide_eq_true h2) h3) (pgs_cons (pg_tupM G.md j1.pg j2 j3) pgs_nil))
    · cases h
end
structure ZI where
  d : Rt → DI
  ck : Cc → Expr → Expr → Bool
  ok : ∀ {k : Nat} {R : Rt} {X : Cx} {W : WX} {c : Cc} {tg e : Expr}, ck c tg e = true → Good k R X W c → IJ X W tg e (d R)
  hk : Bool := false
  okH : ∀ {k : Nat} {R : Rt} {X : Cx} {W : WX} {c : Cc} {tg e : Expr}, hk = true → ck c tg e = true → Good k R X W c → IJH X W tg e (d R) := by
    intro _ _ _ _ _ _ _ h
    cases h
def iSq (a : ZE) : ZI where
  d := fun R => iSeq (a.d R)
  ck := fun c _ e => a.ck c e
  ok := fun h G => i_seq (a.ok h G)
  hk := true
  okH := fun _ h G => i_seqH (a.ok h G)
def iRg1 (a : ZE) : ZI where
  d := fun R => iR1 (dCons (a.d R) dNil)
  ck := fun c _ e => match e with
    | .Call (.Name y _) [x] [] _ => decide (y = "range") && (glB c.sc "range" && (decide (("range" : Str) ∈ c.S.fre) && (nstar x && a.ck c x)))
    | _ => false
  ok := fun {k R X W c tg e} h G => by
    split at h
    · obtain ⟨h1, h⟩ := He.ba h
      obtain ⟨h2, h⟩ := He.ba h
      obtain ⟨h3, h⟩ := He.ba h
      obtain ⟨h4, h5⟩ := He.ba h
      obtain rfl := of_decide_eq_true h1
      exact i_range1 (G.free h3) (a_cons (a.ok h5 G) a_nil (star_cons h4)) (G.gl h2).1 (star_cons h4)
    · cases h
  hk := true
  okH := fun {k R X W c tg e} _ h G => by
    split at h
    · obtain ⟨h1, h⟩ := He.ba h
      obtain ⟨h2, h⟩ := He.ba h
      obtain ⟨h3, h⟩ := He.ba h
      obtain ⟨h4, h5⟩ := He.ba h
      obtain rfl := of_decide_eq_true h1
      exact i_range1H (G.free h3) (a_cons (a.ok h5 G) a_nil (star_cons h4)) (G.gl h2).1 (star_cons h4)
    · cases h
def Cc.blk (c : Cc) (scope : Scope) : Cc := { c with sc := relS scope c.sc, fn := fun x => scope.names.lookup x == some .cell, lam := false }
/-- the block of a comprehension -/
theorem Good.blk {k : Nat} {R : Rt} {X : Cx} {W : WX} {c : Cc} (G : Good k R X W c) (hc : c.cm = true) (s : Shared) (H : Hp) (scope : Scope) (C : Addr) (cl : List (Str × Addr)) (fp : List Addr) :
    Good k R (X.blk s H scope (compEnvC scope cl C X.env) fp) Wno (c.blk scope) where
  prog := G.prog
  N := G.N
  sc := by
    show relS scope X.env.scope = _
    rw [G.sc] <;> rfl
  nd := G.nd
  fn := fun x h => h
  md := .inl (G.calm hc)
  tk := takes_no
  rm := G.rm
  fa := G.fa
  pr := G.pr
  ph := G.ph
  qo := ⟨G.qo.ka, G.qo.calm, G.qo.ok⟩
  lam := fun h => by cases h
  xi := fun a dd cl e => by
    obtain ⟨X0, oe, pn, d, hX, _⟩ := G.xi a dd cl e
    have h1 := G.calm hc
    rw [hX] at h1
    cases h1
  xn := G.xn
/-- the block of a comprehension in a def that runs while an error is handled -/
theorem Good.blkH {k : Nat} {R : Rt} {X : Cx} {W : WX} {c : Cc} (G : Good k R X W c) (hg : c.gk = true) (hc : c.cm = false) (p : Addr × Obj) (hp : L2H.Hot1 X.A p) (s : Shared) (H : Hp) (scope : Scope) (C : Addr) (cl : List (Str × Addr)) (fp : List Addr) :
    Good k R (blkH X p s H scope (compEnvC scope cl C X.env) fp) Wno (c.blk scope) where
  prog := G.prog
  N := G.N
  sc := by
    show relS scope X.env.scope = _
    rw [G.sc] <;> rfl
  nd := G.nd
  fn := fun x h => h
  md := .inr ⟨by show (!c.cm) = true; rw [hc] <;> rfl, p, hp, List.mem_singleton.mpr rfl⟩
  tk := takes_no
  rm := G.rm
  fa := G.fa
  pr := G.pr
  ph := G.ph
  qo := ⟨G.qo.ka, G.qo.calm, G.qo.ok⟩
  lam := fun h => by cases h
  xi := fun a dd cl e => by
    rw [G.xn hg] at e
    cases e
  xn := G.xn
/-- .. the same, as it is calm -/
theorem Good.blkC {k : Nat} {R : Rt} {X : Cx} {W : WX} {c : Cc} (G : Good k R X W c) (hg : c.gk = true) (hc : X.calm = true) (s : Shared) (H : Hp) (scope : Scope) (C : Addr) (cl : List (Str × Addr)) (fp : List Addr) :
    Good k R (X.blk s H scope (compEnvC scope cl C X.env) fp) Wno (c.blk scope) where
  prog := G.prog
  N := G.N
  sc := by
    show relS scope X.env.scope = _
    rw [G.sc] <;> rfl
  nd := G.nd
  fn := fun x h => h
  md := .inl hc
  tk := takes_no
  rm := G.rm
  fa := G.fa
  pr := G.pr
  ph := G.ph
  qo := ⟨G.qo.ka, G.qo.calm, G.qo.ok⟩
  lam := fun h => by cases h
  xi := fun a dd cl e => by
    rw [G.xn hg] at e
    cases e
  xn := G.xn
/-- calm, or the walk may stand where an error is handled -/
def cmH (c : Cc) (i : ZI) : Bool := c.cm || (c.gk && i.hk)
theorem cmH_ok {c : Cc} {i : ZI} (h : cmH c i = true) : c.cm = true ∨ (c.cm = false ∧ c.gk = true ∧ i.hk = true) := by
  unfold cmH at h
  cases e : c.cm with
  | true => exact .inl rfl
  | false =>
    rw [e] at h
    obtain ⟨h1, h2⟩ := He.ba (show (c.gk && i.hk) = true from h)
    exact .inr ⟨rfl, h1, h2⟩
/-- the tests of a comprehension -/
structure ZTs where
  d : Rt → DT
  ck : Cc → List Expr → Bool
  ok : ∀ {k : Nat} {R : Rt} {X : Cx} {W : WX} {c : Cc} {e : List Expr}, ck c e = true → Good k R X W c → TsJ X W e (d R)
def tsNil : ZTs where
  d := fun _ => dYes
  ck := fun _ e => match e with
    | [] => true
    | _ => false
  ok := fun {k R X W c e} h G => by
    cases e with
    | nil => exact ts_nil
    | cons _ _ => exact ff h rfl
def ownN (N : List Str) (own : List Nat) : List (Str × Nat) := own.map fun i => (N.getD i Str.empty, i)
theorem ownN_ix {N : List Str} {own : List Nat} : (ownN N own).map (·.2) = own := by
  unfold ownN
  rw [List.map_map]
  exact List.map_id own
/-- [e for t in i if ..]; own: the slots of the block -/
def zComp (t : Tg) (own : List Nat) (i : ZI) (ts : ZTs) (a : ZE) : ZL where
  d := fun R => lComp t own (i.d R) (ts.d R) (a.d R)
  ck := fun c e => match e with
    | .ListComp elt [⟨tg, iter, ifs, as⟩] scope _ => decide (as = 0) && (cmH c i && (blkC c.N c.sc scope (ownN c.N own) && (decide (∀ j ∈ t.idx, j ∈ own) && (noSet iter && (i.ck c tg iter && (tgCk (c.blk scope) t tg && (ts.ck (c.blk scope) ifs && a.ck (c.blk scope) elt)))))))
    | _ => false
  ok := fun {k R X W c e} h G => by
    split at h
    · rename_i elt tg iter ifs as scope pos
      obtain ⟨h0, h⟩ := He.ba h
      obtain ⟨h1, h⟩ := He.ba h
      obtain ⟨h2, h⟩ := He.ba h
      obtain ⟨h3, h⟩ := He.ba h
      obtain ⟨h4, h⟩ := He.ba h
      obtain ⟨h5, h⟩ := He.ba h
      obtain ⟨h6, h⟩ := He.ba h
      obtain ⟨h7, h8⟩ := He.ba h
      obtain rfl := of_decide_eq_true h0
      have bo : BlkOk X.N X.env.scope scope (ownN c.N own) := by rw [G.N, G.sc]; exact blkOk_by h2
      have calm : X.calm = true → (∀ (s : Shared) (H : Hp) (C : Addr) (cl : List (Str × Addr)) (fp : List Addr), Good k R (X.blk s H scope (compEnvC scope cl C X.env) fp) Wno (c.blk scope)) → LJ X W (.ListComp elt [⟨tg, iter, ifs, 0⟩] scope pos) (lComp t ((ownN c.N own).map (·.2)) (i.d R) (ts.d R) (a.d R)) := fun hc GB =>
        l_comp (t := t) (own := ownN c.N own) (pos := pos) hc G.nd (i.ok (tg := tg) h5 G) bo (fun s H C cl fp => (GB s H C cl fp).tg h6) (fun s H C cl fp => ts.ok h7 (GB s H C cl fp)) (fun s H C cl fp => a.ok h8 (GB s H C cl fp))
          (by rw [ownN_ix]; exact of_decide_eq_true h3) (fold_of h4)
      have r : LJ X W (.ListComp elt [⟨tg, iter, ifs, 0⟩] scope pos) (lComp t ((ownN c.N own).map (·.2)) (i.d R) (ts.d R) (a.d R)) := by
        rcases cmH_ok h1 with h1 | ⟨h1, hg, hk⟩
        · exact calm (G.calm h1) fun s H C cl fp => G.blk h1 s H scope C cl fp
        · rcases G.md with hc | ⟨_, hot⟩
          · exact calm hc fun s H C cl fp => G.blkC hg hc s H scope C cl fp
          · have GB := fun p hp s H C cl fp => G.blkH hg h1 p hp s H scope C cl fp
            exact l_compH (t := t) (own := ownN c.N own) (pos := pos) hot G.nd (i.okH (tg := tg) hk h5 G) bo (fun p hp s H C cl fp => (GB p hp s H C cl fp).tg h6) (fun p hp s H C cl fp => ts.ok h7 (GB p hp s H C cl fp)) (fun p hp s H C cl fp => a.ok h8 (GB p hp s H C cl fp))
              (by rw [ownN_ix]; exact of_decide_eq_true h3) (fold_of h4)
      rw [ownN_ix] at r
      exact r
    · cases h
structure GoodS (k : Nat) (R : Rt) (X : Cx) (W : WX) (c : Cc) : Prop extends Good k R X W c where
  own : (c.cm || c.gk) = true → PassesOwn (model X.prog X.w) X.A X.env X.xe
  xk : c.gk = true → XeK X
  st : X.stack = X.env :: X.outer
  fr : X.env.frame = some X.env.locals
structure ZS where
  d : Rt → DS
  ck : Cc → Stmt → Bool
  ok : ∀ {k : Nat} {R : Rt} {X : Cx} {W : WX} {c : Cc} {e : Stmt}, ck c e = true → GoodS k R X W c → SJ X W e (d R)
structure ZB where
  d : Rt → DS
  ck : Cc → List Stmt → Bool
  ok : ∀ {k : Nat} {R : Rt} {X : Cx} {W : WX} {c : Cc} {e : List Stmt}, ck c e = true → GoodS k R X W c → BJ X W e (d R)
def bNil : ZB where
  d := fun _ => dNext
  ck := fun _ e => match e with
    | [] => true
    | _ => false
  ok := fun {k R X W c e} h G => by
    cases e with
    | nil => exact b_nil
    | cons _ _ => exact ff h rfl
def bOne (s : ZS) : ZB where
  d := fun R => s.d R
  ck := fun c e => match e with
    | [x] => s.ck c x
    | _ => false
  ok := fun {k R X W c e} h G => by
    split at h
    · exact b_one (s.ok h G)
    · cases h
def bCons (s : ZS) (b : ZB) : ZB where
  d := fun R => dSeq (s.d R) (b.d R)
  ck := fun c e => match e with
    | x :: xs => s.ck c x && b.ck c xs
    | [] => false
  ok := fun {k R X W c e} h G => by
    cases e with
    | nil => exact ff h rfl
    | cons x xs =>
      obtain ⟨h1, h2⟩ := He.ba h
      exact b_cons (s.ok h1 G) (b.ok h2 G)
def sRet (a : ZE) : ZS where
  d := fun R => dRet (a.d R)
  ck := fun c e => match e with
    | .Return (some x) _ => a.ck c x
    | _ => false
  ok := fun {k R X W c e} h G => by
    split at h
    · exact s_ret (a.ok h G.toGood)
    · cases h
def sExpr (a : ZE) : ZS where
  d := fun R => dDrop (a.d R)
  ck := fun c e => match e with
    | .Expr x _ => noComp x && a.ck c x
    | _ => false
  ok := fun {k R X W c e} h G => by
    cases e with
    | Expr x p =>
      obtain ⟨h1, h2⟩ := He.ba h
      exact s_expr (a.ok h2 G.toGood) (swaps_of h1)
    | _ => exact ff h rfl
def sSet (i : Nat) (a : ZE) : ZS where
  d := fun R => dSet i (a.d R)
  ck := fun c e => match e with
    | .Assign [.Name x _] y _ => decide (c.N[i]? = some x) && (locF c x && (noComp y && a.ck c y))
    | _ => false
  ok := fun {k R X W c e} h G => by
    split at h
    · obtain ⟨h1, h⟩ := He.ba h
      obtain ⟨h2, h⟩ := He.ba h
      obtain ⟨h3, h4⟩ := He.ba h
      exact s_set i (a.ok h4 G.toGood) G.nd (by rw [G.N]; exact of_decide_eq_true h1) (G.loc h2).1 (swaps_of h3) (G.loc h2).2
    · cases h
/-- x = [comprehension]: stored within the comprehension's frame; swapB: so it is -/
def swapB (c : Cc) (x : Str) (p : Pos) (scope : Scope) (vpos : Pos) : Bool := decide (c.sc.kind = .function) && (decide (c.sc.names.lookup x = some .local) && ((p.line == vpos.line) && !(scope.names.any fun (n, k) => n == x && (k == .local || k == .cell))))
theorem swap_ok {k : Nat} {R : Rt} {X : Cx} {W : WX} {c : Cc} (G : Good k R X W c) {x : Str} {p vpos : Pos} {scope : Scope} {elt : Expr} {gs : List Comprehension} {l : Nat} (h : swapB c x p scope vpos = true) : swapsWith (.ListComp elt gs scope vpos) (some (.Name x p)) l X.env = pure true := by
  obtain ⟨h0, h⟩ := He.ba h
  obtain ⟨h1, h⟩ := He.ba h
  obtain ⟨h2, h3⟩ := He.ba h
  have hb : X.env.blockKind = .function := by
    unfold Env.blockKind
    rw [G.sc, of_decide_eq_true h0] <;> rfl
  have h1 : X.env.kindOf x = some .local := by
    show X.env.scope.names.lookup x = some .local
    rw [G.sc]; exact of_decide_eq_true h1
  show (pure (X.env.blockKind == .function && X.env.kindOf x == some .local && p.line == vpos.line && !(scope.names.any fun (n, k) => n == x && (k == .local || k == .cell))) : Sem Bool) = pure true
  rw [hb, h1, h2, h3] <;> rfl
/-- x = [e for ..], never changed (fz) or not -/
def sSetL (i : Nat) (fz : Bool) (t : Tg) (own : List Nat) (it : ZI) (ts : ZTs) (a : ZE) : ZS where
  d := fun R => dSet i (match fz with
    | true => dLst (lComp t own (it.d R) (ts.d R) (a.d R))
    | false => dNew (lComp t own (it.d R) (ts.d R) (a.d R)))
  ck := fun c e => match e with
    | .Assign [.Name x p] (.ListComp elt [⟨tg, iter, ifs, as⟩] scope vpos) _ => decide (c.N[i]? = some x) && (swapB c x p scope vpos && (decide (as = 0) && (cmH c it && (blkC c.N c.sc scope (ownN c.N own) && (decide (∀ j ∈ t.idx, j ∈ own) && (noSet iter && (it.ck c tg iter && (tgCk (c.blk scope) t tg && (ts.ck (c.blk scope) ifs && a.ck (c.blk scope) elt)))))))))
    | _ => false
  ok := fun {k R X W c e} h G => by
    split at h
    · rename_i x p elt tg iter ifs as scope vpos spos
      obtain ⟨g1, h⟩ := He.ba h
      obtain ⟨g2, h⟩ := He.ba h
      obtain ⟨h0, h⟩ := He.ba h
      obtain ⟨h1, h⟩ := He.ba h
      obtain ⟨h2, h⟩ := He.ba h
      obtain ⟨h3, h⟩ := He.ba h
      obtain ⟨h4, h⟩ := He.ba h
      obtain ⟨h5, h⟩ := He.ba h
      obtain ⟨h6, h⟩ := He.ba h
      obtain ⟨h7, h8⟩ := He.ba h
      obtain rfl := of_decide_eq_true h0
      have G0 := G.toGood
      have bo : BlkOk X.N X.env.scope scope (ownN c.N own) := by rw [G.N, G.sc]; exact blkOk_by h2
      have hl : X.env.scope.names.lookup x = some .local := by rw [G.sc]; exact of_decide_eq_true (He.ba (He.ba g2).2).1
      have calm : X.calm = true → (∀ (s : Shared) (H : Hp) (C : Addr) (cl : List (Str × Addr)) (fp : List Addr), Good k R (X.blk s H scope (compEnvC scope cl C X.env) fp) Wno (c.blk scope)) → SJ X W (.Assign [.Name x p] (.ListComp elt [⟨tg, iter, ifs, 0⟩] scope vpos) spos) (dSet i (dFzL fz (lComp t ((ownN c.N own).map (·.2)) (it.d R) (ts.d R) (a.d R)))) := fun hc GB => by
        cases fz with
        | true =>
          exact s_setLN (t := t) (own := ownN c.N own) (spos := spos) i hc G.nd (swap_ok G0 g2) (it.ok (tg := tg) h5 G0) bo (fun s H C cl fp => (GB s H C cl fp).tg h6) (fun s H C cl fp => ts.ok h7 (GB s H C cl fp)) (fun s H C cl fp => a.ok h8 (GB s H C cl fp))
            (by rw [ownN_ix]; exact of_decide_eq_true h3) (by rw [G.N]; exact of_decide_eq_true g1) hl (fold_of h4)
        | false =>
          exact s_setLC (t := t) (own := ownN c.N own) (spos := spos) i hc G.nd (swap_ok G0 g2) (it.ok (tg := tg) h5 G0) bo (fun s H C cl fp => (GB s H C cl fp).tg h6) (fun s H C cl fp => ts.ok h7 (GB s H C cl fp)) (fun s H C cl fp => a.ok h8 (GB s H C cl fp))
            (by rw [ownN_ix]; exact of_decide_eq_true h3) (by rw [G.N]; exact of_decide_eq_true g1) hl (fold_of h4)
      have r : SJ X W (.Assign [.Name x p] (.ListComp elt [⟨tg, iter, ifs, 0⟩] scope vpos) spos) (dSet i (dFzL fz (lComp t ((ownN c.N own).map (·.2)) (it.d R) (ts.d R) (a.d R)))) := by
        rcases cmH_ok h1 with h1 | ⟨h1, hgk, hk⟩
        · exact calm (G0.calm h1) fun s H C cl fp => G0.blk h1 s H scope C cl fp
        · rcases G0.md with hc | ⟨_, hot⟩
          · exact calm hc fun s H C cl fp => G0.blkC hgk hc s H scope C cl fp
          · have GB := fun p hp s H C cl fp => G0.blkH hgk h1 p hp s H scope C cl fp
            exact s_setLH (t := t) (own := ownN c.N own) (spos := spos) i fz hot G.nd (swap_ok G0 g2) (it.okH (tg := tg) hk h5 G0) bo (fun p hp s H C cl fp => (GB p hp s H C cl fp).tg h6) (fun p hp s H C cl fp => ts.ok h7 (GB p hp s H C cl fp)) (fun p hp s H C cl fp => a.ok h8 (GB p hp s H C cl fp))
              (by rw [ownN_ix]; exact of_decide_eq_true h3) (by rw [G.N]; exact of_decide_eq_true g1) hl (fold_of h4)
      rw [ownN_ix] at r
      cases fz <;> exact r
    · cases h
def sAttr (f : Str) (o a : ZE) : ZS where
  d := fun R => dAttrSet f (o.d R) (a.d R)
  ck := fun c e => match e with
    | .Assign [.Attribute x y _] z _ => decide (y = f) && (o.ck c x && (noComp z && a.ck c z))
    | _ => false
  ok := fun {k R X W c e} h G => by
    split at h
    · obtain ⟨h1, h⟩ := He.ba h
      obtain ⟨h2, h⟩ := He.ba h
      obtain ⟨h3, h4⟩ := He.ba h
      obtain rfl := of_decide_eq_true h1
      exact s_attr (o.ok h2 G.toGood) (a.ok h4 G.toGood) (swaps_of h3)
    · cases h
def sIf (t : ZT) (a b : ZB) : ZS where
  d := fun R => dIfS (t.d R) (a.d R) (b.d R)
  ck := fun c e => match e with
    | .If x y z _ => t.ck c x && (a.ck c y && b.ck c z)
    | _ => false
  ok := fun {k R X W c e} h G => by
    cases e with
    | If x y z p =>
      obtain ⟨h1, h⟩ := He.ba h
      obtain ⟨h2, h3⟩ := He.ba h
      exact s_if (t.ok h1 G.toGood) (a.ok h2 G) (b.ok h3 G)
    | _ => exact ff h rfl
def sFor (t : Tg) (i : ZI) (b : ZB) : ZS where
  d := fun R => dFor t (i.d R) (b.d R)
  ck := fun c e => match e with
    | .For tg iter body [] _ => cmH c i && (noSet iter && (i.ck c tg iter && (tgCk c t tg && b.ck c body)))
    | _ => false
  ok := fun {k R X W c e} h G => by
    split at h
    · rename_i tg iter body pos
      obtain ⟨h1, h⟩ := He.ba h
      obtain ⟨h2, h⟩ := He.ba h
      obtain ⟨h3, h⟩ := He.ba h
      obtain ⟨h4, h5⟩ := He.ba h
      have own : PassesOwn (model X.prog X.w) X.A X.env X.xe := by
        rcases cmH_ok h1 with h1 | ⟨h1, hg, hk⟩
        · exact G.own (by rw [h1] <;> rfl)
        · exact G.own (by rw [h1, hg] <;> rfl)
      have calm := fun (hc : X.calm = true) => s_for (pos := pos) own hc (i.ok h3 G.toGood) (G.tg h4) (b.ok h5 G) (fold_of h2)
      rcases cmH_ok h1 with h1 | ⟨h1, hg, hk⟩
      · exact calm (G.calm h1)
      · rcases G.md with hc | ⟨_, hot⟩
        · exact calm hc
        · exact s_forH own hot (i.okH hk h3 G.toGood) (G.tg h4) (b.ok h5 G) (fold_of h2)
    · cases h
/-- raise C(e), C with one field -/
def sRaise (cl : Cl) (f : Str) (a : ZA) : ZS where
  d := fun R => dRaise cl (a.d R)
  ck := fun c e => match e with
    | .Raise (some (.Call (.Name y _) [x] [] _)) none _ => decide (y = cl.name) && (glB c.sc y && (decide ((cl, f) ∈ c.S.er) && (decide (cl ∈ c.S.xs) && (decide (("super" : Str) ∈ c.S.fre) && (c.cm && (nstar x && a.ck c [x]))))))
    | _ => false
  ok := fun {k R X W c e} h G => by
    split at h
    · obtain ⟨h1, h⟩ := He.ba h
      obtain ⟨h2, h⟩ := He.ba h
      obtain ⟨h3, h⟩ := He.ba h
      obtain ⟨h4, h⟩ := He.ba h
      obtain ⟨h5, h⟩ := He.ba h
      obtain ⟨h6, h⟩ := He.ba h
      obtain ⟨h7, h8⟩ := He.ba h
      obtain rfl := of_decide_eq_true h1
      have h4 := of_decide_eq_true h4
      obtain ⟨g1, g2, _⟩ := G.gl h2
      obtain ⟨f1, fI, f2⟩ := G.fa.er _ (of_decide_eq_true h3)
      rw [← G.prog] at f2
      exact s_raise f1 (G.fa.xc cl h4) f2 (G.fa.cn cl (List.mem_append_right _ h4)) (G.free h5) G.rm0 (G.calm h6) G.fr G.tk (a.ok h8 G.toGood) g1 g2 (star_cons h7) rfl
    · cases h
/-- try: .. except C as x: .. -/
def sTry (cl : Cl) (i : Nat) (b s : ZB) : ZS where
  d := fun R => dTry cl i (b.d R) (fun a dd c => s.d { R with L := R.LH, Q := [], xi := some (a, dd, c) })
  ck := fun c e => match e with
    | .Try body [.ExceptHandler (some (.Name y _)) (some n) (b0 :: suite) _] [] [] _ => decide (y = cl.name) && (glB c.sc y && (decide (cl ∈ c.S.xs) && (plainX cl && (c.cm && (decide (c.N[i]? = some n) && (decide (c.sc.names.lookup n = some .local) && (b.ck { c with gk := false } body && s.ck { c with cm := false, gk := false } (b0 :: suite))))))))
    | _ => false
  ok := fun {k R X W c e} h G => by
    split at h
    · rename_i body y np n b0 suite pos' pos
      obtain ⟨h1, h⟩ := He.ba h
      obtain ⟨h2, h⟩ := He.ba h
      obtain ⟨h3, h⟩ := He.ba h
      obtain ⟨hpl, h⟩ := He.ba h
      obtain ⟨h4, h⟩ := He.ba h
      obtain ⟨h5, h⟩ := He.ba h
      obtain ⟨h6, h⟩ := He.ba h
      obtain ⟨h7, h8⟩ := He.ba h
      obtain rfl := of_decide_eq_true h1
      have h3 := of_decide_eq_true h3
      obtain ⟨g1, g2, _⟩ := G.gl h2
      refine s_try (i := i) (n := n) (b0 := b0) (suite := suite) G.fa.ka (G.fa.xc cl h3) (G.fa.cn cl (List.mem_append_right _ h3)) G.nd G.tk (fun W' pn xe tk po => ?_) (plainX_run hpl) (plainX_pe hpl) (fun a oe d pn c2 dd hc hs hz hv hx => ?_) (by rw [G.N]; exact of_decide_eq_true h5) ?_ G.st G.fr g1 g2
      · exact b.ok h7 ⟨⟨G.prog, G.N, G.sc, G.nd, G.fn, .inl (G.calm h4), tk, G.rm, G.fa, G.pr, G.ph, ⟨G.qo.ka, G.qo.calm, G.qo.ok⟩, fun h => G.lam h, fun a dd c2 e => by
          obtain ⟨X0, oe, pn, d, hX, _⟩ := G.xi a dd c2 e
          have z := G.calm h4
          rw [hX] at z
          exact (nomatch z), fun z => (nomatch z)⟩, fun _ => po, (fun z => by cases z), G.st, G.fr⟩
      · exact s.ok h8 ⟨⟨G.prog, G.N, G.sc, G.nd, G.fn, suite_md hz hv, suite_tk, suite_rm G.rm, G.fa, G.ph, G.ph, ⟨G.qo.ka, fun z => absurd rfl z, fun _ _ z => (nomatch z)⟩, fun h => G.lam h, fun a' dd' c' e => by
          cases e
          exact ⟨X, oe, pn, d, rfl, rfl, hc, hz, hv, hx⟩, fun z => by cases z⟩, fun z => (by cases z), (fun z => by cases z), G.st, G.fr⟩
      · show X.env.scope.names.lookup n = some .local
        rw [G.sc]
        exact of_decide_eq_true h6
    · cases h
end Px
namespace Px
open PySem PySem.Spec PyProof.Rows L2
section
variable {S : Stt} {fn : List DefP} {er : List ErrD} {su : List SupD} {mo : Frg → Bool} {K : Frg} {mg : Str → Option Value} {base : Heap}
theorem Says.fa_ (c : Says (S.want fn er su mo) K) {f : He.Fa} (h : f ∈ S.fas) : f.ok K = true := List.all_eq_true.mp (He.ba c.ok).1 f h
theorem Says.facts (c : Says (S.want fn er su mo) K) (kin : K.In base) (ns : base.Ns mainGlobals mg) (her : ∀ p ∈ S.er, p.1.flds = [p.2] ∧ ∃ fI, ErrF S.P K (ca K p.1) fI p.2) : Facts S K mg := by
  have m : (S.more K && mo K) = true := c.more
  obtain ⟨m, _⟩ := He.ba m
  obtain ⟨m1, m⟩ := He.ba m
  obtain ⟨m, m8⟩ := He.ba m
  obtain ⟨m8, m9⟩ := He.ba m8
  obtain ⟨m2, m⟩ := He.ba m
  obtain ⟨m3, m⟩ := He.ba m
  obtain ⟨m4, m⟩ := He.ba m
  obtain ⟨m5, m⟩ := He.ba m
  obtain ⟨m6, m7⟩ := He.ba m
  have kc : ∀ c ∈ S.hs, kcB K c = true := fun d h => c.kc h
  have cn : ∀ d ∈ S.hs ++ S.xs, mg d.name = some (.ref (ca K d)) := fun d h => He.glo_ok kin ns (c.fa_ (by
    unfold Stt.fas
    exact List.mem_append_right _ (List.mem_append_left _ (List.mem_map.mpr ⟨d, h, rfl⟩))))
  refine ⟨fun x h => ?_, c.ka, kc, fun d h => c.xc h, cn, fun i h => ⟨?_, ?_⟩, fun p h => ?_, fun d h => ?_, fun p h => ?_, fun p h => ?_, her, fun p h => ?_, fun p h => ?_, fun p h => ?_, fun hi => ?_, fun c h => List.all_eq_true.mp m9 c h⟩
  · exact He.free_ok kin ns (c.fa_ (by unfold Stt.fas; exact List.mem_append_left _ (List.mem_map.mpr ⟨x, h, rfl⟩)))
  · exact He.glo_ok kin ns (c.fa_ (by unfold Stt.fas; exact List.mem_append_right _ (List.mem_append_right _ (List.mem_append_left _ (List.mem_map.mpr ⟨i, h, rfl⟩)))))
  · exact c.fa_ (f := .keep (S.nm i)) (by unfold Stt.fas; exact List.mem_append_right _ (List.mem_append_right _ (List.mem_append_right _ (List.mem_append_left _ (List.mem_map.mpr ⟨i, h, rfl⟩)))))
  · obtain ⟨a, b⟩ := He.ba (List.all_eq_true.mp m1 p h)
    refine ⟨?_, cmB_ok a⟩
    unfold knB
    rw [kc _ (of_decide_eq_true b)] <;> rfl
  · have hd := of_decide_eq_true (List.all_eq_true.mp m6 d h)
    exact ⟨kc d hd, cn d (List.mem_append_left _ hd), He.mkr_ok (c.fa_ (by unfold Stt.fas; exact List.mem_append_right _ (List.mem_append_right _ (List.mem_append_right _ (List.mem_append_right _ (List.mem_map.mpr ⟨d, h, rfl⟩))))))⟩
  · obtain ⟨a1, a⟩ := He.ba (List.all_eq_true.mp m2 p h)
    obtain ⟨a2, a⟩ := He.ba a
    obtain ⟨a3, a⟩ := He.ba a
    obtain ⟨a4, a5⟩ := He.ba a
    exact ⟨by simpa using a4, kc _ (of_decide_eq_true a5), He.meth_ok a1, a2, a3⟩
  · exact of_decide_eq_true (List.all_eq_true.mp m3 p h)
  · have a := List.all_eq_true.mp m4 p h
    obtain ⟨d, f, v⟩ := p
    cases v with
    | int i =>
      obtain ⟨r, u, v⟩ := cvB_ok (show Px.cvB K d f i = true from a)
      exact ⟨.int i, u, r, v, fun _ _ => rep_int i⟩
    | txs zs =>
      obtain ⟨r, a, ⟨u, v⟩, rp⟩ := cvTB_ok (show cvTB K d f zs = true from a)
      exact ⟨.ref a, u, r, v, rp⟩
    | str z => cases a
  · have a := List.all_eq_true.mp m5 p h
    obtain ⟨x, v⟩ := p
    cases v with
    | int i =>
      obtain ⟨t, e⟩ := He.int_ok kin ns (show (He.Fa.int x i).ok K = true from a)
      exact ⟨.int i, _, e, ⟨t, rfl⟩, fun _ _ => rep_int i⟩
    | str z =>
      obtain ⟨t, e⟩ := He.str_ok kin ns (show (He.Fa.str x z).ok K = true from a)
      exact ⟨.str z, _, e, ⟨t, rfl⟩, fun _ _ => rep_str z⟩
    | txs zs => cases a
  · obtain ⟨a1, a⟩ := He.ba (List.all_eq_true.mp m7 p h)
    obtain ⟨a2, a3⟩ := He.ba a
    exact ⟨by simpa using a2, kc _ (of_decide_eq_true a3), prB_ok a1⟩
  · rw [hi] at m8
    have q1 := (He.ba (He.ba (He.ba c.ok).2).1).1
    refine isxB_ok (fun d hd => ?_) (fun d hd => ?_) (by simpa using m8)
    · have := (He.ba (List.all_eq_true.mp q1 d (allCl_mem d))).1
      rw [hd] at this
      have : d ∈ (S.want fn er su mo).hs := by simpa using this
      exact this
    · have := (He.ba (List.all_eq_true.mp q1 d (allCl_mem d))).2
      rw [hd] at this
      have : d ∈ (S.want fn er su mo).xs := by simpa using this
      exact this
end
section
variable (S : Stt) (hot : Bool) (P : Program) (w : World) (K : Frg) (mg : Str → Option Value) (base : Heap) (k : Nat)
def AllP : Tbl → Prop
  | [] => True
  | (F, ct) :: r => PromOk S hot P w K mg base k F ct ∧ AllP r
theorem AllP.mem : ∀ {L : Tbl}, AllP S hot P w K mg base k L → ∀ F ct, (F, ct) ∈ L → PromOk S hot P w K mg base k F ct
  | [], _, F, ct, h => by cases h
  | (F0, ct0) :: r, ⟨p, q⟩, F, ct, h => by
    rcases List.mem_cons.mp h with e | e
    · cases e; exact p
    · exact AllP.mem q F ct e
end
section
variable {S : Stt} {hot : Bool} {P : Program} {w : World} {K : Frg} {mg : Str → Option Value} {base : Heap} {k : Nat}
theorem prom_m {c : Cl} {x : Nat} {ks : List Nat} {ct : Ct} (fa : Facts S K mg) (h : (c, x) ∈ S.ms) (F : FnS hot P w K mg base k (He.ma K (ca K c) (S.nm x)) (ks.map S.nm) (spP K ct)) : PromOk S hot P w K mg base k (.m c x ks) ct := by
  obtain ⟨h1, h2, h3, h4, h5⟩ := fa.ms _ h
  exact ⟨h1, h2, h3, h4, h5, F⟩
/-- a stronger promise -/
theorem FnS.imp {f : Addr} {ks : List Str} {c c' : Ct} (F : FnS hot P w K mg base k f ks (spP K c)) (i : ∀ as μ q x, c' as μ q x → c as μ q x) : FnS hot P w K mg base k f ks (spP K c') := fun A outer s H us ws vs Q E hm hr e0 hl r ⟨B, μ, G, as, q, z, o, rr, hc, hq⟩ =>
  F A outer s H us ws vs Q E hm hr e0 hl r ⟨B, μ, G, as, q, z, o, rr, i _ _ _ _ hc, hq⟩
end
section
variable {S : Stt} {hot : Bool} {P : Program} {w : World} {K : Frg} {mg : Str → Option Value} {base : Heap} {k : Nat}
theorem AllP.nil : AllP S hot P w K mg base k [] := trivial
theorem AllP.cons {F : Fid} {ct : Ct} {r : Tbl} (p : PromOk S hot P w K mg base k F ct) (q : AllP S hot P w K mg base k r) : AllP S hot P w K mg base k ((F, ct) :: r) := ⟨p, q⟩
def AllE (S : Stt) (K : Frg) : List (Cl × Str) → Prop
  | [] => True
  | p :: r => (p.1.flds = [p.2] ∧ ∃ fI, ErrF S.P K (ca K p.1) fI p.2) ∧ AllE S K r
theorem AllE.nil : AllE S K [] := trivial
theorem AllE.cons {p : Cl × Str} {r : List (Cl × Str)} {fI : Addr} (h : p.1.flds = [p.2]) (e : ErrF S.P K (ca K p.1) fI p.2) (q : AllE S K r) : AllE S K (p :: r) := ⟨⟨h, fI, e⟩, q⟩
theorem AllE.mem : ∀ {l : List (Cl × Str)}, AllE S K l → ∀ p ∈ l, p.1.flds = [p.2] ∧ ∃ fI, ErrF S.P K (ca K p.1) fI p.2
  | [], _, p, h => by cases h
  | _ :: r, ⟨a, b⟩, p, h => by
    rcases List.mem_cons.mp h with e | e
    · rw [e]; exact a
    · exact AllE.mem b p e
end
section
variable (P : Program) (w : World) (K : Frg) (mg : Str → Option Value) (base : Heap) (k : Nat)
def AllQ : Qt → Prop
  | [] => True
  | (c, f) :: r => (SameO c f ∧ kcB K c = true ∧ Meth K (ca K c) "__eq__" (He.ma K (ca K c) "__eq__") ∧ FnS false P w K mg base k (He.ma K (ca K c) "__eq__") [] (spP K (cEq c f))) ∧ AllQ r
end
section
variable {S : Stt} {P : Program} {w : World} {K : Frg} {mg : Str → Option Value} {base : Heap} {k : Nat}
theorem AllQ.nil : AllQ P w K mg base k [] := trivial
theorem AllQ.cons {c : Cl} {f : Qf} {r : Qt} (fa : Facts S K mg) (hm : (c, 9) ∈ S.ms) (sm : SameO c f) (F : FnS false P w K mg base k (He.ma K (ca K c) "__eq__") [] (spP K (cEq c f))) (q : AllQ P w K mg base k r) : AllQ P w K mg base k ((c, f) :: r) := by
  obtain ⟨_, h2, h3, _, _⟩ := fa.ms _ hm
  exact ⟨⟨sm, h2, h3, F⟩, q⟩
theorem AllQ.mem : ∀ {Q : Qt}, AllQ P w K mg base k Q → ∀ c f, (c, f) ∈ Q → SameO c f ∧ kcB K c = true ∧ ∃ g, Meth K (ca K c) "__eq__" g ∧ FnS false P w K mg base k g [] (spP K (cEq c f))
  | [], _, c, f, h => by cases h
  | (c0, f0) :: r, ⟨⟨a1, a2, a3, a4⟩, q⟩, c, f, h => by
    rcases List.mem_cons.mp h with e | e
    · cases e; exact ⟨a1, a2, _, a3, a4⟩
    · exact AllQ.mem q c f e
end
section
variable {S : Stt} {w : World} {K : Frg} {mg : Str → Option Value} {base : Heap} {x qual : Str} {params : Arguments} {body : List Stmt} {scope : Scope} {dvs : List V} {kws : List (Str × V)} {f : Addr} {fd : FuncData} {N ps : List Str} {k : Nat} {b : ZB} {L LH : Tbl} {Q : Qt} {c : Ct}
theorem goodS_of {hot cm : Bool} {pn : List (Addr × Obj)} {cd : Value} {A : Around} {outer : List Env} {s : Shared} {H : Hp} {E : XK} (fa : Facts S K mg) (nd : N.Nodup) (he : Here hot (cxG cm pn S.P w K mg base N qual scope f cd A outer s H E) (fun cls dd _ H' => E cls dd H') (k + 2))
    (pr : AllP S hot S.P w K mg base k L) (ph : AllP S true S.P w K mg base k LH) (hq : Q ≠ [] → hot = false) (pq : AllQ S.P w K mg base k Q) : GoodS k { L := L, LH := LH, Q := Q } (cxG cm pn S.P w K mg base N qual scope f cd A outer s H E) (fun cls dd _ H' => E cls dd H') { S := S, N := N, sc := scope, cm := !hot } :=
  ⟨⟨rfl, rfl, rfl, nd, fun _ _ => rfl, by show Md _ (!!hot); rw [Bool.not_not]; exact he.md, he.tk, he.rm, fa, by show ∀ F ct, _ → PromOk S (!!hot) _ _ _ _ _ _ _ _; rw [Bool.not_not]; exact AllP.mem _ _ _ _ _ _ _ _ pr, AllP.mem _ _ _ _ _ _ _ _ ph, ⟨fa.ka, fun z => he.md.elim (fun q => q) (fun q => absurd q.1 (by rw [hq z]; decide)), AllQ.mem pq⟩, (fun h => by cases h), (fun _ _ _ e => by cases e), fun _ => rfl⟩, fun _ => he.own, fun _ => xek_cx, rfl, rfl⟩
theorem fn_z (hot : Bool) (fa : Facts S K mg) (Fn : FunD K x qual params body scope dvs kws f fd) (Sc : FnScope N ps scope) (ck : b.ck { S := S, N := N, sc := scope, cm := !hot } body = true) (pr : AllP S hot S.P w K mg base k L) (ph : AllP S true S.P w K mg base k LH) (hq : Q ≠ [] → hot = false) (pq : AllQ S.P w K mg base k Q)
    (len : ∀ as μ q z, c as μ q z → as.length = ps.length) (pure_ : ∀ as μ q z, c as μ q z → b.d { L := L, LH := LH, Q := Q } (endsOf q z) (startE N.length as) μ) : FnO hot S.P w K mg base (k + 3) f fd ps (spP K c) :=
  fn_p hot Fn Sc c _ len (fun cm pn cd A outer s H E hcm he => b.ok ck (goodS_of fa Sc.nd he pr ph hq pq)) pure_
theorem fn_zs {qs : List Str} {pv : Str} (fa : Facts S K mg) (Fn : FunD K x qual params body scope [] kws f fd) (Sc : FnScope N (qs ++ [pv]) scope) (ck : b.ck { S := S, N := N, sc := scope, cm := true } body = true) (pr : AllP S false S.P w K mg base k L) (ph : AllP S true S.P w K mg base k LH) (pq : AllQ S.P w K mg base k Q)
    (hb : ∀ (kV doc pm : Value) (an : Option Addr) (cdv ct : Value) (us rest : List Value), us.length = qs.length → bindArgs (PySem.W.fnOf x qual params body scope .none kV doc pm an cdv ct) ⟨us ++ rest, []⟩ = (newTuple rest >>= fun t => pure (qs.zip us ++ [(pv, t)])))
    (pure_ : ∀ as μ q z, c as μ q z → b.d { L := L, LH := LH, Q := Q } (endsOf q z) (startE N.length as) μ) : FnS false S.P w K mg base (k + 3) f [] (spP K (starC qs.length c)) :=
  fn_star Fn Sc c _ hb (fun cm pn cd A outer s H E hcm he => b.ok ck (goodS_of fa Sc.nd he pr ph (fun _ => rfl) pq)) pure_
theorem fn_zlaw {n : Nat} {st : Stmt} {rest : List Stmt} (fa : Facts S K mg) (Fn : FunD K x qual params body scope dvs kws f fd) (Sc : FnScope N ps scope) (hb : body = st :: rest) (hN : N.length = n + 2) (hp : ps.length = 1)
    (ck : b.ck { S := S, N := N, sc := scope, cm := true } rest = true) (pr : AllP S false S.P w K mg base k L) (ph : AllP S true S.P w K mg base k LH) (pq : AllQ S.P w K mg base k Q)
    (first : ∀ (pn : List (Addr × Obj)) (cd : Value) (A : Around) (outer : List Env) (s : Shared) (H : Hp) (E : XK), Here false (cxG true pn S.P w K mg base N qual scope f cd A outer s H E) (fun cls dd _ H' => E cls dd H') (k + 2) →
      PS (cxG true pn S.P w K mg base N qual scope f cd A outer s H E) st (tAsg (tRaw (fun cls dd _ H' => E cls dd H') (spBox K) (tCons (tVar 0) tNil)) (gName 1)))
    (pure_ : b.d { L := L, LH := LH, Q := Q } lawEnds (lawE n) mu0) : FnO false S.P w K mg base (k + 3) f fd ps (spLaw K) :=
  fn_law Fn Sc hb hN hp first (fun pn cd A outer s H E he => b.ok ck (goodS_of fa Sc.nd he pr ph (fun _ => rfl) pq)) pure_
end
/-- keyword-only parameters that are left out -/
def dfl (ds : List PV) (c : Ct) : Ct := fun as μ q z => c (as ++ ds) μ q z
theorem MkC.dfl {fz : Bool} {c : Cl} {ct kc : Ct} {ds : List PV} (h : MkC fz c ct kc) : MkC fz c (Px.dfl ds ct) (Px.dfl ds kc) := fun ps μ q x z y hy => h (ps ++ ds) μ q x z y hy
end Px
namespace Px
open PySem PySem.Spec PyProof.Rows L2
def isLC (μ : Mu) (o : PV) : Bool := match o with
  | .cell a => (match μ a with
    | some (.lst _) => true
    | _ => false)
  | _ => false
def appP (o p : PV) (μ : Mu) (q : QV) : Prop := match o with
  | .cell a => (match μ a with
    | some (.lst xs) => xs.length < sizeLine ∧ q .non (μ.put a (.lst (xs ++ [p])))
    | _ => False)
  | _ => False
def dApp (dO d : DE) : DE := fun ρ μ q x => dO ρ μ (fun o μ1 => br (isLC μ1 o) (d ρ μ1 (fun p μ2 => appP o p μ2 q) x) False) x
section
variable {X : Cx} {W : WX} {apos pos : Pos} {o e : Expr} {dO d : DE}
theorem e_app (ho : EJ X W o dO) (he : EJ X W e d) (h1 : nsup o = true) (h2 : nstar e = true) (h3 : (apos.endLine == pos.line) = true) : EJ X W (.Call (.Attribute o "append" apos) [e] [] pos) (dApp dO d) :=
  pe_imp (pe_bm PySem.F.plainAttrs_list PySem.F.slot_list_append PySem.F.type_list_append mt_append ho (pa_cons he pa_nil (star_cons h2)) (base_of h1) (by rw [star_cons h2] <;> rfl) h3 (star_cons h2) rfl) fun σ H Q ⟨B, ρ, μ, G, q, x, R, h, gv, gx⟩ =>
  ⟨B, ρ, μ, G, _, x, R, h, fun oo w μ1 G1 H1 h0 g1 r1 => by
    obtain ⟨hb, h1⟩ := br_and h0
    cases oo with
    | cell a =>
      unfold isLC at hb
      cases e0 : μ1 a with
      | none => simp only [e0] at hb; cases hb
      | some cc =>
        cases cc with
        | lst xs =>
          obtain ⟨_, _, u, ha, vs, rfl, rs⟩ := g1.ok.cell a _ e0
          have hv := r1.cell_inv
          subst hv
          refine ⟨.inl ⟨rfl, vs, .inl (.inl ha)⟩, B, ρ, μ1, G1, _, x, R.go g1, h1, fun p v μ2 G2 H2 h2 g2 r2 => ?_, gx.go g1⟩
          unfold appP at h2
          cases e1 : μ2 a with
          | none => simp only [e1] at h2
          | some c2 =>
            cases c2 with
            | lst ys =>
              simp only [e1] at h2
              obtain ⟨hl, hq⟩ := h2
              obtain ⟨ga, nb, u2, ha2, ws, rfl, rs2⟩ := g2.ok.cell a _ e1
              have gp := g2.ok.goPut (d := .lst (ys ++ [p])) (u := .lst (ws ++ [v])) e1 ⟨_, rfl, rs2.append (.cons r2 .nil)⟩
              exact ⟨a, ws, v, rfl, rfl, ha2, by rw [rs2.length]; exact hl, gv _ _ _ _ _ hq ((g1.trans g2).trans gp) rep_non⟩
            | _ => simp only [e1] at h2
        | _ => simp only [e0] at hb; cases hb
    | _ => exact absurd hb Bool.false_ne_true, gx⟩
end
def zApp (o a : ZE) : ZE where
  d := fun R => dApp (o.d R) (a.d R)
  ck := fun c e => match e with
    | .Call (.Attribute x y apos) [z] [] pos => decide (y = "append") && (nsup x && (nstar z && ((apos.endLine == pos.line) && (o.ck c x && a.ck c z))))
    | _ => false
  ok := fun {k R X W c e} h G => by
    split at h
    · obtain ⟨h1, h⟩ := He.ba h
      obtain ⟨h2, h⟩ := He.ba h
      obtain ⟨h3, h⟩ := He.ba h
      obtain ⟨h4, h⟩ := He.ba h
      obtain ⟨h5, h6⟩ := He.ba h
      obtain rfl := of_decide_eq_true h1
      exact e_app (o.ok h5 G) (a.ok h6 G) h2 h3 h4
    · cases h
theorem Rel.same {K : Frg} {B : BX} {ρ : En} {μ : Mu} {σ : L2.St} {G H : Hp} {i : Nat} {x y : PV} (R : Rel K B ρ μ σ G H) (h : nth ρ i = some y) (hv : ∀ v, Rep K B G y v → Rep K B G x v) : Rel K B (ρ.set i (some x)) μ σ G H := by
  refine ⟨R.ok, by rw [List.length_set]; exact R.len, fun j z e => ?_⟩
  rcases set_get e with ⟨rfl, q⟩ | ⟨n, q⟩
  · cases q
    obtain ⟨v, e1, r⟩ := R.at_ i y (nth_some h)
    exact ⟨v, e1, hv v r⟩
  · exact R.at_ j z q
end Px
namespace Px
open PySem PySem.Spec PyProof.Rows L2
open NdefX (NF NScope CellsAt startF envF ncx inv_startN)
open PySem.W (findIn typeIn keepIn subIn clsIn nsIn codeIn alongIn fnX envX)
end Px
namespace Px
open PySem PySem.Spec PyProof.Rows L2
abbrev Clau := Cl × Option Nat × (Addr → Addr → Cl → DS)
structure Cla where
  c : Cl
  i : Option Nat
  s : ZB
def Cla.d (R : Rt) (k : Cla) : Clau := (k.c, k.i, fun a dd c => k.s.d { R with L := R.LH, Q := [], xi := some (a, dd, c) })
theorem br_self {α : Type} {b : α} [Decidable (b = b)] {A B : Prop} (h : A) : br (decide (b = b)) A B := brT (decide_eq_true rfl) h
theorem br_nself {α : Type} {b : α} [Decidable (b = b)] {A B : Prop} (h : B) : br (!decide (b = b)) A B := brF (by rw [decide_eq_true rfl]; rfl) h
end Px
namespace Px
open PySem PySem.Spec PyProof.Rows L2
end Px
namespace Px
open PySem PySem.Spec PyProof.Rows L2
def sgnsP (z : Str) : List PV := z.cps.toList.map fun c => .str ⟨#[c]⟩
theorem itok_str {K : Frg} {B : BX} {G : Hp} (z : Str) : ItOk K B G (Its z) (sgnsP z) := by
  have hl : (sgnsP z).length = z.cps.size := by unfold sgnsP; rw [List.length_map, Array.length_toList]
  refine ⟨fun i μ G' H s o hi => by rw [hl] at hi; exact hi, fun i μ G' H v H' x s o e y => ?_, fun i μ G' H s o hi => by rw [hl] at hi; exact hi⟩
  obtain ⟨rfl, c, hc, rfl⟩ := y
  unfold sgnsP at e
  rw [List.getElem?_map, Array.getElem?_toList, hc] at e
  cases e
  exact ⟨G', .refl o, rep_str _⟩
def iStP (d : DE) : DI := fun ρ μ q x => d ρ μ (fun p μ1 => match p with
  | .str z => q (sgnsP z) μ1
  | _ => False) x
theorem i_str {X : Cx} {W : WX} {tg e : Expr} {d : DE} (h : EJ X W e d) : IJ X W tg e (iStP d) := pi_imp (pi_str h) fun σ H R ⟨B, ρ, μ, G, q, x, Rl, h, gv, gx⟩ =>
  ⟨B, ρ, μ, G, _, x, Rl, h, fun p v μ1 G1 H1 h1 g1 r1 => by
    cases p with
    | str z => exact ⟨z, r1.str_inv, gv _ _ μ1 G1 H1 h1 g1 (itok_str z)⟩
    | _ => exact h1.elim, gx⟩
def iSt (a : ZE) : ZI where
  d := fun R => iStP (a.d R)
  ck := fun c _ e => a.ck c e
  ok := fun h G => i_str (a.ok h G)
end Px
namespace Px
open PySem PySem.Spec PyProof.Rows L2
end Px
namespace Px
open PySem PySem.Spec PyProof.Rows L2
def tupE : Expr → Bool
  | .Tuple _ _ _ => true
  | _ => false
def iEnu (a : ZE) : ZI where
  d := fun R => iEn (dCons (a.d R) dNil)
  ck := fun c tg e => match e with
    | .Call (.Name y _) [x] [] _ => tupE tg && (decide (y = "enumerate") && (glB c.sc "enumerate" && (decide (("enumerate" : Str) ∈ c.S.fre) && (nstar x && a.ck c x))))
    | _ => false
  ok := fun {k R X W c tg e} h G => by
    split at h
    · obtain ⟨h0, h⟩ := He.ba h
      obtain ⟨h1, h⟩ := He.ba h
      obtain ⟨h2, h⟩ := He.ba h
      obtain ⟨h3, h⟩ := He.ba h
      obtain ⟨h4, h5⟩ := He.ba h
      obtain rfl := of_decide_eq_true h1
      cases tg with
      | Tuple es n p => exact i_enum (G.free h3) (a_cons (a.ok h5 G) a_nil (star_cons h4)) (G.gl h2).1 (star_cons h4)
      | _ => exact ff h0 rfl
    · cases h
  hk := true
  okH := fun {k R X W c tg e} _ h G => by
    split at h
    · obtain ⟨h0, h⟩ := He.ba h
      obtain ⟨h1, h⟩ := He.ba h
      obtain ⟨h2, h⟩ := He.ba h
      obtain ⟨h3, h⟩ := He.ba h
      obtain ⟨h4, h5⟩ := He.ba h
      obtain rfl := of_decide_eq_true h1
      cases tg with
      | Tuple es n p => exact i_enumH (G.free h3) (a_cons (a.ok h5 G) a_nil (star_cons h4)) (G.gl h2).1 (star_cons h4)
      | _ => exact ff h0 rfl
    · cases h
end Px
namespace Px
open PySem PySem.Spec PyProof.Rows L2
inductive Src where
  | l (a : Addr)
  | t (a : Addr)
  | s (x : Str)
namespace Src
def v : Src → V
  | .l a => .ref a
  | .t a => .ref a
  | .s x => .str x
/-- its item at i -/
def G (K : PySem.W.Frag) (S : Src) (H : Hp) (i : Nat) (x : V) : Prop := match S with
  | .l a => ∃ xs, SqL K H a xs ∧ xs[i]? = some x
  | .t a => ∃ xs, SqT K H a xs ∧ xs[i]? = some x
  | .s z => ∃ c, z.cps[i]? = some c ∧ x = .str ⟨#[c]⟩
/-- it has none at i -/
def N (K : PySem.W.Frag) (S : Src) (H : Hp) (i : Nat) : Prop := match S with
  | .l a => ∃ xs : List V, SqL K H a xs ∧ xs.length ≤ i
  | .t a => ∃ xs : List V, SqT K H a xs ∧ xs.length ≤ i
  | .s z => z.cps.size ≤ i
def Ok (K : PySem.W.Frag) (S : Src) (H : Hp) : Prop := match S with
  | .l a => ∃ xs : List V, SqL K H a xs
  | .t a => ∃ xs : List V, SqT K H a xs
  | .s _ => True
def tn (S : Src) (it : Addr) (i : Nat) (h : Heap) : Prop := match S with
  | .l a => h.IsListIter it a i ∧ a ≠ it
  | .t a => h.IsTupleIter it a i ∧ a ≠ it
  | .s x => ∃ t, h.IsStrIter it (strIterType x) x t i
def fp : Src → List Addr
  | .l a => [a]
  | .t a => [a]
  | .s _ => []
theorem G.inj {X : Cx} {pins : List (Addr × Obj)} {σ : L2.St} {H : Hp} {s : Shared} {S : Src} {i : Nat} {x y : V} (I : Inv X pins σ H s) (h : S.G X.K H i x) (h2 : S.G X.K H i y) : x = y := by
  cases S with
  | l a =>
    obtain ⟨xs, q, e⟩ := h
    obtain ⟨ys, q2, e2⟩ := h2
    rw [I.list_inj q q2, e2] at e
    cases e; rfl
  | t a =>
    obtain ⟨xs, q, e⟩ := h
    obtain ⟨ys, q2, e2⟩ := h2
    rw [I.tuple_inj q q2, e2] at e
    cases e; rfl
  | s z =>
    obtain ⟨c, e, rfl⟩ := h
    obtain ⟨d, e2, rfl⟩ := h2
    rw [e] at e2
    cases e2; rfl
/-- an iterator with one more item -/
theorem item {X : Cx} {pins : List (Addr × Obj)} {σ : L2.St} {H : Hp} {s : Shared} {S : Src} {it : Addr} {i : Nat} {x : V} {A : Around} (hh : A.handled = none) (I : Inv X pins σ H s) (g : S.G X.K H i x) (st : S.tn it i s.heap) :
    ∃ n P St, Draws X.prog X.w A it (it :: S.fp) n P St ∧ St i s.heap ∧ i < n ∧ (∀ u, P i u → RelV x u) ∧ ∀ h', St (i + 1) h' → S.tn it (i + 1) h' := by
  cases S with
  | l a =>
    obtain ⟨xs, q, e⟩ := g
    obtain ⟨its, rv, p, hz⟩ := I.list q
    obtain ⟨u, hu, ru⟩ := rv.get e
    have hlt := (List.getElem?_eq_some_iff.mp hu).1
    refine ⟨_, _, _, Draws.list hh it a st.2 its.toArray, ⟨st.1, p.isList⟩, by simpa using hlt, fun w hw => ?_, fun h' k => ⟨k.1, st.2⟩⟩
    have e1 : its.toArray[i]? = some u := by simpa using hu
    rw [e1] at hw
    cases hw
    exact ru
  | t a =>
    obtain ⟨xs, q, e⟩ := g
    obtain ⟨its, rv, p, hz⟩ := I.tuple q
    have hp : s.heap.IsTuple a its.toArray := p
    obtain ⟨u, hu, ru⟩ := rv.get e
    have hlt := (List.getElem?_eq_some_iff.mp hu).1
    refine ⟨_, _, _, Draws.tuple hh it a st.2 its.toArray, ⟨st.1, hp⟩, by simpa using hlt, fun w hw => ?_, fun h' k => ⟨k.1, st.2⟩⟩
    have e1 : its.toArray[i]? = some u := by simpa using hu
    rw [e1] at hw
    cases hw
    exact ru
  | s z =>
    obtain ⟨c, e, rfl⟩ := g
    obtain ⟨t, st⟩ := st
    have hlt : i < z.cps.size := (Array.getElem?_eq_some_iff.mp e).1
    refine ⟨_, _, _, Draws.text hh it z t, st, hlt, fun w hw => ?_, fun h' k => ⟨t, k⟩⟩
    obtain ⟨d, u, e2, rfl⟩ := hw
    rw [e] at e2
    cases e2
    exact ⟨u, rfl⟩
/-- an iterator that has none -/
theorem none {X : Cx} {pins : List (Addr × Obj)} {σ : L2.St} {H : Hp} {s : Shared} {S : Src} {it : Addr} {i : Nat} {A : Around} (hh : A.handled = Option.none) (I : Inv X pins σ H s) (g : S.N X.K H i) (st : S.tn it i s.heap) :
    ∃ P St, Draws X.prog X.w A it (it :: S.fp) i P St ∧ St i s.heap := by
  cases S with
  | l a =>
    obtain ⟨xs, q, e⟩ := g
    obtain ⟨its, rv, p, hz⟩ := I.list q
    have hl := rv.length
    have en : its.toArray[i]? = Option.none := by simp; omega
    refine ⟨fun _ _ => True, fun j h => j = i ∧ h.IsListIter it a i ∧ h.IsList a its.toArray, ?_, rfl, st.1, p.isList⟩
    exact {
      live := fun _ _ st => let ⟨o, ho, _⟩ := st.2.1; ⟨o, ho⟩
      frame := fun _ _ _ st hk => ⟨st.1, st.2.1.at fun o e => hk it (by simp) o e, st.2.2.at fun o e => hk a (by simp [fp]) o e⟩
      item := fun j s Q E hj st _ => absurd st.1 (Nat.ne_of_lt hj)
      done := fun s Q E st hE => wpAny_nextOf_list_end hh st.2.1 st.2.2 en hE }
  | t a =>
    obtain ⟨xs, q, e⟩ := g
    obtain ⟨its, rv, p, hz⟩ := I.tuple q
    have hp : s.heap.IsTuple a its.toArray := p
    have hl := rv.length
    have en : its.toArray[i]? = Option.none := by simp; omega
    refine ⟨fun _ _ => True, fun j h => j = i ∧ h.IsTupleIter it a i ∧ h.IsTuple a its.toArray, ?_, rfl, st.1, hp⟩
    exact {
      live := fun _ _ st => let ⟨o, ho, _⟩ := st.2.1; ⟨o, ho⟩
      frame := fun _ _ _ st hk => ⟨st.1, st.2.1.at fun o e => hk it (by simp) o e, st.2.2.at fun o e => hk a (by simp [fp]) o e⟩
      item := fun j s Q E hj st _ => absurd st.1 (Nat.ne_of_lt hj)
      done := fun s Q E st hE => wpAny_nextOf_tuple_end hh st.2.1 st.2.2 en hE }
  | s z =>
    obtain ⟨t, st⟩ := st
    have g : z.cps.size ≤ i := g
    have en : z.cps[i]? = Option.none := by simp; omega
    refine ⟨fun _ _ => True, fun j h => j = i ∧ h.IsStrIter it (strIterType z) z t i, ?_, rfl, st⟩
    exact {
      live := fun _ _ st => let ⟨o, ho, _⟩ := st.2; ⟨o, ho⟩
      frame := fun _ _ _ st hk => ⟨st.1, let ⟨o, ho, r⟩ := st.2; ⟨o, hk it (by simp) o ho, r⟩⟩
      item := fun j s Q E hj st _ => absurd st.1 (Nat.ne_of_lt hj)
      done := fun s Q E st hE => by
        obtain ⟨_, st⟩ := st
        cases ha : z.cps.all (· < 128)
        · simp only [strIterType, ha, Bool.false_eq_true, if_false] at st
          exact wpAny_nextOf_wide_end hh st en hE
        · simp only [strIterType, ha, if_true] at st
          exact wpAny_nextOf_ascii_end hh st en hE }
theorem frame {S : Src} {it : Addr} {i : Nat} {h h' : Heap} (st : S.tn it i h) (k : ∀ o, h.get? it = some o → h'.get? it = some o) : S.tn it i h' := by
  cases S with
  | l a => exact ⟨st.1.at k, st.2⟩
  | t a => exact ⟨st.1.at k, st.2⟩
  | s z => obtain ⟨t, o, ho, r⟩ := st; exact ⟨t, o, k o ho, r⟩
theorem obj {S : Src} {it : Addr} {i : Nat} {h : Heap} (st : S.tn it i h) : ∃ o, h.get? it = some o ∧ ∀ v, o.data ≠ .cell v := by
  cases S with
  | l a => obtain ⟨⟨o, e, _, d⟩, _⟩ := st; exact ⟨o, e, fun v q => by rw [d] at q; cases q⟩
  | t a => obtain ⟨⟨o, e, _, d⟩, _⟩ := st; exact ⟨o, e, fun v q => by rw [d] at q; cases q⟩
  | s z => obtain ⟨t, o, e, _, d⟩ := st; exact ⟨o, e, fun v q => by rw [d] at q; cases q⟩
/-- iter(..) of it -/
theorem begins {X : Cx} {pins : List (Addr × Obj)} {σ : L2.St} {H : Hp} {s : Shared} {S : Src} {u : Value} (I : Inv X pins σ H s) (g : S.Ok X.K H) (r : RelV S.v u) :
    ∃ o Hb, Begins u o Hb ∧ Hb s.heap ∧ (∀ b ∈ S.fp, b < s.heap.objs.size) ∧ ∀ h' it, s.heap.objs.size ≤ it → h'.get? it = some o → S.tn it 0 h' := by
  cases S with
  | l a =>
    obtain ⟨xs, q⟩ := g
    obtain ⟨its, rv, p, hz⟩ := I.list q
    cases r
    have hl := p.lt
    refine ⟨_, _, begins_list a its.toArray, p.isList, fun b hb => by rw [show b = a by simpa [fp] using hb]; exact hl, fun h' it hi e => ⟨⟨_, e, rfl, rfl⟩, fun z => by subst z; exact absurd hl (Nat.not_lt.mpr hi)⟩⟩
  | t a =>
    obtain ⟨xs, q⟩ := g
    obtain ⟨its, rv, p, hz⟩ := I.tuple q
    have hp : s.heap.IsTuple a its.toArray := p
    cases r
    have hl : a < s.heap.objs.size := by obtain ⟨o, ho, _⟩ := id hp; exact Heap.lt_size ho
    refine ⟨_, _, begins_tuple a its.toArray, hp, fun b hb => by rw [show b = a by simpa [fp] using hb]; exact hl, fun h' it hi e => ⟨⟨_, e, rfl, rfl⟩, fun z => by subst z; exact absurd hl (Nat.not_lt.mpr hi)⟩⟩
  | s z =>
    obtain ⟨t, rfl⟩ := r
    exact ⟨_, _, begins_text z t, trivial, (fun b hb => by cases hb), fun h' it hi e => ⟨t, _, e, rfl, rfl⟩⟩
end Src
/-- two sources, their items in new pairs -/
def Itz2 (K : PySem.W.Frag) (S1 S2 : Src) : It :=
  ⟨fun i H => ∃ x y, S1.G K H i x ∧ S2.G K H i y,
    fun i H v H' => ∃ T x y, v = .ref T ∧ H T = none ∧ H' = upd H T (.tup [x, y]) ∧ S1.G K H i x ∧ S2.G K H i y,
    fun i H => (S1.N K H i ∧ (S2.N K H i ∨ ∃ y, S2.G K H i y)) ∨ ((∃ x, S1.G K H i x) ∧ S2.N K H i)⟩
theorem turn_zip2 {P : Program} {w : World} {K : PySem.W.Frag} {elts : List Expr} {kk : Nat} {tpos : Pos} {S1 S2 : Src} {z TI TO i1 i2 : Addr} (D : ZipSep2 z TI TO i1 i2 (i1 :: S1.fp) (i2 :: S2.fp)) :
    Turn P w K (.Tuple elts kk tpos) (Itz2 K S1 S2) [z, TI, TO, i1, i2] z (fun i h => IsZip h z TI TO .none ∧ IsTupOf2 h TI (.ref i1) (.ref i2) ∧ (∃ x y, IsTupOf2 h TO x y) ∧ S1.tn i1 i h ∧ S2.tn i2 i h) where
  mem := by simp
  obj := fun i h st c hc => by
    obtain ⟨hz, hTI, ⟨x, y, hTO⟩, h1, h2⟩ := st
    have e' : c = z ∨ c = TI ∨ c = TO ∨ c = i1 ∨ c = i2 := by simpa using hc
    rcases e' with q | q | q | q | q
    · rw [q]; exact ⟨_, hz, fun v q => nomatch q⟩
    · rw [q]; exact ⟨_, hTI, fun v q => nomatch q⟩
    · rw [q]; exact ⟨_, hTO, fun v q => nomatch q⟩
    · rw [q]; exact Src.obj h1
    · rw [q]; exact Src.obj h2
  keep := fun i h h' st k => by
    obtain ⟨hz, hTI, ⟨x, y, hTO⟩, h1, h2⟩ := st
    exact ⟨k z (by simp) _ hz, k TI (by simp) _ hTI, ⟨x, y, k TO (by simp) _ hTO⟩, Src.frame h1 fun o q => k i1 (by simp) o q, Src.frame h2 fun o q => k i2 (by simp) o q⟩
  item := by
    intro X hP hw hK hc i pins s σ H E I hf st hg
    subst hP hw hK
    obtain ⟨hz, hTI, ⟨x0, y0, hTO⟩, h1, h2⟩ := st
    obtain ⟨x, y, g1, g2⟩ := hg
    have hh : X.A.in1.handled = none := I.ok.hd hc
    obtain ⟨n1, P1, St1, D1, st1, l1, r1, k1⟩ := Src.item hh I g1 h1
    obtain ⟨n2, P2, St2, D2, st2, l2, r2, k2⟩ := Src.item hh I g2 h2
    have hzl : z < s.heap.objs.size := Heap.lt_size hz
    refine wpAny_pyNext_zipD2_item D D1 D2 hz hTI hTO st1 st2 l1 l2 fun u u2 h' tk p1 p2 z' TO' h1' h2' hT hsz hk => ?_
    refine ⟨_, rfl, wpAny_letOwnedTupleGo_zip (s := { s with heap := h', toks := tk }) z' fun h'' z'' sb => ?_⟩
    have hT2 : h''.get? s.heap.objs.size = some { cls := .type "tuple", data := .seq #[u, u2] } := (sb.2 _ (Nat.ne_of_gt hzl)).trans hT
    have new : ObjOk X.prog X.w (upd H s.heap.objs.size (.tup [x, y])) h'' s.heap.objs.size (.tup [x, y]) :=
      ⟨by show 2 ≤ sizeLine; decide, [u, u2], .cons (r1 u p1) (.cons (r2 u2 p2) .nil), ⟨_, hT2, rfl, _, rfl⟩⟩
    have I1 : Inv X pins σ (upd H s.heap.objs.size (.tup [x, y])) { s with heap := h'', toks := tk } :=
      I.turnedNew (ch := [z, TI, TO, i1, i2]) (fun c o hb q => (sb.2 c (fun q' => hb (by simp [q']))).trans (hk c o (fun q' => hb (by simp [q'])) (fun q' => hb (by simp [q'])) (fun q' => hb (by simp [q'])) (fun q' => hb (by simp [q'])) q)) hf (Nat.le_refl _) new
    refine ⟨.ref s.heap.objs.size, _, I1, rfl, ⟨_, x, y, rfl, I.hok.fresh (Nat.le_refl _), rfl, g1, g2⟩, ⟨z'', ?_, ⟨u, u2, ?_⟩, ?_, ?_⟩, fun c hcm => ?_⟩
    · exact (sb.2 _ D.TIz).trans (hk _ _ D.TIz D.TITO D.TIi1 D.TIi2 hTI)
    · exact (sb.2 _ D.TOz).trans TO'
    · exact Src.frame (k1 _ h1') fun o q => (sb.2 _ D.zi1.symm).trans q
    · exact Src.frame (k2 _ h2') fun o q => (sb.2 _ D.zi2.symm).trans q
    · have hlt : c < s.heap.objs.size := by
        have e' : c = z ∨ c = TI ∨ c = TO ∨ c = i1 ∨ c = i2 := by simpa using hcm
        rcases e' with q | q | q | q | q
        · rw [q]; exact hzl
        · rw [q]; exact Heap.lt_size hTI
        · rw [q]; exact Heap.lt_size hTO
        · rw [q]; obtain ⟨_, e1, _⟩ := Src.obj h1; exact Heap.lt_size e1
        · rw [q]; obtain ⟨_, e2, _⟩ := Src.obj h2; exact Heap.lt_size e2
      rw [upd_ne (Nat.ne_of_lt hlt)]
      exact (hf c hcm).1
  done := by
    intro X hP hw hK hc i pins s σ H E I hf st hg
    subst hP hw hK
    obtain ⟨hz, hTI, ⟨x0, y0, hTO⟩, h1, h2⟩ := st
    have hh : X.A.in1.handled = none := I.ok.hd hc
    have fin : ∀ {n1 n2 P1 P2 St1 St2}, Draws X.prog X.w X.A.in1 i1 (i1 :: S1.fp) n1 P1 St1 → Draws X.prog X.w X.A.in1 i2 (i2 :: S2.fp) n2 P2 St2 → St1 i s.heap → St2 i s.heap → i ≤ n1 → i ≤ n2 → (i = n1 ∨ i = n2) → wpAny (model X.prog X.w) X.A (pyNext (.ref z)) (fun r s1 => r = none ∧ Inv X pins σ H s1) E s :=
      fun D1 D2 st1 st2 l1 l2 he => wpAny_pyNext_zipD2_end D D1 D2 hz hTI hTO st1 st2 l1 l2 he fun h' tk hk => ⟨rfl, I.turnedL (t' := tk) (ch := [z, TI, TO, i1, i2]) (fun c o hb q =>
        hk c o (fun q' => hb (by simp [q'])) (fun q' => hb (by simp [q'])) (fun q' => hb (by simp [q'])) (fun q' => hb (by simp [q'])) q) hf⟩
    rcases hg with ⟨g1, g2 | ⟨y, g2⟩⟩ | ⟨⟨x, g1⟩, g2⟩
    · obtain ⟨P1, St1, D1, st1⟩ := Src.none hh I g1 h1
      obtain ⟨P2, St2, D2, st2⟩ := Src.none hh I g2 h2
      exact fin D1 D2 st1 st2 (Nat.le_refl _) (Nat.le_refl _) (.inl rfl)
    · obtain ⟨P1, St1, D1, st1⟩ := Src.none hh I g1 h1
      obtain ⟨n2, P2, St2, D2, st2, l2, _⟩ := Src.item hh I g2 h2
      exact fin D1 D2 st1 st2 (Nat.le_refl _) (Nat.le_of_lt l2) (.inl rfl)
    · obtain ⟨n1, P1, St1, D1, st1, l1, _⟩ := Src.item hh I g1 h1
      obtain ⟨P2, St2, D2, st2⟩ := Src.none hh I g2 h2
      exact fin D1 D2 st1 st2 (Nat.le_of_lt l1) (Nat.le_refl _) (.inr rfl)
  self := fun A i s Q E st h => wpAny_pyIter_zip st.1 h
def iZip2 (K : PySem.W.Frag) (ta : TA) : TI := fun σ H R => ta σ H fun vs H1 => ∃ S1 S2 : Src, vs = [S1.v, S2.v] ∧ S1.Ok K H1 ∧ S2.Ok K H1 ∧ R (Itz2 K S1 S2) H1
theorem pi_zip2 {X : Cx} {e e2 : Expr} {ta : TA} {p pos tpos : Pos} {elts : List Expr} {kk : Nat} (hg : Gl X "zip") (hm : X.mg "zip" = none) (ha : PA X [e, e2] ta)
    (hs : starEach [e, e2] X.env = (false, eval e X.env) :: starEach [e2] X.env := by rfl) (hpl : (backTo pos (starEach [e2] X.env)).any (·.1) = false := by rfl) :
    PI X (.Tuple elts kk tpos) (.Call (.Name "zip" p) [e, e2] [] pos) (iZip2 X.K ta) := by
  refine ⟨fun pins s σ H R I h => ?_⟩
  refine Call_ (ld_blt I hg hm PyProof.Rows.boot_zip (PyProof.Rows.callWith_type1 (thn (ha.run pos pins s σ H _ I h) fun us s1 ⟨vs, H1, I1, r1, q1⟩ => ?_) hs hpl))
  obtain ⟨S1, S2, ex, o1, o2, q⟩ := q1
  subst ex
  cases r1 with
  | cons r rr =>
    cases rr with
    | cons r' rr =>
      cases rr
      obtain ⟨ob1, Hb1, B1, hb1, f1, t1⟩ := Src.begins I1 o1 r
      obtain ⟨ob2, Hb2, B2, hb2, f2, t2⟩ := Src.begins I1 o2 r'
      refine zip_begins2 B1 B2 hb1 hb2 fun h' hz hTI hTO g1 g2 hsz hk => wpAny_pyIter_zip hz ?_
      have I2 : Inv X pins σ H1 { s1 with heap := h' } := I1.kept (t' := s1.toks) hk
      refine ⟨s1.heap.objs.size + 4, [s1.heap.objs.size + 4, s1.heap.objs.size + 2, s1.heap.objs.size + 3, s1.heap.objs.size, s1.heap.objs.size + 1], _, _, H1, rfl, I2, turn_zip2 (zip_sep2 f1 f2), ⟨hz, hTI, ⟨_, _, hTO⟩, t1 _ _ (Nat.le_refl _) g1, t2 _ _ (Nat.le_succ _) g2⟩, fun c hcm => ?_, q⟩
      have e' : c = s1.heap.objs.size + 4 ∨ c = s1.heap.objs.size + 2 ∨ c = s1.heap.objs.size + 3 ∨ c = s1.heap.objs.size ∨ c = s1.heap.objs.size + 1 := by simpa using hcm
      have hle : s1.heap.objs.size ≤ c := by
        rcases e' with z | z | z | z | z
        · rw [z]; exact Nat.le_add_right _ _
        · rw [z]; exact Nat.le_add_right _ _
        · rw [z]; exact Nat.le_add_right _ _
        · rw [z]; exact Nat.le_refl _
        · rw [z]; exact Nat.le_add_right _ _
      exact I1.fpOk hle (I1.hok.fresh hle)
end Px
namespace Px
open PySem PySem.Spec PyProof.Rows L2 RT
end Px
namespace Px
open PySem PySem.Spec PyProof.Rows L2
def seqZ : PV → Option (List PV)
  | .lst xs => some xs
  | .tup xs => some xs
  | .str z => some (sgnsP z)
  | _ => none
def zipP : List PV → List PV → List PV
  | x :: xs, y :: ys => .tup [x, y] :: zipP xs ys
  | _, _ => []
theorem zipP_get : ∀ {i : Nat} {xs ys : List PV} {p : PV}, (zipP xs ys)[i]? = some p → ∃ x y, xs[i]? = some x ∧ ys[i]? = some y ∧ p = .tup [x, y]
  | i, [], ys, p, h => by cases i <;> cases h
  | i, x :: xs, [], p, h => by cases i <;> cases h
  | 0, x :: xs, y :: ys, p, h => by
    have h : some (PV.tup [x, y]) = some p := h
    cases h
    exact ⟨x, y, rfl, rfl, rfl⟩
  | i + 1, x :: xs, y :: ys, p, h => zipP_get (i := i) (xs := xs) (ys := ys) h
theorem zipP_len : ∀ (xs ys : List PV), (zipP xs ys).length = min xs.length ys.length
  | [], ys => by show 0 = _; simp
  | x :: xs, [] => by show 0 = _; simp
  | x :: xs, y :: ys => by
    show (zipP xs ys).length + 1 = _
    rw [zipP_len xs ys, List.length_cons, List.length_cons]
    omega
/-- a source that holds xs -/
def SrcR (K : Frg) (B : BX) (G : Hp) (S : Src) (xs : List PV) : Prop := match S with
  | .l a => ∃ vs, SqL K G a vs ∧ Reps K B G xs vs
  | .t a => ∃ vs, SqT K G a vs ∧ Reps K B G xs vs
  | .s z => xs = sgnsP z
theorem SrcR.get {K : Frg} {B : BX} {G0 G H : Hp} {μ : Mu} {S : Src} {xs : List PV} (r : SrcR K B G0 S xs) (s : Sub G0 G) (o : Ok K B μ G H) {i : Nat} {x : PV} (e : xs[i]? = some x) : ∃ v, S.G K H i v ∧ Rep K B G x v := by
  cases S with
  | l a =>
    obtain ⟨vs, sq, rs⟩ := r
    obtain ⟨u, e2, ru⟩ := rs.get e
    exact ⟨u, ⟨vs, o.sub.l (s.l sq), e2⟩, ru.mono s⟩
  | t a =>
    obtain ⟨vs, sq, rs⟩ := r
    obtain ⟨u, e2, ru⟩ := rs.get e
    exact ⟨u, ⟨vs, o.sub.t (s.t sq), e2⟩, ru.mono s⟩
  | s z =>
    have r : xs = sgnsP z := r
    subst r
    unfold sgnsP at e
    rw [List.getElem?_map, Array.getElem?_toList] at e
    cases hc : z.cps[i]? with
    | none => rw [hc] at e; cases e
    | some c =>
      rw [hc] at e
      cases e
      exact ⟨_, ⟨c, hc, rfl⟩, rep_str _⟩
theorem SrcR.inj {K : Frg} {B : BX} {G0 G H : Hp} {μ : Mu} {S : Src} {xs : List PV} (r : SrcR K B G0 S xs) (s : Sub G0 G) (o : Ok K B μ G H) {i : Nat} {x : PV} {v : V} (e : xs[i]? = some x) (g : S.G K H i v) (hi : ∀ a vs ws, SqL K H a vs → SqL K H a ws → vs = ws) (hi2 : ∀ a vs ws, SqT K H a vs → SqT K H a ws → vs = ws) : Rep K B G x v := by
  cases S with
  | l a =>
    obtain ⟨vs, sq, rs⟩ := r
    obtain ⟨u, e2, ru⟩ := rs.get e
    obtain ⟨ws, q, e3⟩ := g
    rw [hi a _ _ q (o.sub.l (s.l sq)), e2] at e3
    cases e3
    exact ru.mono s
  | t a =>
    obtain ⟨vs, sq, rs⟩ := r
    obtain ⟨u, e2, ru⟩ := rs.get e
    obtain ⟨ws, q, e3⟩ := g
    rw [hi2 a _ _ q (o.sub.t (s.t sq)), e2] at e3
    cases e3
    exact ru.mono s
  | s z =>
    have r : xs = sgnsP z := r
    subst r
    obtain ⟨c, hc, rfl⟩ := g
    unfold sgnsP at e
    rw [List.getElem?_map, Array.getElem?_toList, hc] at e
    cases e
    exact rep_str _
end Px
namespace Px
open PySem PySem.Spec PyProof.Rows L2
/-- an expression whose value is a new generator -/
structure ZG where
  n : Nat
  m : Rt → Bool
  ct : Rt → Ct
  ds : Rt → DA
  ck : Cc → Expr → Bool
  ok : ∀ {k : Nat} {R : Rt} {X : Cx} {W : WX} {c : Cc} {e : Expr}, ck c e = true → c.cm = true → Good k R X W c → PGn X k n (m R) e (tA X.K W (ds R)) (spP X.K (ct R))
def ZG.d (z : ZG) (R : Rt) : DI := iGen (z.m R) z.n (z.ct R) (z.ds R)
end Px
namespace Px
open PySem PySem.Spec PyProof.Rows L2
end Px
namespace Px
open PySem PySem.Spec PyProof.Rows L2
end Px
namespace Px
open PySem PySem.Spec PyProof.Rows L2
structure GoodG (k : Nat) (R : Rt) (Γ : GP) (c : Cc) : Prop where
  good : ∀ d : WD, Γ.L ≤ d.s.heap.objs.size → GoodS k R (Γ.X d) Wno c
  nc : Γ.env.cells = []
  co : Γ.scope.isCoroutine = false
  kind : Γ.scope.kind = .function
  cm : c.cm = true
structure ZYs where
  d : Rt → List Addr → DG
  ck : Cc → List Stmt → Bool
  ok : ∀ {k : Nat} {R : Rt} {Γ : GP} {c : Cc} {e : List Stmt}, ck c e = true → GoodG k R Γ c → GnJ Γ e (d R Γ.ks)
section
variable {S : Stt} {w : World} {K : Frg} {mg : Str → Option Value} {base : Heap} {nm qual : Str} {params : Arguments} {body : List Stmt} {scope : Scope} {dvs : List V} {kws : List (Str × V)} {f : Addr} {fd : FuncData} {N ps : List Str} {k : Nat} {b : ZYs} {L LH : Tbl} {Q : Qt} {c : Ct}
theorem GnW.imp {P : Program} {n : Nat} {kn : List Str} {c c' : Ct} (F : GnW P w K mg base k f n kn c) (i : ∀ as μ q x, c' as μ q x → c as μ q x) : GnW P w K mg base k f n kn c' := fun A outer s H us ws vs B μ G as q z h1 h2 h3 h4 h5 h6 h7 h8 h => F A outer s H us ws vs B μ G as q z h1 h2 h3 h4 h5 h6 h7 h8 (i _ _ _ _ h)
theorem GnW.up {P : Program} {n : Nat} {kn : List Str} {k2 : Nat} (F : GnW P w K mg base k f n kn c) (h : k ≤ k2) : GnW P w K mg base k2 f n kn c := fun A outer s H us ws vs B μ G as q z h1 h2 h3 h4 h5 h6 h7 h8 hc => by
  refine codeAny_mono (F A outer s H us ws vs B μ G as q z h1 (h2.mono h) h3 h4 h5 h6 h7 h8 hc) fun r s1 ⟨a, g, L, oa, gs, ys, ks, e, hq, N⟩ => ⟨a, g, L, oa, gs, ys, ks, e, hq, ?_⟩
  exact ⟨N.L1, N.L2, N.a2, N.ge, N.isg, N.noc, N.gen, N.fresh, N.os, N.bare, N.keep, N.own, N.bsz, fun A h1 h2 h3 => N.wake A h1 (h2.mono h) h3⟩
end
end Px
namespace Px
open PySem PySem.Spec PyProof.Rows L2
end Px
namespace Px
open PySem PySem.Spec PyProof.Rows L2
end Px
namespace Px
open PySem PySem.Spec PyProof.Rows L2
end Px
namespace Px
open PySem PySem.Spec PyProof.Rows L2
end Px
namespace Px
open PySem PySem.Spec PyProof.Rows L2
end Px
namespace Px
open PySem PySem.Spec PyProof.Rows L2
end Px
namespace PySem.W
open PySem PySem.Calls PyProof.Rows PyProof.V PySem.Spec
end PySem.W
namespace Px
open PySem PySem.Spec PyProof.Rows L2
end Px
namespace Px
open PySem PySem.Spec PyProof.Rows L2
mutual
inductive DtP : PV → PyData → Prop
  | non : DtP .non .none
  | bl (b : Bool) : DtP (.bl b) (.bool b)
  | int (i : Int) : DtP (.int i) (.int i)
  | str (z : Str) : DtP (.str z) (.str z)
  | lst {xs : List PV} {ds : List PyData} : DtPs xs ds → DtP (.lst xs) (.list ds)
  | tup {xs : List PV} {ds : List PyData} : DtPs xs ds → DtP (.tup xs) (.tuple ds)
inductive DtPs : List PV → List PyData → Prop
  | nil : DtPs [] []
  | cons {p : PV} {ps : List PV} {d : PyData} {ds : List PyData} : DtP p d → DtPs ps ds → DtPs (p :: ps) (d :: ds)
end
section
variable {K : Frg} {B : BX} {G H : Hp}
mutual
theorem DtP.dp (sub : Sub G H) : ∀ {p : PV} {d : PyData} {v : V}, DtP p d → Rep K B G p v → Dp K H v d
  | _, _, _, .non, r => by rw [r.non_inv]; exact .non
  | _, _, _, .bl b, r => by rw [r.bl_inv]; exact .bl b
  | _, _, _, .int i, r => by rw [r.int_inv]; exact .int i
  | _, _, _, .str z, r => by rw [r.str_inv]; exact .str z
  | _, _, _, .lst h, r => by
    obtain ⟨a, vs, rfl, g, rs⟩ := r.lst_inv
    exact .lst (.inl (.inl (sub _ _ g))) (DtPs.dps sub h rs)
  | _, _, _, .tup h, r => by
    obtain ⟨a, vs, rfl, g, rs⟩ := r.tup_inv
    exact .tup (sub.t g) (DtPs.dps sub h rs)
theorem DtPs.dps (sub : Sub G H) : ∀ {ps : List PV} {ds : List PyData} {vs : List V}, DtPs ps ds → Reps K B G ps vs → DpAll K H vs ds
  | _, _, _, .nil, r => by rw [r.nil_inv]; exact .nil
  | _, _, _, .cons h hs, r => by
    obtain ⟨v, ws, rfl, r1, r2⟩ := r.cons_inv
    exact .cons (DtP.dp sub h r1) (DtPs.dps sub hs r2)
end
end
end Px
namespace Px
open PySem PySem.Spec PyProof.Rows L2
def bandsI (n : Int) : List Int := ([0, 1, 2, 3, 4, 5] : List Int).filter fun k => decide ((n / 2 ^ k.toNat) % 2 = 1)
/-- the light of a number -/
def lt (n : Int) : PV := .obj .Light [.int n, .tup ((bandsI n).map .int)]
theorem all64 {p : Int → Bool} (h : ((List.range 64).all fun k => p (k : Int)) = true) {n : Int} (h0 : 0 ≤ n) (h1 : n < 64) : p n = true := by
  obtain ⟨k, rfl⟩ := Int.eq_ofNat_of_zero_le h0
  exact List.all_eq_true.mp h k (List.mem_range.mpr (by omega))
abbrev R6 (n : Int) : Prop := 0 ≤ n ∧ n < 64
def one (mask : PV) (side : Bool) (when_ : Str) (off on : Int) (kind : Str) : PV := .tup [mask, .bl side, .str when_, .int off, .int on, .str kind]
def WhenOk (cond : Bool) (z : Str) : Prop := z = "any" ∨ (cond = true ∧ (z = "bare" ∨ z = "inked"))
def KindOk (off on : Int) (kind : Str) : Prop := R6 off ∧ R6 on ∧ ((kind = "filter" ∧ on = 0) ∨ (kind = "bleach" ∧ off = 0) ∨ (kind = "opaque" ∧ off = 63 - on) ∨ (kind = "ink" ∧ Builtin.bitAnd off on = 0))
def MaskOk (ns : List PV) (sided : Bool) (mask : PV) (side : Bool) : Prop := (mask = .non ∧ side = false) ∨ (mask ∈ ns ∧ (side = true → sided = true))
theorem and0 {m : Int} (hm : R6 m) : Builtin.bitAnd m 0 = 0 ∧ Builtin.bitAnd 0 m = 0 ∧ Builtin.bitAnd (63 - m) m = 0 ∧ Builtin.bitAnd m (63 - m) = 0 := of_decide_eq_true (all64 (p := fun m => decide (Builtin.bitAnd m 0 = 0 ∧ Builtin.bitAnd 0 m = 0 ∧ Builtin.bitAnd (63 - m) m = 0 ∧ Builtin.bitAnd m (63 - m) = 0)) (by decide +kernel) hm.1 hm.2)
theorem KindOk.and (h : KindOk off on kind) : Builtin.bitAnd off on = 0 := by
  obtain ⟨h1, h2, ⟨_, rfl⟩ | ⟨_, rfl⟩ | ⟨_, rfl⟩ | ⟨_, h⟩⟩ := h
  · exact (and0 h1).1
  · exact (and0 h2).2.1
  · exact (and0 h2).2.2.1
  · exact h
def inkCl (kind : Str) : Cl := if kind = "filter" then .Filter else if kind = "bleach" then .Bleach else if kind = "opaque" then .Opaque else .Ink
def inkOf (kind when_ : Str) (off on : Int) : PV := .obj (inkCl kind) [lt off, lt on, .str when_]
/-- the pass of a one -/
structure One where
  mask : PV
  side : Bool
  when_ : Str
  off : Int
  on : Int
  kind : Str
def One.pv (o : One) : PV := one o.mask o.side o.when_ o.off o.on o.kind
def inkC (c : Cl) : Bool := decide (c = .Ink) || (decide (c = .Filter) || (decide (c = .Opaque) || decide (c = .Bleach)))
end Px
namespace Px
open PySem PySem.Spec PyProof.Rows L2
def bt (n : Int) (i : Nat) : Bool := n.toNat.testBit i
structure Eff where
  off : Int
  on : Int
  mkd : Bool
  deriving DecidableEq
def Eff.pv (e : Eff) : PV := .tup [lt e.off, lt e.on, .bl e.mkd]
def Eff.ok (e : Eff) : Prop := R6 e.off ∧ R6 e.on
def filmV (b i : Eff) : PV := .obj .Film [b.pv, i.pv]
def e0 : Eff := ⟨0, 0, false⟩
def e1 : Eff := ⟨0, 0, true⟩
/-- what a film is made of -/
structure Fm where
  b : Eff
  i : Eff
  deriving DecidableEq
def Fm.pv (f : Fm) : PV := filmV f.b f.i
def Fm.ok (f : Fm) : Prop := f.b.ok ∧ f.i.ok
def fOf (when_ : Str) (off on : Int) : Fm := if when_ = "bare" then ⟨⟨off, on, true⟩, e1⟩ else if when_ = "inked" then ⟨e0, ⟨off, on, true⟩⟩ else ⟨⟨off, on, true⟩, ⟨off, on, true⟩⟩
theorem fOf_ok {when_ : Str} {off on : Int} (h1 : R6 off) (h2 : R6 on) : (fOf when_ off on).ok := by
  have z : R6 0 := by decide
  unfold fOf
  split
  · exact ⟨⟨h1, h2⟩, z, z⟩
  · split
    · exact ⟨⟨z, z⟩, h1, h2⟩
    · exact ⟨⟨h1, h2⟩, h1, h2⟩
/-- an inked start stays inked -/
def Fm.wet (f : Fm) : Prop := f.i.mkd = true
theorem fOf_wet (w : Str) (off on : Int) : (fOf w off on).wet := by unfold fOf Fm.wet; split; rfl; split <;> rfl
def Eff.dj (e : Eff) : Prop := Builtin.bitAnd e.off e.on = 0
def Fm.dj (f : Fm) : Prop := f.b.dj ∧ f.i.dj
theorem fOf_dj {w : Str} {off on : Int} (h : Builtin.bitAnd off on = 0) : (fOf w off on).dj := by
  have z : Builtin.bitAnd 0 0 = (0 : Int) := by decide +kernel
  unfold fOf
  split
  · exact ⟨h, z⟩
  · split
    · exact ⟨z, h⟩
    · exact ⟨h, h⟩
end Px
namespace Px
open PySem PySem.Spec PyProof.Rows L2
theorem cEq_inv {c : Cl} {f : Qf} {as : List PV} {μ : Mu} {q : QV} {x : QX} (h : cEq c f as μ q x) : ∃ xs b k, as = [.obj c xs, b] ∧ f xs b = some k ∧ q (.bl k) μ := by
  unfold cEq at h
  split at h
  · rename_i d xs b
    split at h
    · rename_i e _
      subst e
      split at h
      · rename_i k e
        exact ⟨xs, b, k, rfl, e, h⟩
      · exact h.elim
    · exact h.elim
  · exact h.elim
theorem cEq_len {c : Cl} {f : Qf} : ∀ as μ q z, cEq c f as μ q z → as.length = 2 := fun as μ q z h => by
  obtain ⟨xs, b, k, rfl, _⟩ := cEq_inv h
  rfl
/-- something that is no instance of the class -/
def othB (c : Cl) (b : PV) : Bool := match b with
  | .int _ | .str _ | .bl _ | .non | .tup _ | .lst _ => true
  | .obj d _ => !subCl d c
  | _ => false
def othQ (c : Cl) (b : PV) : Option Bool := match othB c b with
  | true => some false
  | false => none
theorem othQ_inv {c : Cl} {b : PV} {k : Bool} (h : othQ c b = some k) : othB c b = true ∧ k = false := by
  unfold othQ at h
  split at h
  · rename_i e; cases h; exact ⟨e, rfl⟩
  · cases h
theorem oth_isi {c : Cl} {b : PV} {μ : Mu} (h : othB c b = true) : isiP μ b (.cls c) = some false := by
  cases b <;> first | rfl | cases h | skip
  rename_i d ys
  have h : subCl d c = false := by simpa [othB] using h
  show some (subCl d c) = some false
  rw [h]
end Px
namespace Px
open PySem PySem.Spec PyProof.Rows L2
def One.fm (o : One) : Fm := fOf o.when_ o.off o.on
structure One.Ok (o : One) (cond : Bool) : Prop where
  w : WhenOk cond o.when_
  k : KindOk o.off o.on o.kind
theorem One.Ok.fok {o : One} {c : Bool} (h : o.Ok c) : o.fm.ok := fOf_ok h.k.1 h.k.2.1
theorem One.Ok.fdj {o : One} {c : Bool} (h : o.Ok c) : o.fm.dj := fOf_dj h.k.and
theorem One.fwet (o : One) : o.fm.wet := fOf_wet _ _ _
structure Fm.Gd (f : Fm) : Prop where
  ok : f.ok
  dj : f.dj
  wet : f.wet
theorem Fm.Gd.r {f : Fm} (h : f.Gd) : R6 f.b.off ∧ R6 f.b.on ∧ R6 f.i.off ∧ R6 f.i.on := ⟨h.ok.1.1, h.ok.1.2, h.ok.2.1, h.ok.2.2⟩
theorem One.Ok.gd {o : One} {c : Bool} (h : o.Ok c) : o.fm.Gd := ⟨h.fok, h.fdj, o.fwet⟩
end Px
namespace Px
open PySem PySem.Spec PyProof.Rows L2
theorem eqQ_of {Q : Qt} {μ : Mu} {a b : PV} {k : Bool} {q : QV} {x : QX} (h : deq Q 10 a b = some k) (hq : q (.bl k) μ) : eqQ Q false a b μ q x := by
  have h2 := deqT_of (μ := μ) h
  unfold eqQ
  split
  · rename_i k2 e
    rw [deqT_flat e] at h2
    have : k2 = k := by simpa [sgn] using h2
    subst this
    simpa [sgn] using hq
  · rw [deqL_eq, h2]
    exact hq
end Px
namespace Px
open PySem PySem.Spec PyProof.Rows L2
structure Inc where
  c : Cl
  off : Int
  on : Int
  z : Str
def Inc.pv (i : Inc) : PV := .obj i.c [lt i.off, lt i.on, .str i.z]
structure Inc.Ok (i : Inc) : Prop where
  c : inkC i.c = true
  off : R6 i.off
  on : R6 i.on
def Inc.fm (i : Inc) : Fm := fOf i.z i.off i.on
theorem Inc.Ok.fok {i : Inc} (h : i.Ok) : i.fm.ok := fOf_ok h.off h.on
end Px
namespace Px
open PySem PySem.Spec PyProof.Rows L2
theorem isLC_cell {μ : Mu} {a : Addr} {xs : List PV} (e : μ a = some (.lst xs)) : isLC μ (.cell a) = true := by
  show (match μ a with | some (.lst _) => true | _ => false) = _
  rw [e]
/-- a drawn one -/
structure One.Dr (o : One) (ns : List PV) (cond sided : Bool) : Prop where
  m : MaskOk ns sided o.mask o.side
  w : WhenOk cond o.when_
  k : KindOk o.off o.on o.kind
theorem One.Dr.ok {o : One} {ns : List PV} {c s : Bool} (h : o.Dr ns c s) : o.Ok c := ⟨h.w, h.k⟩
end Px
namespace Px
open PySem PySem.Spec PyProof.Rows L2
end Px
namespace Px
open PySem PySem.Spec PyProof.Rows L2
def ABC : Str := "abcdefghijklmnopqrstuvwxyz"
def letB (c : Nat) : Bool := decide (c ∈ ABC.cps.toList)
def nameB (z : Str) : Bool := decide (1 ≤ z.length) && (decide (z.length ≤ 6) && z.cps.toList.all letB)
def sg (c : Nat) : Str := ⟨#[c]⟩
theorem join_sg : ∀ cs : List Nat, Txt.join ("" : Str) (cs.map sg) = ⟨cs.toArray⟩ := fun cs => by
  rw [TL.join_eq]
  induction cs with
  | nil => rfl
  | cons c cs ih =>
    cases cs with
    | nil => rfl
    | cons d ds =>
      show sg c ++ ("" : Str) ++ Str.join "" ((d :: ds).map sg) = _
      rw [ih]
      have e : ∀ a b : Str, (⟨a.cps ++ b.cps⟩ : Str) = a ++ b := fun _ _ => rfl
      rw [← e, ← e]
      show (⟨(#[c] ++ ("" : Str).cps) ++ (d :: ds).toArray⟩ : Str) = _
      have e2 : (("" : Str).cps) = #[] := rfl
      rw [e2]
      simp
def passP (mask ink : PV) (around : Bool) : PV := .obj .Pass [mask, ink, .bl around]
/-- a mask as a pass may have it -/
def MaskP (mask : PV) (side : Bool) : Prop := (mask = .non ∧ side = false) ∨ ∃ z, mask = .str z ∧ nameB z = true
/-- what of a one a pass's == looks at -/
def One.key (o : One) : PV × Bool × Int × Int × Str := (o.mask, o.side, o.off, o.on, o.when_)
theorem deq_strs (Q : Qt) : ∀ (t : Nat) (xs ys : List Str), peqs (deq Q t) (xs.map .str) (ys.map .str) = some (decide (xs = ys))
  | t, [], [] => rfl
  | t, [], y :: ys => rfl
  | t, x :: xs, [] => rfl
  | t, x :: xs, y :: ys => by
    have ih := deq_strs Q t xs ys
    have e : deq Q t (.str x) (.str y) = some (decide (x = y)) := by cases t <;> rfl
    show andO (deq Q t (.str x) (.str y)) (peqs (deq Q t) (xs.map .str) (ys.map .str)) = _
    rw [ih, e]
    by_cases h1 : x = y <;> by_cases h2 : xs = ys <;> simp [h1, h2, andO]
theorem deq_lstr (Q : Qt) (xs ys : List Str) : deq Q 10 (.lst (xs.map .str)) (.lst (ys.map .str)) = some (decide (xs = ys)) := by
  show (match Nat.beq (xs.map PV.str).length (ys.map PV.str).length with
    | true => peqs (deq Q 9) (xs.map .str) (ys.map .str)
    | false => some false) = _
  rw [List.length_map, List.length_map]
  split
  · exact deq_strs Q 9 xs ys
  · rename_i e
    rw [decide_eq_false]
    intro z
    rw [z] at e
    rw [Nat.beq_refl] at e
    cases e
theorem MaskOk.p {ns : List Str} {sided : Bool} {mask : PV} {side : Bool} (hn : ∀ z ∈ ns, nameB z = true) (h : MaskOk (ns.map .str) sided mask side) : MaskP mask side := by
  rcases h with ⟨h1, h2⟩ | ⟨h1, _⟩
  · exact .inl ⟨h1, h2⟩
  · obtain ⟨z, hz, rfl⟩ := List.mem_map.mp h1
    exact .inr ⟨z, rfl, hn z hz⟩
theorem andO_some (a b : Bool) : andO (some a) (some b) = some (a && b) := by cases a <;> rfl
end Px
namespace Px
open PySem PySem.Spec PyProof.Rows L2
def fresh (l : List Str) (j : Nat) : Bool := decide (j = 0) || !decide (l[j - 1]? = l[j]?)
def f2 (l : List Str) (p : PV) : Bool := match p with
  | .int i => fresh l i.toNat
  | _ => false
def g2 (l : List Str) (p : PV) : PV := match p with
  | .int i => .str ((l[i.toNat]?).getD Str.empty)
  | _ => .non
end Px
namespace Px
open PySem PySem.Spec PyProof.Rows L2
/-- the pass of a one -/
def gP (p : PV) : PV := match p with
  | .tup [mask, .bl side, .str z, .int a, .int b, .str k] => passP mask (inkOf k z a b) side
  | _ => .non
/-- the first five of a one -/
def g5 (p : PV) : PV := match p with
  | .tup [a, b, c, d, e, _] => .tup [a, b, c, d, e]
  | _ => .non
end Px
namespace Px
open PySem PySem.Spec PyProof.Rows L2
/-- a comprehension over φ of a list, by functions -/
theorem lcA {α : Type} {t : Tg} {own : List Nat} {dt : DT} {de : DE} {ρ : En} {q : List PV → Mu → Prop} {μ : Mu} (φ : α → PV) (e : α → En) (f : α → Bool) (g : α → PV) (hE : ∀ (a : α) (k : En → Prop), k (e a) → setT t (φ a) (wipeE ρ own) k) :
    ∀ (l : List α) (acc : List PV), (∀ a ∈ l, ∀ k : Bool → Mu → Prop, k (f a) μ → dt (e a) μ k noX) → (∀ a ∈ l, f a = true → ∀ k : QV, k (g a) μ → de (e a) μ k noX) →
    q (acc ++ (l.filter f).map g) μ → Lk (lcD t own dt de ρ q (l.map φ) acc μ)
  | [], acc, _, _, h => lcD_n rfl (by simpa using h)
  | a :: l, acc, h1, h2, h => by
    have ih := fun acc => lcA (dt := dt) (de := de) (q := q) (μ := μ) φ e f g hE l acc (fun y hy => h1 y (List.mem_cons_of_mem _ hy)) (fun y hy => h2 y (List.mem_cons_of_mem _ hy))
    refine lcD_c rfl ?_
    refine hE a _ ?_
    refine h1 a List.mem_cons_self _ ?_
    cases z : f a with
    | false =>
      refine brF rfl ?_
      refine ih acc ?_
      rwa [List.filter_cons_of_neg (by rw [z]; decide)] at h
    | true =>
      refine brT rfl ?_
      refine h2 a List.mem_cons_self z _ ?_
      refine ih _ ?_
      rw [List.filter_cons_of_pos z, List.map_cons] at h
      simpa using h
theorem lcM {α : Type} {t : Tg} {own : List Nat} {de : DE} {ρ : En} {q : List PV → Mu → Prop} {μ : Mu} (φ : α → PV) (e : α → En) (g : α → PV) (hE : ∀ (a : α) (k : En → Prop), k (e a) → setT t (φ a) (wipeE ρ own) k)
    (l : List α) (acc : List PV) (h2 : ∀ a ∈ l, ∀ k : QV, k (g a) μ → de (e a) μ k noX) (h : q (acc ++ l.map g) μ) : Lk (lcD t own dYes de ρ q (l.map φ) acc μ) :=
  lcA φ e (fun _ => true) g hE l acc (fun a _ k h => h) (fun a ha _ k h => h2 a ha k h) (by rw [List.filter_eq_self.mpr fun _ _ => rfl]; exact h)
theorem lcM1 {α : Type} {i : Nat} {own : List Nat} {de : DE} {ρ : En} {q : List PV → Mu → Prop} {μ : Mu} (φ : α → PV) (g : α → PV) (l : List α) (acc : List PV)
    (h2 : ∀ a ∈ l, ∀ k : QV, k (g a) μ → de ((wipeE ρ own).set i (some (φ a))) μ k noX)
    (h : q (acc ++ l.map g) μ) : Lk (lcD (.one i) own dYes de ρ q (l.map φ) acc μ) := lcM (t := .one i) φ (fun a => (wipeE ρ own).set i (some (φ a))) g (fun _ _ hk => hk) l acc h2 h
/-- a comprehension whose items are any of P -/
theorem lcAny {α : Type} {t : Tg} {own : List Nat} {de : DE} {ρ : En} {q : List PV → Mu → Prop} {μ : Mu} (φ : α → PV) (P : α → Prop) (e : PV → En) :
    ∀ (ys : List PV) (acc : List α), (∀ y ∈ ys, ∀ k : En → Prop, k (e y) → setT t y (wipeE ρ own) k) → (∀ y ∈ ys, ∀ k : QV, (∀ a, P a → k (φ a) μ) → de (e y) μ k noX) →
    (∀ l : List α, l.length = ys.length → (∀ a ∈ l, P a) → q ((acc ++ l).map φ) μ) → Lk (lcD t own dYes de ρ q ys (acc.map φ) μ)
  | [], acc, _, _, h => lcD_n rfl (by have := h [] rfl (fun _ z => by cases z); simpa using this)
  | y :: ys, acc, h1, h2, h => by
    have ih := fun acc => lcAny (de := de) (q := q) (μ := μ) φ P e ys acc (fun y hy => h1 y (List.mem_cons_of_mem _ hy)) (fun y hy => h2 y (List.mem_cons_of_mem _ hy))
    refine lcD_c rfl ?_
    refine h1 y List.mem_cons_self _ ?_
    refine brT rfl ?_
    refine h2 y List.mem_cons_self _ fun a ha => ?_
    have ih := ih (acc ++ [a]) fun l hl hp => by
      have := h (a :: l) (by rw [List.length_cons, List.length_cons, hl]) fun b hb => (List.mem_cons.mp hb).elim (fun z => z ▸ ha) (hp b)
      simpa using this
    rw [List.map_append] at ih
    exact ih
theorem lcAny1 {α : Type} {i : Nat} {own : List Nat} {de : DE} {ρ : En} {q : List PV → Mu → Prop} {μ : Mu} (φ : α → PV) (P : α → Prop) (ys : List PV) (acc : List α)
    (h2 : ∀ y ∈ ys, ∀ k : QV, (∀ a, P a → k (φ a) μ) → de ((wipeE ρ own).set i (some y)) μ k noX)
    (h : ∀ l : List α, l.length = ys.length → (∀ a ∈ l, P a) → q ((acc ++ l).map φ) μ) : Lk (lcD (.one i) own dYes de ρ q ys (acc.map φ) μ) := lcAny (t := .one i) φ P (fun y => (wipeE ρ own).set i (some y)) ys acc (fun _ _ _ hk => hk) h2 h
end Px
namespace Px
open PySem PySem.Spec PyProof.Rows L2
end Px
namespace Px
open PySem PySem.Spec PyProof.Rows L2
end Px
namespace Px
open PySem PySem.Spec PyProof.Rows L2
def SG : Str := "#."
def sgB (c : Nat) : Bool := decide (c ∈ SG.cps.toList)
def lineB (n : Nat) (z : Str) : Bool := decide (1 ≤ z.length) && (decide (z.length ≤ 40) && (decide (z.length = n) && z.cps.toList.all sgB))
/-- the first bad line, from the i-th on -/
def badFrom (n : Nat) : Nat → List Str → Int
  | _, [] => -1
  | i, z :: zs => if lineB n z && decide (i < 40) then badFrom n (i + 1) zs else i
def wideL (ls : List Str) : Nat := match ls with
  | [] => 0
  | z :: _ => z.length
def badL (ls : List Str) : Int := match ls with
  | [] => 0
  | ls => badFrom (wideL ls) 0 ls
def shapeP (ls : List Str) : PV := .obj .Shape [.tup (ls.map .str), .int (wideL ls : Nat), .int (ls.length : Nat)]
theorem badFrom_le (n : Nat) : ∀ (i : Nat) (zs : List Str), badFrom n i zs = -1 ∨ (i : Int) ≤ badFrom n i zs
  | _, [] => .inl rfl
  | i, z :: zs => by
    unfold badFrom
    split
    · rcases badFrom_le n (i + 1) zs with h | h
      · exact .inl h
      · exact .inr (by omega)
    · exact .inr (Int.le_refl _)
theorem badL_le (ls : List Str) : badL ls = -1 ∨ 0 ≤ badL ls := by
  unfold badL
  split
  · exact .inr (by decide)
  · rcases badFrom_le (wideL ls) 0 ls with h | h
    · exact .inl h
    · exact .inr (by omega)
/-- good lines -/
structure GoodLn (ls : List Str) : Prop where
  ne : 1 ≤ ls.length
  le : ls.length ≤ 40
  w1 : 1 ≤ wideL ls
  w2 : wideL ls ≤ 40
  len : ∀ z ∈ ls, z.length = wideL ls
  sg : ∀ z ∈ ls, z.cps.toList.all sgB = true
theorem badFrom_good (n : Nat) : ∀ (i : Nat) (zs : List Str), badFrom n i zs = -1 → (∀ z ∈ zs, lineB n z = true) ∧ (zs = [] ∨ i + zs.length ≤ 40)
  | _, [], _ => ⟨fun _ h => (by cases h), .inl rfl⟩
  | i, z :: zs, h => by
    unfold badFrom at h
    split at h
    · rename_i e
      obtain ⟨e1, e2⟩ := He.ba e
      have e2 := of_decide_eq_true e2
      obtain ⟨h1, h2⟩ := badFrom_good n (i + 1) zs h
      refine ⟨fun y hy => (List.mem_cons.mp hy).elim (fun q => q ▸ e1) (h1 y), .inr ?_⟩
      rcases h2 with rfl | h2
      · rw [List.length_cons, List.length_nil]; omega
      · rw [List.length_cons]; omega
    · omega
theorem badL_good {ls : List Str} (h : badL ls = -1) : GoodLn ls := by
  cases ls with
  | nil => exact absurd h (by decide)
  | cons z zs =>
    obtain ⟨h1, h2⟩ := badFrom_good _ 0 (z :: zs) h
    have a := fun y hy => h1 y hy
    have lb : ∀ y ∈ z :: zs, 1 ≤ y.length ∧ y.length ≤ 40 ∧ y.length = wideL (z :: zs) ∧ y.cps.toList.all sgB = true := fun y hy => by
      have := h1 y hy
      unfold lineB at this
      simp only [Bool.and_eq_true, decide_eq_true_eq] at this
      exact this
    have l0 := lb z List.mem_cons_self
    refine ⟨by rw [List.length_cons]; omega, ?_, ?_, ?_, fun y hy => (lb y hy).2.2.1, fun y hy => (lb y hy).2.2.2⟩
    · rcases h2 with h2 | h2
      · cases h2
      · omega
    · show 1 ≤ z.length; exact l0.1
    · show z.length ≤ 40; exact l0.2.1
end Px
namespace Px
open PySem PySem.Spec PyProof.Rows L2
theorem sg_sum : ∀ cs : List Nat, ((cs.map sg).map (·.length)).sum = cs.length
  | [] => rfl
  | c :: cs => by
    rw [List.map_cons, List.map_cons, List.sum_cons, sg_sum cs, List.length_cons]
    show 1 + cs.length = cs.length + 1
    omega
theorem cps_len (cs : List Nat) : (⟨cs.toArray⟩ : Str).length = cs.length := by
  show cs.toArray.size = _
  simp
/-- a drawn sign -/
theorem sg_draw {r : Int} (r0 : 0 ≤ r) (r1 : r < 2) : ∃ c : Nat, atI (Str.ofString ".#").cps.toList r = some c ∧ sgB c = true := by
  have : r = 0 ∨ r = 1 := by omega
  rcases this with rfl | rfl
  · exact ⟨_, rfl, by decide +kernel⟩
  · exact ⟨_, rfl, by decide +kernel⟩
theorem rangeP_cons (lo : Int) (n : Nat) : rangeP lo (n + 1) = .int lo :: rangeP (lo + 1) n := by
  unfold rangeP
  rw [List.range_succ_eq_map, List.map_cons, List.map_map]
  congr 1
  · show PV.int (lo + 0) = _
    rw [Int.add_zero]
  · refine List.map_congr_left fun j _ => ?_
    show PV.int (lo + ((j + 1 : Nat) : Int)) = .int (lo + 1 + (j : Nat))
    congr 1
    omega
end Px
namespace Px
open PySem PySem.Spec PyProof.Rows L2
end Px
namespace Px
open PySem PySem.Spec PyProof.Rows L2
def t__law_lines_0 : ZB := bOne (sRet (zNew (zComp (.one 4) [4] (iRg1 (zVar 2)) tsNil (zJoin (zStr "") (zLst (zComp (.one 3) [3] (iRg1 (zVar 1)) tsNil (zIdx (zStr ".#") (zCall 48 (zCons (zVar 0) (zCons (zInt 2) zNil))))))))))
def c__law_lines : Ct := fun as μ q _ => match as with
  | [.box, .int w, .int h] => 0 ≤ w ∧ w ≤ 50 ∧ 0 ≤ h ∧ h ≤ 50 ∧ ∀ ls : List Str, (ls.length : Int) = h → (∀ z ∈ ls, (z.length : Int) = w ∧ z.cps.toList.all sgB = true) → ∀ a, μ a = none → q (.cell a) (μ.put a (.lst (ls.map .str)))
  | _ => False
theorem len__law_lines : ∀ as μ q z, c__law_lines as μ q z → as.length = 3 := fun as μ q z h => by
  unfold c__law_lines at h
  split at h <;> first | rfl | exact h.elim
def L__law_lines : Tbl := [(.g 48 [], cDraw)]
def H__law_lines : Tbl := []
def Q__law_lines : Qt := []
def R__law_lines : Rt := { L := L__law_lines, LH := H__law_lines, Q := Q__law_lines }
theorem pure__law_lines : ∀ as μ q z, c__law_lines as μ q z → t__law_lines_0.d R__law_lines (endsOf q z) (startE 5 as) μ := fun as μ q z h => by
  unfold c__law_lines at h
  split at h
  · rename_i w h0
    obtain ⟨w0, w1, h0', h1, h⟩ := h
    (conv => whnf); (repeat (first | (refine brT rfl ?_; (conv => whnf)) | (refine brF rfl ?_; (conv => whnf)) | (refine And.intro rfl ?_; (conv => whnf)) | (refine And.intro (Nat.le_of_ble_eq_true rfl) ?_; (conv => whnf)) | (refine And.intro (by assumption) ?_; (conv => whnf)) | (refine And.intro (by decide) ?_; (conv => whnf)) | (refine br_nself ?_; (conv => whnf)) | (refine br_self ?_; (conv => whnf)) | (refine brT (decide_eq_true (by assumption)) ?_; (conv => whnf)) | (refine brT (by assumption) ?_; (conv => whnf)) | (refine brF (by assumption) ?_; (conv => whnf))))
    refine ⟨by omega, by omega, ?_⟩
    refine ⟨by rw [rangeP_len, sizeLine_eq]; omega, ?_⟩
    refine lcAny1 (PV.str) (fun z : Str => (z.length : Int) = w ∧ z.cps.toList.all sgB = true) (rangeP 0 h0.toNat) [] (fun y _ k hk => ?_) (fun l hl hP a ha => ?_)
    · (conv => whnf); (repeat (first | (refine brT rfl ?_; (conv => whnf)) | (refine brF rfl ?_; (conv => whnf)) | (refine And.intro rfl ?_; (conv => whnf)) | (refine And.intro (Nat.le_of_ble_eq_true rfl) ?_; (conv => whnf)) | (refine And.intro (by assumption) ?_; (conv => whnf)) | (refine And.intro (by decide) ?_; (conv => whnf)) | (refine br_nself ?_; (conv => whnf)) | (refine br_self ?_; (conv => whnf)) | (refine brT (decide_eq_true (by assumption)) ?_; (conv => whnf)) | (refine brT (by assumption) ?_; (conv => whnf)) | (refine brF (by assumption) ?_; (conv => whnf))))
      refine ⟨by omega, by omega, ?_⟩
      refine ⟨by rw [rangeP_len, sizeLine_eq]; omega, ?_⟩
      refine lcAny1 (fun c : Nat => .str (sg c)) (fun c : Nat => sgB c = true) (rangeP 0 w.toNat) [] (fun y _ k hk => ?_) (fun l hl hP => ?_)
      · (conv => whnf); (repeat (first | (refine brT rfl ?_; (conv => whnf)) | (refine brF rfl ?_; (conv => whnf)) | (refine And.intro rfl ?_; (conv => whnf)) | (refine And.intro (Nat.le_of_ble_eq_true rfl) ?_; (conv => whnf)) | (refine And.intro (by assumption) ?_; (conv => whnf)) | (refine And.intro (by decide) ?_; (conv => whnf)) | (refine br_nself ?_; (conv => whnf)) | (refine br_self ?_; (conv => whnf)) | (refine brT (decide_eq_true (by assumption)) ?_; (conv => whnf)) | (refine brT (by assumption) ?_; (conv => whnf)) | (refine brF (by assumption) ?_; (conv => whnf))))
        refine draw_of (by omega) (by omega) fun r r0 r1 => ?_
        obtain ⟨c, e, hc⟩ := sg_draw r0 r1
        (conv => whnf); (repeat (first | (refine brT rfl ?_; (conv => whnf)) | (refine brF rfl ?_; (conv => whnf)) | (refine And.intro rfl ?_; (conv => whnf)) | (refine And.intro (Nat.le_of_ble_eq_true rfl) ?_; (conv => whnf)) | (refine And.intro (by assumption) ?_; (conv => whnf)) | (refine And.intro (by decide) ?_; (conv => whnf)) | (refine br_nself ?_; (conv => whnf)) | (refine br_self ?_; (conv => whnf)) | (refine brT (decide_eq_true (by assumption)) ?_; (conv => whnf)) | (refine brT (by assumption) ?_; (conv => whnf)) | (refine brF (by assumption) ?_; (conv => whnf))))
        rw [e]
        exact hk c hc
      · rw [rangeP_len] at hl
        (conv => whnf); (repeat (first | (refine brT rfl ?_; (conv => whnf)) | (refine brF rfl ?_; (conv => whnf)) | (refine And.intro rfl ?_; (conv => whnf)) | (refine And.intro (Nat.le_of_ble_eq_true rfl) ?_; (conv => whnf)) | (refine And.intro (by assumption) ?_; (conv => whnf)) | (refine And.intro (by decide) ?_; (conv => whnf)) | (refine br_nself ?_; (conv => whnf)) | (refine br_self ?_; (conv => whnf)) | (refine brT (decide_eq_true (by assumption)) ?_; (conv => whnf)) | (refine brT (by assumption) ?_; (conv => whnf)) | (refine brF (by assumption) ?_; (conv => whnf))))
        refine ⟨l.map sg, by rw [List.nil_append, List.map_map] <;> rfl, ?_, ?_⟩
        · rw [sg_sum]
          have : (Str.ofString "").length = 0 := rfl
          rw [this]
          omega
        · rw [join_sg]
          refine hk _ ⟨?_, ?_⟩
          · rw [cps_len]; omega
          · show l.toArray.toList.all sgB = true
            rw [List.all_eq_true]
            intro c hc
            exact hP c (by simpa using hc)
    · rw [rangeP_len] at hl
      exact h l (by omega) hP a ha
  · exact h.elim
end Px
namespace Px
open PySem PySem.Spec PyProof.Rows L2
def f_first_bad_line_0 : ZB := (bCons (sIf (tOr [(tNot (tChain .LtE .LtE (zInt 1) (zBlt .len (zCons (zVar 2) zNil)) (zGc "MOST_PLACES" (.int 40)))), (tCmp .NotEq (zBlt .len (zCons (zVar 2) zNil)) (zBlt .len (zCons (zIdx (zVar 0) (zInt 0)) zNil))), (tCmp .GtE (zVar 1) (zGc "MOST_PLACES" (.int 40)))]) (bOne (sRet (zVar 1))) bNil)
  (bOne (sIf (tTr (zBlt .any (zCons (zLst (zComp (.one 3) [3] (iSt (zVar 2)) tsNil (zCmp .NotIn (zVar 3) (zStr "#.")))) zNil))) (bOne (sRet (zVar 1))) bNil)))
def t_first_bad_line_2 : ZB := bOne (sRet (zNeg (zInt 1)))
def t_first_bad_line_1 : ZB := bCons (sFor (.many [1, 2]) (iEnu (zVar 0)) f_first_bad_line_0) t_first_bad_line_2
def t_first_bad_line_0 : ZB := bCons (sIf (tCmp .Eq (zBlt .len (zCons (zVar 0) zNil)) (zInt 0)) (bOne (sRet (zInt 0))) bNil) t_first_bad_line_1
def c_first_bad_line : Ct := fun as μ q _ => match as with
  | [.tup xs] => ∃ ls : List Str, xs = ls.map .str ∧ ls.length ≤ 1000 ∧ (∀ z ∈ ls, z.length ≤ 1000) ∧ q (.int (badL ls)) μ
  | _ => False
theorem len_first_bad_line : ∀ as μ q z, c_first_bad_line as μ q z → as.length = 1 := fun as μ q z h => by
  unfold c_first_bad_line at h
  split at h <;> first | rfl | exact h.elim
def L_first_bad_line : Tbl := []
def H_first_bad_line : Tbl := []
def Q_first_bad_line : Qt := []
def R_first_bad_line : Rt := { L := L_first_bad_line, LH := H_first_bad_line, Q := Q_first_bad_line }
theorem fbl_loop {P : DEn} {l0 : Str} {ls0 : List Str} {μ : Mu} (h0 : l0.length ≤ 1000) (hl0 : (l0 :: ls0).length ≤ 1000) : ∀ (i : Nat) (zs : List Str) (s1 s2 : Option PV), (∀ z ∈ zs, z.length ≤ 1000) → (badFrom l0.length i zs = -1 → ∀ s1 s2, P.nx [some (.tup ((l0 :: ls0).map .str)), s1, s2, none] μ) → (badFrom l0.length i zs ≠ -1 → P.rt (.int (badFrom l0.length i zs)) μ) →
    Lk (forD (.many [1, 2]) (f_first_bad_line_0.d R_first_bad_line) (enumP i (zs.map .str)) P [some (.tup ((l0 :: ls0).map .str)), s1, s2, none] μ)
  | i, [], s1, s2, hz, h1, h2 => forD_n rfl (h1 rfl s1 s2)
  | i, z :: zs, s1, s2, hz, h1, h2 => by
    have ih := fbl_loop (P := P) (ls0 := ls0) (μ := μ) h0 hl0 (i + 1) zs (some (.int (i : Nat))) (some (.str z)) fun y hy => hz y (List.mem_cons_of_mem _ hy)
    have lz := hz z List.mem_cons_self
    refine forD_c rfl ?_
    refine ⟨rfl, ?_⟩
    have bad : ¬ ((lineB l0.length z && decide (i < 40)) = true) → P.rt (.int (i : Nat)) μ := fun e => by
      unfold badFrom at h2
      rw [if_neg e] at h2
      exact h2 (by omega)
    have good : (lineB l0.length z && decide (i < 40)) = true → Lk (forD (.many [1, 2]) (f_first_bad_line_0.d R_first_bad_line) (enumP (i + 1) (zs.map .str)) P [some (.tup ((l0 :: ls0).map .str)), some (.int (i : Nat)), some (.str z), none] μ) := fun e => by
      unfold badFrom at h1 h2
      rw [if_pos e] at h1 h2
      exact ih h1 h2
    clear h1 h2 ih
    generalize hF : f_first_bad_line_0.d R_first_bad_line = F at good ⊢
    rw [← hF]
    have lzs : z.length ≤ sizeLine := by rw [sizeLine_eq]; omega
    have l0s : l0.length ≤ sizeLine := by rw [sizeLine_eq]; omega
    (conv => whnf); (repeat (first | (refine brT rfl ?_; (conv => whnf)) | (refine brF rfl ?_; (conv => whnf)) | (refine And.intro rfl ?_; (conv => whnf)) | (refine And.intro (Nat.le_of_ble_eq_true rfl) ?_; (conv => whnf)) | (refine And.intro (by assumption) ?_; (conv => whnf)) | (refine And.intro (by decide) ?_; (conv => whnf)) | (refine br_nself ?_; (conv => whnf)) | (refine br_self ?_; (conv => whnf)) | (refine brT (decide_eq_true (by assumption)) ?_; (conv => whnf)) | (refine brT (by assumption) ?_; (conv => whnf)) | (refine brF (by assumption) ?_; (conv => whnf))))
    refine brD (fun e1 => ?_) fun e1 => ?_
    · (conv => whnf); (repeat (first | (refine brT rfl ?_; (conv => whnf)) | (refine brF rfl ?_; (conv => whnf)) | (refine And.intro rfl ?_; (conv => whnf)) | (refine And.intro (Nat.le_of_ble_eq_true rfl) ?_; (conv => whnf)) | (refine And.intro (by assumption) ?_; (conv => whnf)) | (refine And.intro (by decide) ?_; (conv => whnf)) | (refine br_nself ?_; (conv => whnf)) | (refine br_self ?_; (conv => whnf)) | (refine brT (decide_eq_true (by assumption)) ?_; (conv => whnf)) | (refine brT (by assumption) ?_; (conv => whnf)) | (refine brF (by assumption) ?_; (conv => whnf))))
      by_cases e2 : (z.length : Int) ≤ 40
      · refine brF (by rw [decide_eq_true e2]; rfl) ?_
        (conv => whnf); (repeat (first | (refine brT rfl ?_; (conv => whnf)) | (refine brF rfl ?_; (conv => whnf)) | (refine And.intro rfl ?_; (conv => whnf)) | (refine And.intro (Nat.le_of_ble_eq_true rfl) ?_; (conv => whnf)) | (refine And.intro (by assumption) ?_; (conv => whnf)) | (refine And.intro (by decide) ?_; (conv => whnf)) | (refine br_nself ?_; (conv => whnf)) | (refine br_self ?_; (conv => whnf)) | (refine brT (decide_eq_true (by assumption)) ?_; (conv => whnf)) | (refine brT (by assumption) ?_; (conv => whnf)) | (refine brF (by assumption) ?_; (conv => whnf))))
        rw [show atI (List.map PV.str (l0 :: ls0)) 0 = some (.str l0) from atI_nat (j := 0) rfl]
        (conv => whnf); (repeat (first | (refine brT rfl ?_; (conv => whnf)) | (refine brF rfl ?_; (conv => whnf)) | (refine And.intro rfl ?_; (conv => whnf)) | (refine And.intro (Nat.le_of_ble_eq_true rfl) ?_; (conv => whnf)) | (refine And.intro (by assumption) ?_; (conv => whnf)) | (refine And.intro (by decide) ?_; (conv => whnf)) | (refine br_nself ?_; (conv => whnf)) | (refine br_self ?_; (conv => whnf)) | (refine brT (decide_eq_true (by assumption)) ?_; (conv => whnf)) | (refine brT (by assumption) ?_; (conv => whnf)) | (refine brF (by assumption) ?_; (conv => whnf))))
        refine brN (fun e3 => ?_) fun e3 => ?_
        · (conv => whnf); (repeat (first | (refine brT rfl ?_; (conv => whnf)) | (refine brF rfl ?_; (conv => whnf)) | (refine And.intro rfl ?_; (conv => whnf)) | (refine And.intro (Nat.le_of_ble_eq_true rfl) ?_; (conv => whnf)) | (refine And.intro (by assumption) ?_; (conv => whnf)) | (refine And.intro (by decide) ?_; (conv => whnf)) | (refine br_nself ?_; (conv => whnf)) | (refine br_self ?_; (conv => whnf)) | (refine brT (decide_eq_true (by assumption)) ?_; (conv => whnf)) | (refine brT (by assumption) ?_; (conv => whnf)) | (refine brF (by assumption) ?_; (conv => whnf))))
          exact bad (fun q => by simp [lineB] at q; omega)
        · (conv => whnf); (repeat (first | (refine brT rfl ?_; (conv => whnf)) | (refine brF rfl ?_; (conv => whnf)) | (refine And.intro rfl ?_; (conv => whnf)) | (refine And.intro (Nat.le_of_ble_eq_true rfl) ?_; (conv => whnf)) | (refine And.intro (by assumption) ?_; (conv => whnf)) | (refine And.intro (by decide) ?_; (conv => whnf)) | (refine br_nself ?_; (conv => whnf)) | (refine br_self ?_; (conv => whnf)) | (refine brT (decide_eq_true (by assumption)) ?_; (conv => whnf)) | (refine brT (by assumption) ?_; (conv => whnf)) | (refine brF (by assumption) ?_; (conv => whnf))))
          refine brD (fun e4 => ?_) fun e4 => ?_
          · (conv => whnf); (repeat (first | (refine brT rfl ?_; (conv => whnf)) | (refine brF rfl ?_; (conv => whnf)) | (refine And.intro rfl ?_; (conv => whnf)) | (refine And.intro (Nat.le_of_ble_eq_true rfl) ?_; (conv => whnf)) | (refine And.intro (by assumption) ?_; (conv => whnf)) | (refine And.intro (by decide) ?_; (conv => whnf)) | (refine br_nself ?_; (conv => whnf)) | (refine br_self ?_; (conv => whnf)) | (refine brT (decide_eq_true (by assumption)) ?_; (conv => whnf)) | (refine brT (by assumption) ?_; (conv => whnf)) | (refine brF (by assumption) ?_; (conv => whnf))))
            exact bad (fun q => by simp at q; omega)
          · (conv => whnf); (repeat (first | (refine brT rfl ?_; (conv => whnf)) | (refine brF rfl ?_; (conv => whnf)) | (refine And.intro rfl ?_; (conv => whnf)) | (refine And.intro (Nat.le_of_ble_eq_true rfl) ?_; (conv => whnf)) | (refine And.intro (by assumption) ?_; (conv => whnf)) | (refine And.intro (by decide) ?_; (conv => whnf)) | (refine br_nself ?_; (conv => whnf)) | (refine br_self ?_; (conv => whnf)) | (refine brT (decide_eq_true (by assumption)) ?_; (conv => whnf)) | (refine brT (by assumption) ?_; (conv => whnf)) | (refine brF (by assumption) ?_; (conv => whnf))))
            have ls : (sgnsP z).length = z.length := by
              unfold sgnsP
              rw [List.length_map, Array.length_toList]
              rfl
            refine ⟨by rw [ls, sizeLine_eq]; omega, ?_⟩
            refine lcM1 (fun c : Nat => .str ⟨#[c]⟩) (fun c => .bl (!sgB c)) z.cps.toList [] (fun c hc k hk => ?_) ?_
            · (conv => whnf); (repeat (first | (refine brT rfl ?_; (conv => whnf)) | (refine brF rfl ?_; (conv => whnf)) | (refine And.intro rfl ?_; (conv => whnf)) | (refine And.intro (Nat.le_of_ble_eq_true rfl) ?_; (conv => whnf)) | (refine And.intro (by assumption) ?_; (conv => whnf)) | (refine And.intro (by decide) ?_; (conv => whnf)) | (refine br_nself ?_; (conv => whnf)) | (refine br_self ?_; (conv => whnf)) | (refine brT (decide_eq_true (by assumption)) ?_; (conv => whnf)) | (refine brT (by assumption) ?_; (conv => whnf)) | (refine brF (by assumption) ?_; (conv => whnf))))
              exact hk
            · (conv => whnf); (repeat (first | (refine brT rfl ?_; (conv => whnf)) | (refine brF rfl ?_; (conv => whnf)) | (refine And.intro rfl ?_; (conv => whnf)) | (refine And.intro (Nat.le_of_ble_eq_true rfl) ?_; (conv => whnf)) | (refine And.intro (by assumption) ?_; (conv => whnf)) | (refine And.intro (by decide) ?_; (conv => whnf)) | (refine br_nself ?_; (conv => whnf)) | (refine br_self ?_; (conv => whnf)) | (refine brT (decide_eq_true (by assumption)) ?_; (conv => whnf)) | (refine brT (by assumption) ?_; (conv => whnf)) | (refine brF (by assumption) ?_; (conv => whnf))))
              refine ⟨z.cps.toList.map (fun c => !sgB c), by rw [List.nil_append, List.map_map] <;> rfl, ?_⟩
              have an : (z.cps.toList.map (fun c => !sgB c)).any (fun b => b) = !z.cps.toList.all sgB := by
                rw [List.any_map]
                rw [List.all_eq_not_any_not, Bool.not_not]
                rfl
              rw [an]
              cases e5 : z.cps.toList.all sgB
              · (conv => whnf); (repeat (first | (refine brT rfl ?_; (conv => whnf)) | (refine brF rfl ?_; (conv => whnf)) | (refine And.intro rfl ?_; (conv => whnf)) | (refine And.intro (Nat.le_of_ble_eq_true rfl) ?_; (conv => whnf)) | (refine And.intro (by assumption) ?_; (conv => whnf)) | (refine And.intro (by decide) ?_; (conv => whnf)) | (refine br_nself ?_; (conv => whnf)) | (refine br_self ?_; (conv => whnf)) | (refine brT (decide_eq_true (by assumption)) ?_; (conv => whnf)) | (refine brT (by assumption) ?_; (conv => whnf)) | (refine brF (by assumption) ?_; (conv => whnf))))
                exact bad (fun q => by simp [lineB, e5] at q)
              · (conv => whnf); (repeat (first | (refine brT rfl ?_; (conv => whnf)) | (refine brF rfl ?_; (conv => whnf)) | (refine And.intro rfl ?_; (conv => whnf)) | (refine And.intro (Nat.le_of_ble_eq_true rfl) ?_; (conv => whnf)) | (refine And.intro (by assumption) ?_; (conv => whnf)) | (refine And.intro (by decide) ?_; (conv => whnf)) | (refine br_nself ?_; (conv => whnf)) | (refine br_self ?_; (conv => whnf)) | (refine brT (decide_eq_true (by assumption)) ?_; (conv => whnf)) | (refine brT (by assumption) ?_; (conv => whnf)) | (refine brF (by assumption) ?_; (conv => whnf))))
                rw [hF]
                exact good (by
                  simp only [lineB, e5, Bool.and_eq_true, decide_eq_true_eq]
                  refine ⟨⟨?_, ?_, ?_, ?_⟩, ?_⟩ <;> first | trivial | rfl | omega)
      · refine brT (by rw [decide_eq_false e2]; rfl) ?_
        (conv => whnf); (repeat (first | (refine brT rfl ?_; (conv => whnf)) | (refine brF rfl ?_; (conv => whnf)) | (refine And.intro rfl ?_; (conv => whnf)) | (refine And.intro (Nat.le_of_ble_eq_true rfl) ?_; (conv => whnf)) | (refine And.intro (by assumption) ?_; (conv => whnf)) | (refine And.intro (by decide) ?_; (conv => whnf)) | (refine br_nself ?_; (conv => whnf)) | (refine br_self ?_; (conv => whnf)) | (refine brT (decide_eq_true (by assumption)) ?_; (conv => whnf)) | (refine brT (by assumption) ?_; (conv => whnf)) | (refine brF (by assumption) ?_; (conv => whnf))))
        exact bad (fun q => by simp [lineB] at q; omega)
    · (conv => whnf); (repeat (first | (refine brT rfl ?_; (conv => whnf)) | (refine brF rfl ?_; (conv => whnf)) | (refine And.intro rfl ?_; (conv => whnf)) | (refine And.intro (Nat.le_of_ble_eq_true rfl) ?_; (conv => whnf)) | (refine And.intro (by assumption) ?_; (conv => whnf)) | (refine And.intro (by decide) ?_; (conv => whnf)) | (refine br_nself ?_; (conv => whnf)) | (refine br_self ?_; (conv => whnf)) | (refine brT (decide_eq_true (by assumption)) ?_; (conv => whnf)) | (refine brT (by assumption) ?_; (conv => whnf)) | (refine brF (by assumption) ?_; (conv => whnf))))
      exact bad (fun q => by simp [lineB] at q; omega)
theorem pure_first_bad_line : ∀ as μ q z, c_first_bad_line as μ q z → t_first_bad_line_0.d R_first_bad_line (endsOf q z) (startE 4 as) μ := fun as μ q z h => by
  unfold c_first_bad_line at h
  split at h
  · obtain ⟨ls, rfl, hl, hz, h⟩ := h
    match ls, hl, hz, h with
    | [], hl, hz, h =>
      (conv => whnf); (repeat (first | (refine brT rfl ?_; (conv => whnf)) | (refine brF rfl ?_; (conv => whnf)) | (refine And.intro rfl ?_; (conv => whnf)) | (refine And.intro (Nat.le_of_ble_eq_true rfl) ?_; (conv => whnf)) | (refine And.intro (by assumption) ?_; (conv => whnf)) | (refine And.intro (by decide) ?_; (conv => whnf))))
      exact h
    | l0 :: ls, hl, hz, h =>
      (conv => whnf); (repeat (first | (refine brT rfl ?_; (conv => whnf)) | (refine brF rfl ?_; (conv => whnf)) | (refine And.intro rfl ?_; (conv => whnf)) | (refine And.intro (Nat.le_of_ble_eq_true rfl) ?_; (conv => whnf)) | (refine And.intro (by assumption) ?_; (conv => whnf)) | (refine And.intro (by decide) ?_; (conv => whnf))))
      refine fbl_loop (hz _ List.mem_cons_self) hl 0 (l0 :: ls) none none hz (fun e s1 s2 => ?_) fun e => ?_
      · (conv => whnf); (repeat (first | (refine brT rfl ?_; (conv => whnf)) | (refine brF rfl ?_; (conv => whnf)) | (refine And.intro rfl ?_; (conv => whnf)) | (refine And.intro (Nat.le_of_ble_eq_true rfl) ?_; (conv => whnf)) | (refine And.intro (by assumption) ?_; (conv => whnf)) | (refine And.intro (by decide) ?_; (conv => whnf)) | (refine br_nself ?_; (conv => whnf)) | (refine br_self ?_; (conv => whnf)) | (refine brT (decide_eq_true (by assumption)) ?_; (conv => whnf)) | (refine brT (by assumption) ?_; (conv => whnf)) | (refine brF (by assumption) ?_; (conv => whnf))))
        rw [show badL (l0 :: ls) = -1 from e] at h
        exact h
      · exact h
  · exact h.elim
end Px
namespace Px
open PySem PySem.Spec PyProof.Rows L2
def t_Shape___init___4 : ZB := bOne (sAttr "height" (zVar 0) (zBlt .len (zCons (zVar 1) zNil)))
def t_Shape___init___3 : ZB := bCons (sAttr "width" (zVar 0) (zBlt .len (zCons (zIdx (zVar 1) (zInt 0)) zNil))) t_Shape___init___4
def t_Shape___init___2 : ZB := bCons (sAttr "lines" (zVar 0) (zVar 1)) t_Shape___init___3
def t_Shape___init___1 : ZB := bCons (sIf (tCmp .GtE (zVar 2) (zInt 0)) (bOne (sRaise .InvalidShape "line" (zCons (zVar 2) zNil))) bNil) t_Shape___init___2
def t_Shape___init___0 : ZB := bCons (sSet 2 (zCall 257 (zCons (zVar 1) zNil))) t_Shape___init___1
def kShape : Kc := fun c ps A B => match c, ps with
  | .Shape, [.tup xs] => ∃ ls : List Str, xs = ls.map .str ∧ ls.length ≤ 1000 ∧ (∀ z ∈ ls, z.length ≤ 1000) ∧ br (decide (0 ≤ badL ls)) (B (.InvalidShape, [.int (badL ls)])) (A [.tup (ls.map .str), .int (wideL ls : Nat), .int (ls.length : Nat)])
  | _, _ => False
abbrev c_Shape___init__ : Ct := initK kShape
theorem mono_Shape : Mono kShape := fun c ps A A' B B' h1 h2 h => by
  unfold kShape at h ⊢
  split at h
  · obtain ⟨ls, e, hl, hz, h⟩ := h
    exact ⟨ls, e, hl, hz, br_mono h (h2 _) (h1 _)⟩
  · exact h.elim
def k_Shape : Ct := fun ps μ q x => ps.length ≤ sizeLine ∧ mkK .Shape kShape [.tup ps] μ q x
theorem kc_Shape : MkC true .Shape (starC 1 c_Shape___init__) k_Shape := (mkK_star mono_Shape).imp fun ps μ q x h => h
def L_Shape___init__ : Tbl := [(.g 257 [], c_first_bad_line)]
def H_Shape___init__ : Tbl := []
def Q_Shape___init__ : Qt := []
def R_Shape___init__ : Rt := { L := L_Shape___init__, LH := H_Shape___init__, Q := Q_Shape___init__ }
theorem pure_Shape___init__ : ∀ as μ q z, c_Shape___init__ as μ q z → t_Shape___init___0.d R_Shape___init__ (endsOf q z) (startE 3 as) μ := by
  rintro as μ q z ⟨y, c, ps, rfl, ey, h⟩
  unfold kShape at h
  split at h
  · obtain ⟨ls, rfl, hl, hz, h⟩ := h
    (conv => whnf); (repeat (first | (refine brT rfl ?_; (conv => whnf)) | (refine brF rfl ?_; (conv => whnf)) | (refine And.intro rfl ?_; (conv => whnf)) | (refine And.intro (Nat.le_of_ble_eq_true rfl) ?_; (conv => whnf)) | (refine And.intro (by assumption) ?_; (conv => whnf)) | (refine And.intro (by decide) ?_; (conv => whnf)) | (refine br_nself ?_; (conv => whnf)) | (refine br_self ?_; (conv => whnf)) | (refine brT (decide_eq_true (by assumption)) ?_; (conv => whnf)) | (refine brT (by assumption) ?_; (conv => whnf)) | (refine brF (by assumption) ?_; (conv => whnf))))
    refine ⟨ls, rfl, hl, hz, ?_⟩
    (conv => whnf); (repeat (first | (refine brT rfl ?_; (conv => whnf)) | (refine brF rfl ?_; (conv => whnf)) | (refine And.intro rfl ?_; (conv => whnf)) | (refine And.intro (Nat.le_of_ble_eq_true rfl) ?_; (conv => whnf)) | (refine And.intro (by assumption) ?_; (conv => whnf)) | (refine And.intro (by decide) ?_; (conv => whnf)) | (refine br_nself ?_; (conv => whnf)) | (refine br_self ?_; (conv => whnf)) | (refine brT (decide_eq_true (by assumption)) ?_; (conv => whnf)) | (refine brT (by assumption) ?_; (conv => whnf)) | (refine brF (by assumption) ?_; (conv => whnf))))
    refine brD (fun e => ?_) fun e => ?_
    · have h := brE_t (decide_eq_true e) h
      (conv => whnf); (repeat (first | (refine brT rfl ?_; (conv => whnf)) | (refine brF rfl ?_; (conv => whnf)) | (refine And.intro rfl ?_; (conv => whnf)) | (refine And.intro (Nat.le_of_ble_eq_true rfl) ?_; (conv => whnf)) | (refine And.intro (by assumption) ?_; (conv => whnf)) | (refine And.intro (by decide) ?_; (conv => whnf)) | (refine br_nself ?_; (conv => whnf)) | (refine br_self ?_; (conv => whnf)) | (refine brT (decide_eq_true (by assumption)) ?_; (conv => whnf)) | (refine brT (by assumption) ?_; (conv => whnf)) | (refine brF (by assumption) ?_; (conv => whnf))))
      exact h
    · have h := brE_f (decide_eq_false e) h
      have gd : GoodLn ls := badL_good ((badL_le ls).resolve_right e)
      match ls, hl, hz, h, gd with
      | [], hl, hz, h, gd =>
        have := gd.ne
        cases this
      | l0 :: ls, hl, hz, h, gd =>
      have l0s : l0.length ≤ sizeLine := by rw [sizeLine_eq]; have := hz l0 List.mem_cons_self; omega
      (conv => whnf); (repeat (first | (refine brT rfl ?_; (conv => whnf)) | (refine brF rfl ?_; (conv => whnf)) | (refine And.intro rfl ?_; (conv => whnf)) | (refine And.intro (Nat.le_of_ble_eq_true rfl) ?_; (conv => whnf)) | (refine And.intro (by assumption) ?_; (conv => whnf)) | (refine And.intro (by decide) ?_; (conv => whnf)) | (refine br_nself ?_; (conv => whnf)) | (refine br_self ?_; (conv => whnf)) | (refine brT (decide_eq_true (by assumption)) ?_; (conv => whnf)) | (refine brT (by assumption) ?_; (conv => whnf)) | (refine brF (by assumption) ?_; (conv => whnf))))
      rw [ey]
      (conv => whnf); (repeat (first | (refine brT rfl ?_; (conv => whnf)) | (refine brF rfl ?_; (conv => whnf)) | (refine And.intro rfl ?_; (conv => whnf)) | (refine And.intro (Nat.le_of_ble_eq_true rfl) ?_; (conv => whnf)) | (refine And.intro (by assumption) ?_; (conv => whnf)) | (refine And.intro (by decide) ?_; (conv => whnf)) | (refine br_nself ?_; (conv => whnf)) | (refine br_self ?_; (conv => whnf)) | (refine brT (decide_eq_true (by assumption)) ?_; (conv => whnf)) | (refine brT (by assumption) ?_; (conv => whnf)) | (refine brF (by assumption) ?_; (conv => whnf))))
      rw [show atI (List.map PV.str (l0 :: ls)) 0 = some (.str l0) from atI_nat (j := 0) rfl]
      (conv => whnf); (repeat (first | (refine brT rfl ?_; (conv => whnf)) | (refine brF rfl ?_; (conv => whnf)) | (refine And.intro rfl ?_; (conv => whnf)) | (refine And.intro (Nat.le_of_ble_eq_true rfl) ?_; (conv => whnf)) | (refine And.intro (by assumption) ?_; (conv => whnf)) | (refine And.intro (by decide) ?_; (conv => whnf)) | (refine br_nself ?_; (conv => whnf)) | (refine br_self ?_; (conv => whnf)) | (refine brT (decide_eq_true (by assumption)) ?_; (conv => whnf)) | (refine brT (by assumption) ?_; (conv => whnf)) | (refine brF (by assumption) ?_; (conv => whnf))))
      rw [Mu.put_same]
      (conv => whnf); (repeat (first | (refine brT rfl ?_; (conv => whnf)) | (refine brF rfl ?_; (conv => whnf)) | (refine And.intro rfl ?_; (conv => whnf)) | (refine And.intro (Nat.le_of_ble_eq_true rfl) ?_; (conv => whnf)) | (refine And.intro (by assumption) ?_; (conv => whnf)) | (refine And.intro (by decide) ?_; (conv => whnf)) | (refine br_nself ?_; (conv => whnf)) | (refine br_self ?_; (conv => whnf)) | (refine brT (decide_eq_true (by assumption)) ?_; (conv => whnf)) | (refine brT (by assumption) ?_; (conv => whnf)) | (refine brF (by assumption) ?_; (conv => whnf))))
      rw [Mu.put_same]
      (conv => whnf); (repeat (first | (refine brT rfl ?_; (conv => whnf)) | (refine brF rfl ?_; (conv => whnf)) | (refine And.intro rfl ?_; (conv => whnf)) | (refine And.intro (Nat.le_of_ble_eq_true rfl) ?_; (conv => whnf)) | (refine And.intro (by assumption) ?_; (conv => whnf)) | (refine And.intro (by decide) ?_; (conv => whnf)) | (refine br_nself ?_; (conv => whnf)) | (refine br_self ?_; (conv => whnf)) | (refine brT (decide_eq_true (by assumption)) ?_; (conv => whnf)) | (refine brT (by assumption) ?_; (conv => whnf)) | (refine brF (by assumption) ?_; (conv => whnf))))
      rw [Mu.put_put, Mu.put_put]
      rw [List.length_map]
      exact h.2
  · exact h.elim
end Px
namespace Px
open PySem PySem.Spec PyProof.Rows L2
def t_Shape_of_0 : ZB := bOne (sRet (zMkVS .Shape true (zVar 0) (zVar 1)))
def c_Shape_of : Ct := fun as μ q x => match as with
  | [.cls .Shape, p] => (match seqOf μ p with
    | some (_, xs) => xs.length ≤ 1000 ∧ mkK .Shape kShape [.tup xs] μ q x
    | none => False)
  | _ => False
theorem len_Shape_of : ∀ as μ q z, c_Shape_of as μ q z → as.length = 2 := fun as μ q z h => by
  unfold c_Shape_of at h
  split at h <;> first | rfl | exact h.elim
def L_Shape_of : Tbl := [(.k .Shape true [], k_Shape)]
def H_Shape_of : Tbl := []
def Q_Shape_of : Qt := []
def R_Shape_of : Rt := { L := L_Shape_of, LH := H_Shape_of, Q := Q_Shape_of }
theorem pure_Shape_of : ∀ as μ q z, c_Shape_of as μ q z → t_Shape_of_0.d R_Shape_of (endsOf q z) (startE 2 as) μ := fun as μ q z h => by
  unfold c_Shape_of at h
  split at h
  · rename_i p
    split at h
    · rename_i b xs es
      obtain ⟨hl, h⟩ := h
      (conv => whnf); (repeat (first | (refine brT rfl ?_; (conv => whnf)) | (refine brF rfl ?_; (conv => whnf)) | (refine And.intro rfl ?_; (conv => whnf)) | (refine And.intro (Nat.le_of_ble_eq_true rfl) ?_; (conv => whnf)) | (refine And.intro (by assumption) ?_; (conv => whnf)) | (refine And.intro (by decide) ?_; (conv => whnf))))
      rw [es]
      (conv => whnf); (repeat (first | (refine brT rfl ?_; (conv => whnf)) | (refine brF rfl ?_; (conv => whnf)) | (refine And.intro rfl ?_; (conv => whnf)) | (refine And.intro (Nat.le_of_ble_eq_true rfl) ?_; (conv => whnf)) | (refine And.intro (by assumption) ?_; (conv => whnf)) | (refine And.intro (by decide) ?_; (conv => whnf))))
      refine ⟨?_, ?_⟩
      · rw [List.append_nil, sizeLine_eq]
        omega
      · rw [List.append_nil]
        exact h
    · exact h.elim
  · exact h.elim
end Px
namespace Px
open PySem PySem.Spec PyProof.Rows L2
def t__law_is_0 : ZB := bOne (sRet (zAnd [(zBlt .isi (zCons (zVar 0) (zCons (zTy "bool") zNil))), (zCmp .Eq (zVar 0) (zVar 1))]))
def c__law_is : Ct := fun as μ q _ => match as with
  | [.bl i, .bl n] => q (.bl (decide (i = n))) μ
  | _ => False
theorem len__law_is : ∀ as μ q z, c__law_is as μ q z → as.length = 2 := fun as μ q z h => by
  unfold c__law_is at h
  split at h <;> first | rfl | exact h.elim
def L__law_is : Tbl := []
def H__law_is : Tbl := []
def Q__law_is : Qt := []
def R__law_is : Rt := { L := L__law_is, LH := H__law_is, Q := Q__law_is }
theorem pure__law_is : ∀ as μ q z, c__law_is as μ q z → t__law_is_0.d R__law_is (endsOf q z) (startE 2 as) μ := fun as μ q z h => by
  unfold c__law_is at h
  split at h
  · (conv => whnf); (repeat (first | (refine brT rfl ?_; (conv => whnf)) | (refine brF rfl ?_; (conv => whnf)) | (refine And.intro rfl ?_; (conv => whnf)) | (refine And.intro (Nat.le_of_ble_eq_true rfl) ?_; (conv => whnf)) | (refine And.intro (by assumption) ?_; (conv => whnf)) | (refine And.intro (by decide) ?_; (conv => whnf))))
    exact h
  · exact h.elim
end Px
namespace Px
open PySem PySem.Spec PyProof.Rows L2
def t__law_same_text_0 : ZB := bOne (sRet (zAnd [(zBlt .isi (zCons (zVar 0) (zCons (zTy "str") zNil))), (zCmp .Eq (zVar 0) (zVar 1))]))
def c__law_same_text : Ct := fun as μ q _ => match as with
  | [.str i, .str n] => q (.bl (decide (i = n))) μ
  | _ => False
theorem len__law_same_text : ∀ as μ q z, c__law_same_text as μ q z → as.length = 2 := fun as μ q z h => by
  unfold c__law_same_text at h
  split at h <;> first | rfl | exact h.elim
def L__law_same_text : Tbl := []
def H__law_same_text : Tbl := []
def Q__law_same_text : Qt := []
def R__law_same_text : Rt := { L := L__law_same_text, LH := H__law_same_text, Q := Q__law_same_text }
theorem pure__law_same_text : ∀ as μ q z, c__law_same_text as μ q z → t__law_same_text_0.d R__law_same_text (endsOf q z) (startE 2 as) μ := fun as μ q z h => by
  unfold c__law_same_text at h
  split at h
  · (conv => whnf); (repeat (first | (refine brT rfl ?_; (conv => whnf)) | (refine brF rfl ?_; (conv => whnf)) | (refine And.intro rfl ?_; (conv => whnf)) | (refine And.intro (Nat.le_of_ble_eq_true rfl) ?_; (conv => whnf)) | (refine And.intro (by assumption) ?_; (conv => whnf)) | (refine And.intro (by decide) ?_; (conv => whnf))))
    exact h
  · exact h.elim
end Px
namespace Px
open PySem PySem.Spec PyProof.Rows L2
def t__law_same_names_1 : ZB := bOne (sRet (zBlt .all (zCons (zLst (zComp (.one 2) [2] (iRg1 (zBlt .len (zCons (zVar 1) zNil))) tsNil (zCall 181 (zCons (zIdx (zVar 0) (zVar 2)) (zCons (zIdx (zVar 1) (zVar 2)) zNil))))) zNil)))
def t__law_same_names_0 : ZB := bCons (sIf (tOr [(tNot (tTr (zBlt .isi (zCons (zVar 0) (zCons (zTy "tuple") zNil))))), (tCmp .NotEq (zBlt .len (zCons (zVar 0) zNil)) (zBlt .len (zCons (zVar 1) zNil)))]) (bOne (sRet (zBl false))) bNil) t__law_same_names_1
def c__law_same_names : Ct := fun as μ q _ => match as with
  | [.tup xs, .lst ys] => ∃ as bs : List Str, xs = as.map .str ∧ ys = bs.map .str ∧ bs.length ≤ 1000 ∧ q (.bl (decide (as = bs))) μ
  | _ => False
theorem len__law_same_names : ∀ as μ q z, c__law_same_names as μ q z → as.length = 2 := fun as μ q z h => by
  unfold c__law_same_names at h
  split at h <;> first | rfl | exact h.elim
def L__law_same_names : Tbl := [(.g 181 [], c__law_same_text)]
def H__law_same_names : Tbl := []
def Q__law_same_names : Qt := []
def R__law_same_names : Rt := { L := L__law_same_names, LH := H__law_same_names, Q := Q__law_same_names }
theorem zip_eq {as bs : List Str} (h : as.length = bs.length) : (((List.range bs.length).map fun j => decide (as[j]? = bs[j]?)).all fun b => b) = decide (as = bs) := by
  rw [Bool.eq_iff_iff, List.all_map, List.all_eq_true, decide_eq_true_iff]
  constructor
  · intro z
    refine List.ext_getElem? fun j => ?_
    by_cases hj : j < bs.length
    · exact of_decide_eq_true (z j (List.mem_range.mpr hj))
    · rw [List.getElem?_eq_none (by omega), List.getElem?_eq_none (by omega)]
  · rintro rfl j _
    exact decide_eq_true rfl
theorem pure__law_same_names : ∀ as μ q z, c__law_same_names as μ q z → t__law_same_names_0.d R__law_same_names (endsOf q z) (startE 3 as) μ := fun as μ q z h => by
  unfold c__law_same_names at h
  split at h
  · obtain ⟨as, bs, rfl, rfl, hl, h⟩ := h
    (conv => whnf); (repeat (first | (refine brT rfl ?_; (conv => whnf)) | (refine brF rfl ?_; (conv => whnf)) | (refine And.intro rfl ?_; (conv => whnf)) | (refine And.intro (Nat.le_of_ble_eq_true rfl) ?_; (conv => whnf)) | (refine And.intro (by assumption) ?_; (conv => whnf)) | (refine And.intro (by decide) ?_; (conv => whnf))))
    refine br_of (fun e => ?_) fun e => ?_
    · have e : ¬ as.length = bs.length := by
        intro z
        simp [sgn, z] at e
      rw [decide_eq_false fun z => e (by rw [z])] at h
      exact h
    · have e : as.length = bs.length := by
        have : sgn true (decide (((as.map PV.str).length : Int) = ((bs.map PV.str).length : Int))) = false := e
        rw [List.length_map, List.length_map] at this
        simp only [sgn, Bool.not_eq_false', decide_eq_true_eq] at this
        omega
      (conv => whnf); (repeat (first | (refine brT rfl ?_; (conv => whnf)) | (refine brF rfl ?_; (conv => whnf)) | (refine And.intro rfl ?_; (conv => whnf)) | (refine And.intro (Nat.le_of_ble_eq_true rfl) ?_; (conv => whnf)) | (refine And.intro (by assumption) ?_; (conv => whnf)) | (refine And.intro (by decide) ?_; (conv => whnf))))
      refine ⟨by omega, by rw [List.length_map]; omega, ?_⟩
      have lr : (rangeP 0 (((bs.map PV.str).length : Nat) : Int).toNat).length = bs.length := by
        unfold rangeP
        rw [List.length_map, List.length_range, List.length_map]
        omega
      refine ⟨by rw [lr, sizeLine_eq]; omega, ?_⟩
      refine lcD_map (fun p => match p with | .int i => .bl (decide (as[i.toNat]? = bs[i.toNat]?)) | _ => .non) _ _ (fun x hx k hk => ?_) ?_
      · obtain ⟨j, hj, rfl⟩ := List.mem_map.mp hx
        have hj : j < bs.length := by
          have := List.mem_range.mp hj
          rw [List.length_map] at this
          omega
        have hj2 : j < as.length := by omega
        have a1 : atI (as.map PV.str) (0 + (j : Nat)) = some (.str as[j]) := by
          rw [Int.zero_add]
          exact atI_nat (by rw [List.getElem?_map, List.getElem?_eq_getElem hj2] <;> rfl)
        have a2 : atI (bs.map PV.str) (0 + (j : Nat)) = some (.str bs[j]) := by
          rw [Int.zero_add]
          exact atI_nat (by rw [List.getElem?_map, List.getElem?_eq_getElem hj] <;> rfl)
        (conv => whnf); (repeat (first | (refine brT rfl ?_; (conv => whnf)) | (refine brF rfl ?_; (conv => whnf)) | (refine And.intro rfl ?_; (conv => whnf)) | (refine And.intro (Nat.le_of_ble_eq_true rfl) ?_; (conv => whnf)) | (refine And.intro (by assumption) ?_; (conv => whnf)) | (refine And.intro (by decide) ?_; (conv => whnf))))
        rw [a1]
        (conv => whnf); (repeat (first | (refine brT rfl ?_; (conv => whnf)) | (refine brF rfl ?_; (conv => whnf)) | (refine And.intro rfl ?_; (conv => whnf)) | (refine And.intro (Nat.le_of_ble_eq_true rfl) ?_; (conv => whnf)) | (refine And.intro (by assumption) ?_; (conv => whnf)) | (refine And.intro (by decide) ?_; (conv => whnf))))
        rw [a2]
        have e0 : (0 + ((j : Nat) : Int)).toNat = j := by omega
        have hk : k (.bl (decide (as[(0 + ((j : Nat) : Int)).toNat]? = bs[(0 + ((j : Nat) : Int)).toNat]?))) μ := hk
        rw [e0, List.getElem?_eq_getElem hj, List.getElem?_eq_getElem hj2] at hk
        have : decide (some as[j] = some bs[j]) = decide (as[j] = bs[j]) := decide_eq_decide.mpr (by simp)
        rw [this] at hk
        exact hk
      · (conv => whnf); (repeat (first | (refine brT rfl ?_; (conv => whnf)) | (refine brF rfl ?_; (conv => whnf)) | (refine And.intro rfl ?_; (conv => whnf)) | (refine And.intro (Nat.le_of_ble_eq_true rfl) ?_; (conv => whnf)) | (refine And.intro (by assumption) ?_; (conv => whnf)) | (refine And.intro (by decide) ?_; (conv => whnf))))
        refine ⟨(List.range bs.length).map fun j => decide (as[j]? = bs[j]?), ?_, ?_⟩
        · have e1 : (((bs.map PV.str).length : Nat) : Int).toNat = bs.length := by rw [List.length_map]; omega
          unfold rangeP
          rw [List.nil_append, e1, List.map_map, List.map_map]
          refine List.map_congr_left fun j _ => ?_
          show PV.bl (decide (as[(0 + ((j : Nat) : Int)).toNat]? = bs[(0 + ((j : Nat) : Int)).toNat]?)) = _
          have e0 : (0 + ((j : Nat) : Int)).toNat = j := by omega
          rw [e0] <;> rfl
        · rw [zip_eq e]
          exact h
  · exact h.elim
end Px
namespace Px
open PySem PySem.Spec PyProof.Rows L2
def t__law_int_0 : ZB := bOne (sRet (zAnd [(zBlt .isi (zCons (zVar 0) (zCons (zTy "int") zNil))), (zNot (zBlt .isi (zCons (zVar 0) (zCons (zTy "bool") zNil)))), (zCmp .Eq (zVar 0) (zVar 1))]))
def c__law_int : Ct := fun as μ q _ => match as with
  | [.int i, .int n] => q (.bl (decide (i = n))) μ
  | _ => False
theorem len__law_int : ∀ as μ q z, c__law_int as μ q z → as.length = 2 := fun as μ q z h => by
  unfold c__law_int at h
  split at h <;> first | rfl | exact h.elim
def L__law_int : Tbl := []
def H__law_int : Tbl := []
def Q__law_int : Qt := []
def R__law_int : Rt := { L := L__law_int, LH := H__law_int, Q := Q__law_int }
theorem pure__law_int : ∀ as μ q z, c__law_int as μ q z → t__law_int_0.d R__law_int (endsOf q z) (startE 2 as) μ := fun as μ q z h => by
  unfold c__law_int at h
  split at h
  · (conv => whnf); (repeat (first | (refine brT rfl ?_; (conv => whnf)) | (refine brF rfl ?_; (conv => whnf)) | (refine And.intro rfl ?_; (conv => whnf)) | (refine And.intro (Nat.le_of_ble_eq_true rfl) ?_; (conv => whnf)) | (refine And.intro (by assumption) ?_; (conv => whnf)) | (refine And.intro (by decide) ?_; (conv => whnf))))
    exact h
  · exact h.elim
end Px
namespace Px
open PySem PySem.Spec PyProof.Rows L2
def t__law_same_shape_1 : ZB := bOne (sRet (zAnd [(zCall 80 (zCons (zAtt "width" (zVar 0)) (zCons (zBlt .len (zCons (zIdx (zVar 1) (zInt 0)) zNil)) zNil))), (zCall 80 (zCons (zAtt "height" (zVar 0)) (zCons (zBlt .len (zCons (zVar 1) zNil)) zNil)))]))
def t__law_same_shape_0 : ZB := bCons (sIf (tOr [(tNot (tTr (zBlt .isi (zCons (zVar 0) (zCons (zCls .Shape) zNil))))), (tNot (tTr (zCall 166 (zCons (zAtt "lines" (zVar 0)) (zCons (zVar 1) zNil)))))]) (bOne (sRet (zBl false))) bNil) t__law_same_shape_1
def c__law_same_shape : Ct := fun as μ q _ => match as with
  | [p, .lst ys] => ∃ ls : List Str, p = shapeP ls ∧ ys = ls.map .str ∧ GoodLn ls ∧ q (.bl true) μ
  | _ => False
theorem len__law_same_shape : ∀ as μ q z, c__law_same_shape as μ q z → as.length = 2 := fun as μ q z h => by
  unfold c__law_same_shape at h
  split at h <;> first | rfl | exact h.elim
def L__law_same_shape : Tbl := [(.g 166 [], c__law_same_names), (.g 80 [], c__law_int)]
def H__law_same_shape : Tbl := []
def Q__law_same_shape : Qt := []
def R__law_same_shape : Rt := { L := L__law_same_shape, LH := H__law_same_shape, Q := Q__law_same_shape }
theorem pure__law_same_shape : ∀ as μ q z, c__law_same_shape as μ q z → t__law_same_shape_0.d R__law_same_shape (endsOf q z) (startE 2 as) μ := fun as μ q z h => by
  unfold c__law_same_shape at h
  split at h
  · obtain ⟨ls, rfl, rfl, g, h⟩ := h
    have hl := g.le
    have g1 := g.ne
    have g2 := g.w2
    unfold shapeP
    match ls, hl, g, h with
    | [], hl, g, h => exact absurd g.ne (by decide)
    | l0 :: ls, hl, g, h =>
      have l0s : l0.length ≤ sizeLine := by rw [sizeLine_eq]; have : wideL (l0 :: ls) = l0.length := rfl; omega
      (conv => whnf); (repeat (first | (refine brT rfl ?_; (conv => whnf)) | (refine brF rfl ?_; (conv => whnf)) | (refine And.intro rfl ?_; (conv => whnf)) | (refine And.intro (Nat.le_of_ble_eq_true rfl) ?_; (conv => whnf)) | (refine And.intro (by assumption) ?_; (conv => whnf)) | (refine And.intro (by decide) ?_; (conv => whnf)) | (refine br_nself ?_; (conv => whnf)) | (refine br_self ?_; (conv => whnf)) | (refine brT (decide_eq_true (by assumption)) ?_; (conv => whnf)) | (refine brT (by assumption) ?_; (conv => whnf)) | (refine brF (by assumption) ?_; (conv => whnf))))
      refine ⟨_, _, rfl, rfl, by omega, ?_⟩
      rw [decide_eq_true rfl]
      (conv => whnf); (repeat (first | (refine brT rfl ?_; (conv => whnf)) | (refine brF rfl ?_; (conv => whnf)) | (refine And.intro rfl ?_; (conv => whnf)) | (refine And.intro (Nat.le_of_ble_eq_true rfl) ?_; (conv => whnf)) | (refine And.intro (by assumption) ?_; (conv => whnf)) | (refine And.intro (by decide) ?_; (conv => whnf)) | (refine br_nself ?_; (conv => whnf)) | (refine br_self ?_; (conv => whnf)) | (refine brT (decide_eq_true (by assumption)) ?_; (conv => whnf)) | (refine brT (by assumption) ?_; (conv => whnf)) | (refine brF (by assumption) ?_; (conv => whnf))))
      rw [show atI (List.map PV.str (l0 :: ls)) 0 = some (.str l0) from atI_nat (j := 0) rfl]
      (conv => whnf); (repeat (first | (refine brT rfl ?_; (conv => whnf)) | (refine brF rfl ?_; (conv => whnf)) | (refine And.intro rfl ?_; (conv => whnf)) | (refine And.intro (Nat.le_of_ble_eq_true rfl) ?_; (conv => whnf)) | (refine And.intro (by assumption) ?_; (conv => whnf)) | (refine And.intro (by decide) ?_; (conv => whnf)) | (refine br_nself ?_; (conv => whnf)) | (refine br_self ?_; (conv => whnf)) | (refine brT (decide_eq_true (by assumption)) ?_; (conv => whnf)) | (refine brT (by assumption) ?_; (conv => whnf)) | (refine brF (by assumption) ?_; (conv => whnf))))
      rw [List.length_map, decide_eq_true rfl]
      exact h
  · exact h.elim
end Px
namespace Px
open PySem PySem.Spec PyProof.Rows L2
end Px
namespace Px
open PySem PySem.Spec PyProof.Rows L2
inductive DV where
  | k (ks : List Key) (xs : List PV)
  | t (ks : List (List Key)) (xs : List PV)
end Px
namespace Px
open PySem PySem.Spec PyProof.Rows L2
/-- a turn: the item, the target, the tests, then go -/
def turnG (p : Pos) (t : Expr) (ifs : List Expr) (go : Sem Unit) (nxt : Code) (it : Value) (env : Env) : Sem Fin := do
  standAt p
  match ← pyNext it with
  | none => pure (.done .next)
  | some v =>
    letOwnedTupleGo t it v
    assign t env v
    let mut ok := true
    for c in ifs do
      if ok then ok ← isTrue c env (eval c env)
    if ok then go
    again nxt
/-- no generator's own: its turns run where it stands -/
structure PlainC (e : Expr) : Prop where
  q : ∀ (d : Nat) (it acc : Value) (env : Env), (Code.compLoop e d it acc env).quiet = true
  loop : ∀ (prog : Program) (w : World) (A : Around) (d : Nat) (it acc : Value) (env : Env) (P : Fin → Shared → Prop) (E : Value → Shared → Prop) (s : Shared), wpAny (model prog w) A ((compTurn e d it acc env).onRaise fun x => do noteFrame x env; theTreesLotGoes x) P E s → wpAny (model prog w) (A.under (.compLoop e d it acc env)) ((model prog w).den (.compLoop e d it acc env)) P E s
  start : ∀ (prog : Program) (w : World) (A : Around) (d : Nat) (it acc : Value) (env : Env) (P : Fin → Shared → Prop) (E : Value → Shared → Prop) (s : Shared), wpAny (model prog w) A ((compStart e d it acc env).onRaise fun x => do noteFrame x env; standAt theWindowsPlace) P E s → wpAny (model prog w) (A.under (.compStart e d it acc env)) ((model prog w).den (.compStart e d it acc env)) P E s
theorem plainC_list {a : Expr} {b : List Comprehension} {c : Scope} {d : Pos} : PlainC (.ListComp a b c d) := ⟨fun _ _ _ _ => rfl, fun _ _ _ _ _ _ _ _ _ _ h => h, fun _ _ _ _ _ _ _ _ _ _ h => h⟩
section
variable {prog : Program} {w : World} {A : Around} {R : Result → Shared → Prop} {s : Shared} {e t : Expr} {d : Nat} {p : Pos} {ifs : List Expr} {it acc : Value} {env : Env} {go : Sem Unit}
theorem loopG (hP : PlainC e) (hT : compTurn e d it acc env = turnG p t ifs go (.compLoop e d it acc env) it env) (J : Nat → Shared → Prop)
    (turn : ∀ n s, J n s → wpAny (model prog w) A (pyNext it) (fun r s1 => match r with
      | none => R (.ok .next) s1
      | some v => wpAny (model prog w) A (letOwnedTupleGo t it v) (fun _ s2 => wpAny (model prog w) A (assign t env v) (fun _ s3 =>
          wpAny (model prog w) A (forIn ifs true fun c r => if r = true then do let ok ← isTrue c env (eval c env); pure (ForInStep.yield ok) else pure (ForInStep.yield r)) (fun ok s4 =>
            if ok = true then wpAny (model prog w) A go (fun _ s5 => ∃ m, m < n ∧ J m s5) (notedBy (model prog w) A env fun x s' => R (.error x) s') s4
            else ∃ m, m < n ∧ J m s4) (notedBy (model prog w) A env fun x s' => R (.error x) s') s3) (notedBy (model prog w) A env fun x s' => R (.error x) s') s2) (notedBy (model prog w) A env fun x s' => R (.error x) s') s1) (notedBy (model prog w) A env fun x s' => R (.error x) s') s)
    (n : Nat) (h : J n s) : codeAny (model prog w) A (.compLoop e d it acc env) R s := by
  refine codeAny_loop (hP.q _ _ _ _) J (fun k s0 hJ => hP.loop _ _ _ _ _ _ _ _ _ _ (wpAny_noted ?_)) n h
  rw [hT]
  unfold turnG
  refine wpAny_bind (wpAny_standAt (wpAny_bind (wpAny_mono (turn k s0 hJ) (fun r s1 h1 => ?_) fun _ _ z => z)))
  cases r with
  | none => exact wpAny_pure h1
  | some v =>
    refine wpAny_bind (wpAny_mono h1 (fun _ s2 h2 => wpAny_bind (wpAny_mono h2 (fun _ s3 h3 => wpAny_bind (wpAny_mono h3 (fun ok s4 h4 => ?_) fun _ _ z => z)) fun _ _ z => z)) fun _ _ z => z)
    cases ok with
    | false => exact wpAny_pure ⟨rfl, h4⟩
    | true => exact wpAny_bind (wpAny_mono h4 (fun _ s5 h5 => wpAny_pure ⟨rfl, h5⟩) fun _ _ z => z)
theorem startG {i : Expr} (hP : PlainC e) (hcl : (clausesOf e)[d]? = some ⟨t, i, ifs, 0⟩) (h0 : codeAny (model prog w) A (.compLoop e d it acc env) R s)
    (h : wpAny (model prog w) A (pyIter it) (fun it2 s2 => codeAny (model prog w) A (.compLoop e d it2 acc env) R s2) (notedBy (model prog w) A env fun x s' => R (.error x) s') s) : codeAny (model prog w) A (.compStart e d it acc env) R s := by
  refine codeAny_of_tree (hP.start _ _ _ _ _ _ _ _ _ _ (wpAny_notedAt ?_))
  unfold compStart
  rw [hcl]
  show wpAny _ A (ask >>= _) _ _ s
  refine wpAny_bind (wpAny_askSetting (wpAny_ite ?_))
  split
  · first | exact wpAny_bind (wpAny_pure (wpAny_pure ⟨hP.q _ _ _ _, h0⟩)) | exact wpAny_pure ⟨hP.q _ _ _ _, h0⟩
  · refine wpAny_bind (wpAny_rule ?_)
    first
      | exact wpAny_bind (wpAny_standAt (wpAny_bind (wpAny_mono h (fun it2 s2 h2 => wpAny_pure ⟨hP.q _ _ _ _, h2⟩) fun _ _ z => z)))
      | (show wpAny _ _ (standAt i.pos >>= _) _ _ s; exact wpAny_bind (wpAny_standAt (wpAny_bind (wpAny_mono h (fun it2 s2 h2 => wpAny_pure ⟨hP.q _ _ _ _, h2⟩) fun _ _ z => z))))
end
abbrev BlkX (X : Cx) (scope : Scope) (P : Cx → Prop) : Prop := ∀ (s : Shared) (H : Hp) (C : Addr) (cl : List (Str × Addr)) (fp : List Addr), P (X.blk s H scope (compEnvC scope cl C X.env) fp)
abbrev TM := Addr → L2.St → Hp → (Hp → Prop) → Prop
/-- the new thing is laid -/
structure MkG (X : Cx) (mk : Sem Value) (o0 : Obj) (u0 : HO) : Prop where
  run : ∀ {E : Value → Shared → Prop} {s : Shared} {Q : Value → Shared → Prop}, Q (.ref s.heap.objs.size) { s with heap := s.heap.push o0 } → wpAny (model X.prog X.w) X.A mk Q E s
  ok : ∀ (H : Hp) (h : Heap), sysModules < h.objs.size → ObjOk X.prog X.w H (h.push o0) h.objs.size u0
def tCG (u0 : HO) (wi : TI) (g : TG) (tt : TT) (tb : Addr → L2.St → Hp → (Hp → Prop) → Prop) (vs : List Nat) : TE := fun σ H Q => wi σ H fun J H1 => ∀ D, H1 D = none → ∃ W : Nat → Nat → Hp → Prop, (∃ m, W 0 m (upd H1 D u0)) ∧ ∀ i m H, W i m H →
  (J.stop i H ∧ Q (.ref D) H) ∨ (J.go i H ∧ ∃ Nx : Hp → Prop, (∀ H', Nx H' → ∃ m', m' < m ∧ W (i + 1) m' H') ∧ ∀ x H', J.yld i H x H' → g x (L2.wipe σ vs) H' fun σ2 H2 => L2.wipe σ2 vs = L2.wipe σ vs ∧ tt σ2 H2 fun b H3 => if b = true then tb D σ2 H3 Nx else Nx H3)
section
variable {X : Cx}
theorem wipe_keep {σ σ0 : L2.St} {own : List Nat} (e : L2.wipe σ own = σ0) : σ0.length = σ.length ∧ ∀ (j : Nat) v, σ0[j]? = some (some v) → σ[j]? = some (some v) := by
  subst e
  exact ⟨wipe_length _ _, fun j v h => (wipe_some h).1⟩
end
end Px
namespace Px
open PySem PySem.Spec PyProof.Rows L2
section
variable {α : Type}
/-- what a turn does to the state of the hidden thing -/
abbrev EmP (α : Type) := En → Mu → α → (α → Mu → Prop) → Prop
/-- what the hidden thing is, told by its state -/
structure AccR (K : Frg) (α : Type) where
  ok : BX → Hp → α → HO → Prop
  mono : ∀ {B : BX} {G G' : Hp} {a : α} {u : HO}, Sub G G' → ok B G a u → ok B G' a u
  nt : ∀ {B : BX} {G : Hp} {a : α} {u : HO}, ok B G a u → NT u
  ntu : ∀ {B : BX} {G : Hp} {a : α} {u : HO}, ok B G a u → ∀ xs, u ≠ .tup xs
/-- a step from (μ0, G0, H0), where D was free; nobody was told of D -/
structure Hid (K : Frg) (B : BX) (Ac : AccR K α) (μ0 : Mu) (G0 H0 : Hp) (D : Addr) (a : α) (μ : Mu) (G H : Hp) : Prop where
  g : Go K B μ0 G0 H0 μ G H
  d0 : H0 D = none
  gD : G D = none
  mD : μ D = none
  nb : ¬ isB B D
  hD : ∃ u, H D = some u ∧ Ac.ok B G a u
variable {K : Frg} {B : BX} {Ac : AccR K α} {μ0 μ μ1 : Mu} {G0 H0 G H G1 H1 : Hp} {D : Addr} {a a' : α}
theorem Hid.step (h : Hid K B Ac μ0 G0 H0 D a μ G H) (g : Go K B μ G H μ1 G1 H1) : Hid K B Ac μ0 G0 H0 D a μ1 G1 H1 := by
  obtain ⟨u, e, c⟩ := h.hD
  obtain ⟨x1, x2, x3⟩ := g.hid h.gD h.mD e h.nb (Ac.nt c) (Ac.ntu c)
  exact ⟨h.g.trans g, h.d0, x1, x2, h.nb, u, x3, Ac.mono g.gx c⟩
theorem Hid.put (h : Hid K B Ac μ0 G0 H0 D a μ G H) {u : HO} (c : Ac.ok B G a' u) : Hid K B Ac μ0 G0 H0 D a' μ G (upd H D u) := by
  obtain ⟨u0, e, c0⟩ := h.hD
  have ok5 : Ok K B μ G (upd H D u) := h.g.ok.mut e h.gD h.mD h.nb (Ac.nt c0)
  refine ⟨⟨ok5, ⟨h.g.st.gx, fun x k => ?_, fun x o k nb mm nt => ?_, h.g.st.new, h.g.st.cel⟩⟩, h.d0, h.gD, h.mD, h.nb, u, upd_same, c⟩
  · by_cases z : x = D
    · subst z; exact h.d0
    · rw [upd_ne z] at k; exact h.g.st.dom x k
  · rw [upd_ne (ne_of_none k h.d0)]
    exact h.g.st.keep x o k nb mm nt
theorem Hid.rel (h : Hid K B Ac μ0 G0 H0 D a μ G H) {ρ : En} {σ : L2.St} {G2 H2 : Hp} {μ2 : Mu} (R : Rel K B ρ μ2 σ G2 H2) (s : G2 = G) (m : μ2 = μ) : Rel K B ρ μ σ G H := by
  subst s m
  exact ⟨h.g.ok, R.len, R.at_⟩
end
def DV.pv : DV → PV
  | .k ks xs => .dK ks xs
  | .t ks xs => .dT ks xs
def DV.cell : DV → Cell
  | .k ks xs => .dK ks xs
  | .t ks xs => .dT ks xs
end Px
namespace Px
open PySem PySem.Spec PyProof.Rows L2
end Px
namespace Px
open PySem PySem.Spec PyProof.Rows L2
def tmLst (te : TE) : TM := fun D σ H Nx => te σ H fun y H4 => ∃ acc, H4 D = some (.lst acc) ∧ acc.length < sizeLine ∧ Nx (upd H4 D (.lst (acc ++ [y])))
def emitL (elt : Expr) (acc : Value) (env : Env) : Sem Unit := do
  let x ← eval elt env
  let _ ← call (.builtin "list.append") [acc, x]
section
variable {X : Cx} {W : WX}
theorem mkg_lst : MkG X (newList []) { cls := .type "list", data := .seq ([] : List Value).toArray } (.lst []) := ⟨fun {E s Q} h => wpAny_newObj_type h (by show 0 ≤ sizeLine; decide), fun H h hb => ⟨Nat.zero_le _, [], 0, .nil, Heap.get?_push_size _ rfl⟩⟩
variable {elt iter : Expr} {ifs : List Expr} {scope : Scope} {own : List (Str × Nat)} {pos px : Pos} {x : Str} {k i : Nat} {d : DE} {dt : DT} {de : DE}
theorem turn_lc1 {tg : Expr} (it : Value) (D : Addr) (env : Env) : compTurn (.ListComp elt [⟨tg, iter, ifs, 0⟩] scope pos) 0 it (.ref D) env = turnG iter.pos tg ifs (emitL elt (.ref D) env) (.compLoop (.ListComp elt [⟨tg, iter, ifs, 0⟩] scope pos) 0 it (.ref D) env) it env := by rfl
variable {kx vx : Expr} {em : EmP DV} {dk dv : DE} {fz tk : Bool}
end
end Px
namespace Px
open PySem PySem.Spec PyProof.Rows L2
theorem nsSet_toks {M : Model} {Γ : PySem.Ctx} {a : Addr} {name : Str} {v : Value} {Q : Unit → Pos → Shared → Prop} {E : Value → Pos → Shared → Prop} {p : Pos} {s : Shared} (h : Sem.wp M Γ (nsSet a name v) Q E p s) : Sem.wp M Γ (nsSet a name v) (fun r p' s' => s.toks + 1 ≤ s'.toks ∧ Q r p' s') (fun e p' s' => s.toks + 1 ≤ s'.toks ∧ E e p' s') p s := by
  simp only [nsSet, strHash, Sem.wp_bind', Sem.wp_cmd_ask, Sem.wp_pure', Sem.wp_cmd_mkText] at h ⊢
  exact Sem.wp_mono M Γ _ (fun x p' s' k => Sem.wp_toks M Γ (s.toks + 1) _ _ _ _ _ k.1 k.2) (fun _ _ _ k => k) _ _ (Sem.wp_toks M Γ (s.toks + 1) _ _ _ p _ (Nat.le_refl _) h)
/-- a name is given a value: a token is out -/
def PG1 (X : Cx) (target : Expr) (t : TG) : Prop := ∀ (pins : List (Addr × Obj)) (s : Shared) (σ : L2.St) (H : Hp) (v : V) (u : Value) (Q : L2.St → Hp → Prop), Inv X pins σ H s → RelV v u → t v σ H Q →
    wpAny (model X.prog X.w) X.A (assign target X.env u) (fun _ s' => 1 ≤ s'.toks ∧ ∃ σ' H', Inv X pins σ' H' s' ∧ Q σ' H') X.xe s
theorem pg1_name {X : Cx} {x : Str} {pos : Pos} {g : TG} (h : PG X (.Name x pos) g) (hl : X.env.kindOf x = some .local) : PG1 X (.Name x pos) g := fun pins s σ H v u Q I r z => by
  have hk : (X.env.scope.kind == .class || (X.env.scope.kind == .module && X.env.locals != X.env.globals)) = false := by rw [I.ok.kind] <;> rfl
  intro Γ p hΓ
  have y := h.run pins s σ H v u Q I r z Γ p hΓ
  rw [PySem.arm_assign_Name] at y ⊢
  simp only [Sem.wp_bind', Sem.wp_cmd_standAt, Sem.wp_bindName, storeName_local hl hk] at y ⊢
  exact Sem.wp_mono _ Γ _ (fun _ _ s' k => ⟨Nat.le_trans (Nat.succ_le_succ (Nat.zero_le _)) k.1, k.2⟩) (fun _ _ s' k => k.2) _ _ (nsSet_toks y)
def PGo1 (Y : Cx) (e : Expr) (own : List Nat) (go : Value → Env → Sem Unit) (tb : TM) : Prop := ∀ (pins : List (Addr × Obj)) (s : Shared) (σ0 σ : L2.St) (H : Hp) (D : Addr) (Nx : Hp → Prop), 1 ≤ s.toks → Inv Y pins σ H s → L2.wipe σ own = σ0 → tb D σ H Nx →
  wpAny (model Y.prog Y.w) Y.A (go (.ref D) Y.env) (fun _ s' => ∃ σ' H', Inv Y pins σ' H' s' ∧ σ0.length = σ'.length ∧ (∀ (j : Nat) v, σ0[j]? = some (some v) → σ'[j]? = some (some v)) ∧ Nx H') Y.xe s
theorem pgo1_lst {Y : Cx} {e elt : Expr} {own : List Nat} {te : TE} (h : PET Y elt te) : PGo1 Y e own (emitL elt) (tmLst te) := fun pins s σ0 σ H D Nx t1 J hw z => by
  obtain ⟨k1, k2⟩ := wipe_keep hw
  unfold emitL
  exact wpAny_bind (thn (h pins s σ H _ t1 J z) fun u s1 ⟨y, H1, J1, ru, acc, hD, hz, nx⟩ => wpAny_bind (app_ok J1 hD hz ru fun s' J' => wpAny_pure ⟨σ, _, J', k1, k2, nx⟩))
section
variable {X : Cx}
theorem cg_core1 {e tg iter : Expr} {ifs : List Expr} {rest : List Comprehension} {scope : Scope} {own : List (Str × Nat)} {pos' : Pos} {mk : Sem Value} {o0 : Obj} {u0 : HO} {go : Value → Env → Sem Unit} {wi : TI} {g : TG} {tt : TT} {tb : TM} {pins : List (Addr × Obj)} {s : Shared} {σ : L2.St} {H : Hp} {Q : VK} {use : Option (Value → Sem Unit)} {Qf : Value → Shared → Prop}
    (hP : PlainC e) (hc : X.calm = true) (nd : X.N.Nodup) (J : Inv X pins σ H s) (hcl : clausesOf e = ⟨tg, iter, ifs, 0⟩ :: rest) (hi : PI X tg iter wi) (ok : BlkOk X.N X.env.scope scope own) (M : MkG X mk o0 u0)
    (hT : ∀ (it : Value) (D : Addr) (env : Env), compTurn e 0 it (.ref D) env = turnG iter.pos tg ifs (go (.ref D) env) (.compLoop e 0 it (.ref D) env) it env)
    (hg : BlkX X scope fun Y => PG1 Y tg g) (ht : BlkX X scope fun Y => PTs Y ifs tt) (hgo : BlkX X scope fun Y => PGo1 Y e (own.map (·.2)) go tb) (hs : ∀ x, foldedSetIterable iter X.env x = pure x) (h : tCG u0 wi g tt tb (own.map (·.2)) σ H Q)
    (fin : ∀ D C s' m H', Inv X pins σ H' s' → Q (.ref D) H' → s'.heap.Ns C m → FpOk X pins H' C → compPost (model X.prog X.w) X.A X.xe use Qf (.ref D) C (.ok .next) s') :
    wpAny (model X.prog X.w) X.A (comprehension e scope X.env pos' mk false (eval iter X.env) use) Qf X.xe s := by
  have free : ∀ y ∈ scope.names, y.2 = .free → ∃ c, X.env.cells.lookup y.1 = some c := fun y hy k => (ok.free y hy k).elim (fun k => J.ok.has _ (.inl k)) fun k => J.ok.has _ (.inr k)
  refine wpAny_comprehension_free (use := use) hcl hs (closure_ok free) ok.kind (fun y hy k => by rw [ok.uniq y hy, k]) (thn (hi.run pins s σ H _ J h) fun xv s1 hx => thn hx fun itv s2 ⟨it, fp, tn, Jt, H2, ei, J2, T, st2, f2, q⟩ => ?_)
  subst ei
  refine M.run (newEnv_comp ?_)
  obtain ⟨D, hD⟩ : ∃ D, s2.heap.objs.size = D := ⟨_, rfl⟩
  rw [hD]
  have nD : H2 D = none := J2.hok.fresh (Nat.le_of_eq hD)
  obtain ⟨W, ⟨m0, w0⟩, turn⟩ := q D nD
  obtain ⟨s3, es3⟩ : ∃ s3 : Shared, s3 = { s2 with heap := s2.heap.push o0 } := ⟨_, rfl⟩
  have h3 : s3.heap = s2.heap.push o0 := by rw [es3]
  have J3 : Inv X pins σ (upd H2 D u0) s3 := by
    rw [es3]
    refine J2.laid (t' := s2.toks) (fun b o k => Heap.get?_push_of_some _ k) (Nat.le_of_eq hD) ?_
    rw [← hD]
    exact M.ok _ _ J2.big
  rw [← es3]
  have st3 : tn 0 s3.heap := T.keep _ _ _ st2 fun b _ o k => by rw [h3]; exact Heap.get?_push_of_some _ k
  obtain ⟨H3, eH3⟩ : ∃ H3, H3 = upd H2 D u0 := ⟨_, rfl⟩
  rw [← eH3] at J3 w0
  have f3 : ∀ b ∈ fp, FpOk X pins H3 b ∧ b < s3.heap.objs.size := fun b hb => by
    obtain ⟨o, k, _⟩ := T.obj _ _ st2 b hb
    have lt := Heap.lt_size k
    refine ⟨⟨?_, (f2 b hb).2⟩, by rw [h3, Heap.size_push]; exact Nat.lt_succ_of_lt lt⟩
    rw [eH3, upd_ne (by rw [← hD]; exact Nat.ne_of_lt lt)]
    exact (f2 b hb).1
  have J4 := block_start J3 ok nd f3
  obtain ⟨cls, ecl⟩ : ∃ cls, cls = cellsFrom (s3.heap.objs.size + 1) scope.names (cloFrom X.env.cells scope.names []) := ⟨_, rfl⟩
  have pg := hg s3 H3 s3.heap.objs.size cls fp
  have pt := ht s3 H3 s3.heap.objs.size cls fp
  have pgo := hgo s3 H3 s3.heap.objs.size cls fp
  rw [← ecl] at J4
  obtain ⟨s4, es4⟩ : ∃ s4 : Shared, s4 = { s3 with heap := pushCells (s3.heap.push { cls := .type "dict", data := .dict #[] }) scope.names } := ⟨_, rfl⟩
  rw [← es4] at J4
  show codeAny _ _ (.compStart e 0 (.ref it) (.ref D) (compEnvC scope (cellsFrom (s3.heap.objs.size + 1) scope.names (cloFrom X.env.cells scope.names [])) s3.heap.objs.size X.env)) (compPost (model X.prog X.w) X.A X.xe use Qf (.ref D) s3.heap.objs.size) { s3 with heap := pushCells (s3.heap.push { cls := .type "dict", data := .dict #[] }) scope.names }
  rw [← es4, ← ecl]
  have st4 : tn 0 s4.heap := T.keep _ _ _ st3 fun b _ o k => by rw [es4]; exact pushCells_keeps _ _ _ _ (Heap.get?_push_of_some _ k)
  obtain ⟨ce, ece⟩ : ∃ ce, ce = compEnvC scope cls s3.heap.objs.size X.env := ⟨_, rfl⟩
  rw [← ece] at J4 pg pt pgo ⊢
  have cL : ce.locals = s3.heap.objs.size := by rw [ece]; rfl
  have nfp : ∀ b ∈ fp, H3 b = none := fun b hb => (f3 b hb).1.1
  have own_fp : ∀ {σ' : L2.St} {H' : Hp} {s' : Shared}, Inv (X.blk s3 H3 scope ce fp) [] σ' H' s' → (∀ b ∈ fp, H' b = none) → ∀ b ∈ fp, FpOk (X.blk s3 H3 scope ce fp) [] H' b := fun {σ' H' s'} I' hn b hb =>
    ⟨hn b hb, (I'.ok.exf b hb).1, I'.ok.exfs b hb, .inl hb, fun x c k => (I'.ok.exf b hb).2 x c k, fun p hp => absurd (show p ∈ ([] : List (Addr × Obj)) ++ [] from hp) (by simp)⟩
  have loop : codeAny (model X.prog X.w) X.A (.compLoop e 0 (.ref it) (.ref D) ce) (compPost (model X.prog X.w) X.A X.xe use Qf (.ref D) s3.heap.objs.size) s4 := by
    refine loopG hP (hT _ _ _) (fun n s' => ∃ i H', Inv (X.blk s3 H3 scope ce fp) [] (L2.wipe σ (own.map (·.2))) H' s' ∧ tn i s'.heap ∧ (∀ b ∈ fp, H' b = none) ∧ W i n H') ?_ m0 ⟨0, H3, J4, st4, nfp, w0⟩
    rintro n s5 ⟨i, H5, J5, st5, n5, w5⟩
    rcases turn i n H5 w5 with ⟨stop, fq⟩ | ⟨gon, Nx, hNx, step⟩
    · refine thnF (T.done (X.blk s3 H3 scope ce fp) rfl rfl rfl hc i [] s5 _ H5 (fun _ _ => False) J5 (own_fp J5 n5) st5 stop) fun r s6 ⟨er, J6⟩ => ?_
      subst er
      have nC : H5 s3.heap.objs.size = none := by
        have y : H5 ce.locals = none := J6.free
        rw [cL] at y
        exact y
      have J7 : Inv X pins σ H5 s6 := J3.call' (ch := fp) J6.os J6.base J6.hok J6.bare fun b hb => ⟨(f3 b hb).1.2.2.2.1, (f3 b hb).1.2.1, (f3 b hb).1.2.2.2.2.1, (f3 b hb).1.2.2.2.2.2⟩
      obtain ⟨m, hn, _⟩ := J6.loc
      have hn : s6.heap.Ns ce.locals m := hn
      rw [cL] at hn
      exact fin D s3.heap.objs.size s6 m H5 J7 fq hn (J3.fpOk (Nat.le_refl _) nC)
    · refine thnF (T.item (X.blk s3 H3 scope ce fp) rfl rfl rfl hc i [] s5 _ H5 (fun _ _ => False) J5 (own_fp J5 n5) st5 gon) fun r s6 ⟨u, er, h6⟩ => ?_
      subst er
      refine thnF h6 fun _ s7 ⟨x, H7, J7, r7, y7, st7, n7⟩ => ?_
      refine thnF (pg _ s7 _ H7 x u _ (J7.pinned (own_fp J7 n7) (T.obj _ _ st7)) r7 (step x H7 y7)) fun _ s8 ⟨t8, σ8, H8, J8, hw8, q8⟩ => ?_
      refine thnF (wpAny_mono (PySem.wpAny_toks_of t8 (pt.run _ s8 σ8 H8 _ J8 q8)) (fun _ _ z => z) fun _ _ z => z.2) fun b s9 ⟨t9, H9, J9, q9⟩ => ?_
      have back : ∀ {σ9 : L2.St} {s' : Shared} {H' : Hp}, Inv (X.blk s3 H3 scope ce fp) ([] ++ pinsAt fp s7.heap) σ9 H' s' → (L2.wipe σ (own.map (·.2))).length = σ9.length → (∀ (j : Nat) v, (L2.wipe σ (own.map (·.2)))[j]? = some (some v) → σ9[j]? = some (some v)) → Nx H' →
          ∃ m, m < n ∧ ∃ i H', Inv (X.blk s3 H3 scope ce fp) [] (L2.wipe σ (own.map (·.2))) H' s' ∧ tn i s'.heap ∧ (∀ b ∈ fp, H' b = none) ∧ W i m H' := fun {σ9 s' H'} J' hl hk nx => by
        obtain ⟨m', hm, w'⟩ := hNx H' nx
        have pin : ∀ b ∈ fp, ∀ o, s7.heap.get? b = some o → s'.heap.get? b = some o ∧ H' b = none := fun b hb o k => by
          have y := J'.pin (b, o) (List.mem_append_right _ (List.mem_append_right _ (mem_pinsAt hb k)))
          exact ⟨y.1, y.2.1⟩
        refine ⟨m', hm, i + 1, H', (J'.unpinned (pins := [])).weak hl hk, T.keep _ _ _ st7 fun b hb o k => (pin b hb o k).1, fun b hb => ?_, w'⟩
        obtain ⟨o, k, _⟩ := T.obj _ _ st7 b hb
        exact (pin b hb o k).2
      cases b with
      | false =>
        rw [if_neg (by decide)] at q9
        obtain ⟨k1, k2⟩ := wipe_keep hw8
        exact back J9 k1 k2 q9
      | true =>
        rw [if_pos rfl] at q9
        exact thnF (pgo _ s9 _ σ8 H9 D Nx t9 J9 hw8 q9) fun _ s10 ⟨σ10, H10, J10, l10, k10, nx⟩ => back J10 l10 k10 nx
  have hcl0 : (clausesOf e)[0]? = some ⟨tg, iter, ifs, 0⟩ := by rw [hcl] <;> rfl
  exact startG hP hcl0 loop (T.self X.A 0 _ _ _ st4 loop)
/-- as a value -/
theorem pe_cg1 {e tg iter : Expr} {ifs : List Expr} {rest : List Comprehension} {scope : Scope} {own : List (Str × Nat)} {pos' : Pos} {mk : Sem Value} {o0 : Obj} {u0 : HO} {go : Value → Env → Sem Unit} {wi : TI} {g : TG} {tt : TT} {tb : TM}
    (hP : PlainC e) (hev : eval e X.env = comprehension e scope X.env pos' mk false (eval iter X.env) none) (hc : X.calm = true) (nd : X.N.Nodup) (hcl : clausesOf e = ⟨tg, iter, ifs, 0⟩ :: rest) (hi : PI X tg iter wi) (ok : BlkOk X.N X.env.scope scope own) (M : MkG X mk o0 u0)
    (hT : ∀ (it : Value) (D : Addr) (env : Env), compTurn e 0 it (.ref D) env = turnG iter.pos tg ifs (go (.ref D) env) (.compLoop e 0 it (.ref D) env) it env)
    (hg : BlkX X scope fun Y => PG1 Y tg g) (ht : BlkX X scope fun Y => PTs Y ifs tt) (hgo : BlkX X scope fun Y => PGo1 Y e (own.map (·.2)) go tb) (hs : ∀ x, foldedSetIterable iter X.env x = pure x) : PE X e (tCG u0 wi g tt tb (own.map (·.2))) := by
  refine ⟨fun pins s σ H Q J h => ?_⟩
  rw [hev]
  refine cg_core1 hP hc nd J hcl hi ok M hT hg ht hgo hs h fun D C s' m H' J' q hn f => ⟨m, hn, fun h2 sb => ?_⟩
  obtain ⟨f0, f1, f2, f3, f4, f5⟩ := f
  exact ⟨.ref D, H', J'.turned (t' := s'.toks) (fun b o hb k => (sb.2 b hb).trans k) f0 f1 f3 f4 f5, rfl, q⟩
end
end Px
namespace Px
open PySem PySem.Spec PyProof.Rows L2
end Px
namespace Px
open PySem PySem.Spec PyProof.Rows L2
end Px
namespace Px
open PySem PySem.Spec PyProof.Rows L2
abbrev EJT (X : Cx) (W : WX) (e : Expr) (d : DE) : Prop := PET X e (tE X.K W d)
def dRepl (d : DE) (y z : Str) : DE := fun ρ μ q x => d ρ μ (fun p μ1 => match p with
  | .str a => a.length + (a.length + 1) * z.length ≤ 16777216 ∧ q (.str (Txt.replace a y z)) μ1
  | _ => False) x
section
variable {X : Cx} {W : WX} {o : Expr} {d : DE} {y z : Str} {j k : Nat} {c0 c1 apos pos : Pos}
theorem repl_imp : ∀ σ H Q, tE X.K W (dRepl d y z) σ H Q → CwR.tReplC (tE X.K W d) y z σ H Q := fun σ H Q ⟨B, ρ, μ, G, q, x, Rl, h, gv, gx⟩ => ⟨B, ρ, μ, G, _, x, Rl, h, fun p v μ1 G1 H1 h1 g1 r1 => by
  cases p with
  | str a =>
    obtain ⟨h2, h3⟩ := h1
    exact ⟨a, r1.str_inv, h2, gv _ _ _ _ _ h3 g1 (rep_str _)⟩
  | _ => exact h1.elim, gx⟩
theorem ejt_replC (ho : EJ X W o d) (hyz : (y == z) = false) (h1 : nsup o = true) (h2 : (apos.endLine == pos.line) = true) : EJT X W (.Call (.Attribute o "replace" apos) [.Constant (.str y) j c0, .Constant (.str z) k c1] [] pos) (dRepl d y z) := fun pins s σ H Q t I h => CwR.pet_replC ho hyz rfl (base_of h1) h2 pins s σ H Q t I (repl_imp σ H Q h)
theorem ejt_replT (ho : EJT X W o d) (hyz : (y == z) = false) (h1 : nsup o = true) (h2 : (apos.endLine == pos.line) = true) : EJT X W (.Call (.Attribute o "replace" apos) [.Constant (.str y) j c0, .Constant (.str z) k c1] [] pos) (dRepl d y z) := fun pins s σ H Q t I h => CwR.pet_replT ho hyz rfl (base_of h1) h2 pins s σ H Q t I (repl_imp σ H Q h)
end
theorem l_comp1 {X : Cx} {W : WX} {elt iter : Expr} {x : Str} {px : Pos} {scope : Scope} {own : List (Str × Nat)} {pos : Pos} {di : DI} {de : DE} {i : Nat} (hc : X.calm = true) (nd : X.N.Nodup) (hi : IJ X W (.Name x px) iter di) (ok : BlkOk X.N X.env.scope scope own) (hx : scope.names.lookup x = some .local)
    (hg : BlkX X scope fun Y => PG Y (.Name x px) (tgOf X.K (.one i))) (ht : BlkX X scope fun Y => TsJ Y Wno [] dYes)
    (he : BlkX X scope fun Y => EJT Y Wno elt de) (hw : i ∈ own.map (·.2)) (hs : ∀ x, foldedSetIterable iter X.env x = pure x) :
    LJ X W (.ListComp elt [⟨.Name x px, iter, [], 0⟩] scope pos) (lComp (.one i) (own.map (·.2)) di dYes de) :=
  pe_imp (pe_cg1 (tb := tmLst (tE X.K Wno de)) plainC_list (eval_ListComp ..) hc nd rfl hi ok mkg_lst (fun it D env => turn_lc1 it D env) (fun s H C cl fp => pg1_name (hg s H C cl fp) (lookup_relabel_local hx)) ht (fun s H C cl fp => pgo1_lst (he s H C cl fp)) hs) fun σ H Q h => tlc_of (t := .one i) (by intro j hj; rw [List.mem_singleton.mp hj]; exact hw) h
/-- a chain of replaces -/
structure ZR where
  d : Rt → DE
  ck : Cc → Expr → Bool
  ok : ∀ {k : Nat} {R : Rt} {X : Cx} {W : WX} {c : Cc} {e : Expr}, ck c e = true → Good k R X W c → EJT X W e (d R)
def rOne (a : ZE) (y z : Str) : ZR where
  d := fun R => dRepl (a.d R) y z
  ck := fun c e => match e with
    | .Call (.Attribute o m apos) [.Constant (.str y0) _ _, .Constant (.str z0) _ _] [] pos => decide (m = "replace") && (decide (y0 = y) && (decide (z0 = z) && (!(y == z) && (nsup o && ((apos.endLine == pos.line) && a.ck c o)))))
    | _ => false
  ok := fun {k R X W c e} h G => by
    split at h
    · obtain ⟨h1, h⟩ := He.ba h
      obtain ⟨h2, h⟩ := He.ba h
      obtain ⟨h3, h⟩ := He.ba h
      obtain ⟨h4, h⟩ := He.ba h
      obtain ⟨h5, h⟩ := He.ba h
      obtain ⟨h6, h7⟩ := He.ba h
      obtain rfl := of_decide_eq_true h1
      obtain rfl := of_decide_eq_true h2
      obtain rfl := of_decide_eq_true h3
      exact ejt_replC (a.ok h7 G) (by simpa using h4) h5 h6
    · cases h
def rMore (a : ZR) (y z : Str) : ZR where
  d := fun R => dRepl (a.d R) y z
  ck := fun c e => match e with
    | .Call (.Attribute o m apos) [.Constant (.str y0) _ _, .Constant (.str z0) _ _] [] pos => decide (m = "replace") && (decide (y0 = y) && (decide (z0 = z) && (!(y == z) && (nsup o && ((apos.endLine == pos.line) && a.ck c o)))))
    | _ => false
  ok := fun {k R X W c e} h G => by
    split at h
    · obtain ⟨h1, h⟩ := He.ba h
      obtain ⟨h2, h⟩ := He.ba h
      obtain ⟨h3, h⟩ := He.ba h
      obtain ⟨h4, h⟩ := He.ba h
      obtain ⟨h5, h⟩ := He.ba h
      obtain ⟨h6, h7⟩ := He.ba h
      obtain rfl := of_decide_eq_true h1
      obtain rfl := of_decide_eq_true h2
      obtain rfl := of_decide_eq_true h3
      exact ejt_replT (a.ok h7 G) (by simpa using h4) h5 h6
    · cases h
/-- [a chain of replaces for x in i] -/
def zCompR (t : Nat) (own : List Nat) (i : ZI) (a : ZR) : ZL where
  d := fun R => lComp (.one t) own (i.d R) (tsNil.d R) (a.d R)
  ck := fun c e => match e with
    | .ListComp elt [⟨.Name x p, iter, [], as⟩] scope _ => decide (as = 0) && (c.cm && (blkC c.N c.sc scope (ownN c.N own) && (decide (t ∈ own) && (noSet iter && (i.ck c (.Name x p) iter && (tgCk (c.blk scope) (.one t) (.Name x p) && (decide (scope.names.lookup x = some .local) && a.ck (c.blk scope) elt)))))))
    | _ => false
  ok := fun {k R X W c e} h G => by
    split at h
    · rename_i elt x p iter as scope pos
      obtain ⟨h0, h⟩ := He.ba h
      obtain ⟨h1, h⟩ := He.ba h
      obtain ⟨h2, h⟩ := He.ba h
      obtain ⟨h3, h⟩ := He.ba h
      obtain ⟨h4, h⟩ := He.ba h
      obtain ⟨h5, h⟩ := He.ba h
      obtain ⟨h6, h⟩ := He.ba h
      obtain ⟨h7, h8⟩ := He.ba h
      obtain rfl := of_decide_eq_true h0
      have bo : BlkOk X.N X.env.scope scope (ownN c.N own) := by rw [G.N, G.sc]; exact blkOk_by h2
      have GB := fun s H C cl fp => G.blk h1 s H scope C cl fp
      have r := l_comp1 (i := t) (own := ownN c.N own) (pos := pos) (G.calm h1) G.nd (i.ok (tg := .Name x p) h5 G) bo (of_decide_eq_true h7) (fun s H C cl fp => (GB s H C cl fp).tg h6) (fun s H C cl fp => tsNil.ok rfl (GB s H C cl fp)) (fun s H C cl fp => a.ok h8 (GB s H C cl fp)) (by rw [ownN_ix]; exact of_decide_eq_true h3) (fold_of h4)
      rw [ownN_ix] at r
      exact r
    · cases h
end Px
namespace Px
open PySem PySem.Spec PyProof.Rows L2
theorem good_bad {ls : List Str} (g : GoodLn ls) : badL ls = -1 := by
  have go : ∀ (zs : List Str) (i : Nat), (∀ z ∈ zs, z ∈ ls) → i + zs.length ≤ 40 → badFrom (wideL ls) i zs = -1 := by
    intro zs
    induction zs with
    | nil => intro i _ _; rfl
    | cons z zs ih =>
      intro i h hl
      rw [List.length_cons] at hl
      have hz := h z List.mem_cons_self
      have l := g.len z hz
      have s := g.sg z hz
      have w1 := g.w1
      have w2 := g.w2
      unfold badFrom
      have : (lineB (wideL ls) z && decide (i < 40)) = true := by
        simp only [lineB, s, Bool.and_eq_true, decide_eq_true_eq]
        refine ⟨⟨?_, ?_, ?_, ?_⟩, ?_⟩ <;> first | trivial | rfl | omega
      rw [if_pos this]
      exact ih (i + 1) (fun y hy => h y (List.mem_cons_of_mem _ hy)) (by omega)
  unfold badL
  split
  · exact absurd g.ne (by decide)
  · rename_i h
    have := g.le
    exact go ls 0 (fun _ h => h) (by omega)
/-- lines of one width and good signs -/
theorem good_of {ls : List Str} {n : Nat} (l1 : 1 ≤ ls.length) (l2 : ls.length ≤ 40) (n1 : 1 ≤ n) (n2 : n ≤ 40) (h : ∀ z ∈ ls, z.length = n ∧ z.cps.toList.all sgB = true) : GoodLn ls ∧ wideL ls = n := by
  have w : wideL ls = n := by
    cases ls with
    | nil => cases l1
    | cons a b => exact (h a List.mem_cons_self).1
  exact ⟨⟨l1, l2, by omega, by omega, fun z hz => by rw [w]; exact (h z hz).1, fun z hz => (h z hz).2⟩, w⟩
end Px
namespace Px
open PySem PySem.Spec PyProof.Rows L2
/-- the store, with more cells -/
def ExM (μ μ' : Mu) : Prop := ∀ x, μ x ≠ none → μ' x = μ x
theorem ExM.refl (μ : Mu) : ExM μ μ := fun _ _ => rfl
theorem ExM.trans {a b c : Mu} (h : ExM a b) (h2 : ExM b c) : ExM a c := fun x hx => (h2 x (by rw [h x hx]; exact hx)).trans (h x hx)
theorem ExM.put {μ : Mu} {a : Addr} (ha : μ a = none) (m : Cell) : ExM μ (μ.put a m) := fun x hx => Mu.put_ne _ _ fun e => hx (e ▸ ha)
end Px
namespace Px
open PySem PySem.Spec PyProof.Rows L2
/-- the sign of a bit -/
def bitC (b : Bool) : Nat := if b then 35 else 46
theorem bit_sg (b : Bool) : sgB (bitC b) = true := by cases b <;> decide +kernel
/-- two lines joined -/
def jnC (f : Bool → Bool → Bool) (x y : Nat) : Nat := bitC (f (decide (x = 35)) (decide (y = 35)))
def jnS (f : Bool → Bool → Bool) (a b : Str) : Str := ⟨(List.zipWith (jnC f) a.cps.toList b.cps.toList).toArray⟩
def jnL (f : Bool → Bool → Bool) (as bs : List Str) : List Str := List.zipWith (jnS f) as bs
def fAnd : Bool → Bool → Bool := fun a b => a && b
def fOr : Bool → Bool → Bool := fun a b => a || b
def fSub : Bool → Bool → Bool := fun a b => a && !b
def fNot : Bool → Bool → Bool := fun a _ => !a
/-- the table of a function -/
def rowT (f : Bool → Bool → Bool) (a : Bool) : Str := ⟨#[bitC (f a true), bitC (f a false)]⟩
/-- what joined shapes answer: A of the answer, B: wrong size -/
def joinedQ (f : Bool → Bool → Bool) (p r : PV) (A : PV → Prop) (B : Prop) : Prop := ∃ as bs : List Str, p = shapeP as ∧ r = shapeP bs ∧ GoodLn as ∧ GoodLn bs ∧
  br (decide (wideL as = wideL bs) && decide (as.length = bs.length)) (A (shapeP (jnL f as bs))) B
theorem jnS_len (f : Bool → Bool → Bool) {a b : Str} (h : a.length = b.length) : (jnS f a b).length = a.length := by
  show (List.zipWith (jnC f) a.cps.toList b.cps.toList).toArray.size = _
  rw [List.size_toArray, List.length_zipWith]
  show min a.cps.toList.length b.cps.toList.length = _
  have h1 : a.cps.toList.length = a.length := Array.length_toList ..
  have h2 : b.cps.toList.length = b.length := Array.length_toList ..
  omega
theorem jnS_sg (f : Bool → Bool → Bool) (a b : Str) : (jnS f a b).cps.toList.all sgB = true := by
  show (List.zipWith (jnC f) a.cps.toList b.cps.toList).all sgB = true
  rw [List.all_eq_true]
  intro c hc
  obtain ⟨i, hi, rfl⟩ := List.mem_iff_getElem.mp hc
  rw [List.getElem_zipWith]
  exact bit_sg _
/-- joined good lines are good -/
theorem jn_good {f : Bool → Bool → Bool} {as bs : List Str} (ga : GoodLn as) (gb : GoodLn bs) (hw : wideL as = wideL bs) (hl : as.length = bs.length) : GoodLn (jnL f as bs) ∧ wideL (jnL f as bs) = wideL as ∧ (jnL f as bs).length = as.length := by
  have hlen : (jnL f as bs).length = as.length := by
    unfold jnL
    rw [List.length_zipWith]
    omega
  have hm : ∀ z ∈ jnL f as bs, z.length = wideL as ∧ z.cps.toList.all sgB = true := fun z hz => by
    obtain ⟨i, hi, rfl⟩ := List.mem_iff_getElem.mp hz
    have hi' : i < as.length := by rw [hlen] at hi; exact hi
    have e : (jnL f as bs)[i] = jnS f as[i] bs[i] := List.getElem_zipWith
    rw [e]
    have l1 := ga.len _ (List.getElem_mem hi')
    have l2 := gb.len _ (List.getElem_mem (show i < bs.length by omega))
    exact ⟨by rw [jnS_len f (by omega)]; exact l1, jnS_sg f _ _⟩
  have hwide : wideL (jnL f as bs) = wideL as := by
    have := ga.ne
    match e : jnL f as bs, hlen, hm with
    | [], hlen, hm => rw [List.length_nil] at hlen; omega
    | z :: zs, hlen, hm => exact (hm z List.mem_cons_self).1
  refine ⟨⟨by rw [hlen]; exact ga.ne, by rw [hlen]; exact ga.le, by rw [hwide]; exact ga.w1, by rw [hwide]; exact ga.w2, fun z hz => by rw [hwide]; exact (hm z hz).1, fun z hz => (hm z hz).2⟩, hwide, hlen⟩
theorem sg_hash (x : Nat) : decide (sg x = Str.ofString "#") = decide (x = 35) := decide_eq_decide.mpr ⟨fun h => by
    have : (sg x).cps = (Str.ofString "#").cps := by rw [h]
    have h2 : #[x] = #[35] := this
    simpa using h2, fun h => by subst h; rfl⟩
theorem sg_hashT {x : Nat} (h : x = 35) : sgn false (decide (sg x = Str.ofString "#")) = true := by rw [sg_hash, decide_eq_true h]; rfl
theorem sg_hashF {x : Nat} (h : ¬ x = 35) : sgn false (decide (sg x = Str.ofString "#")) = false := by rw [sg_hash, decide_eq_false h]; rfl
theorem seqOf_c {μ : Mu} {a : Addr} {xs : List PV} (h : μ a = some (.lst xs)) : seqOf μ (.cell a) = some (false, xs) := by
  show (match μ a with
    | some (Cell.lst xs) => some (false, xs)
    | _ => none) = _
  rw [h]
theorem replL_one (c : Nat) (d : Nat) : ∀ l : List Nat, StrLaws.replL [c] [d] l = l.map fun x => if x = c then d else x
  | [] => StrLaws.replL_nil
  | x :: l => by
    by_cases h : x = c
    · rw [StrLaws.replL_hit (by simp) (by subst h; rfl), List.map_cons, if_pos h]
      show d :: StrLaws.replL [c] [d] l = _
      rw [replL_one c d l]
    · rw [StrLaws.replL_miss (by intro e; exact h (by simpa using e)), List.map_cons, if_neg h, replL_one c d l]
theorem str_of {a : Str} {l : List Nat} (h : a.cps.toList = l) : a = ⟨l.toArray⟩ := by
  cases a with
  | mk c =>
    congr 1
    apply Array.ext'
    exact h
/-- the places turned round -/
theorem inv_line {z : Str} (h : z.cps.toList.all sgB = true) : Txt.replace (Txt.replace (Txt.replace z (Str.ofString "#") (Str.ofString "o")) (Str.ofString ".") (Str.ofString "#")) (Str.ofString "o") (Str.ofString ".") = jnS fNot z z := by
  refine str_of ?_
  rw [StrLaws.replace_list (by decide), StrLaws.replace_list (by decide), StrLaws.replace_list (by decide)]
  show StrLaws.replL [111] [46] (StrLaws.replL [46] [35] (StrLaws.replL [35] [111] z.cps.toList)) = _
  rw [replL_one, replL_one, replL_one, List.map_map, List.map_map]
  generalize z.cps.toList = l at h
  induction l with
  | nil => rfl
  | cons x l ih =>
    rw [List.all_cons, Bool.and_eq_true] at h
    rw [List.map_cons, List.zipWith_cons_cons, ih h.2]
    congr 1
    have h1 : x ∈ SG.cps.toList := of_decide_eq_true h.1
    have e3 : SG.cps.toList = [35, 46] := rfl
    rw [e3] at h1
    rcases List.mem_cons.mp h1 with rfl | h1
    · rfl
    · have := List.mem_singleton.mp h1
      subst this
      rfl
theorem repl_len (z : Str) (c d : Nat) : (Txt.replace z ⟨#[c]⟩ ⟨#[d]⟩).length = z.length := by
  have h : (Txt.replace z ⟨#[c]⟩ ⟨#[d]⟩).cps.toList = StrLaws.replL [c] [d] z.cps.toList := StrLaws.replace_list (by show 1 ≤ 1; exact Nat.le_refl _)
  rw [replL_one] at h
  have := congrArg List.length h
  rw [List.length_map] at this
  have l1 : (Txt.replace z ⟨#[c]⟩ ⟨#[d]⟩).cps.toList.length = (Txt.replace z ⟨#[c]⟩ ⟨#[d]⟩).length := Array.length_toList ..
  have l2 : z.cps.toList.length = z.length := Array.length_toList ..
  omega
def fWay (i : Int) : Bool → Bool → Bool := if i = 0 then fAnd else if i = 1 then fOr else fSub
def fLaw (i : Int) : Bool → Bool → Bool := if i = 3 then fNot else fWay i
theorem take_next {α : Type} {l : List α} {k : Nat} {v : α} (h : l[k]? = some v) : l.take (k + 1) = l.take k ++ [v] := by
  rw [List.take_add_one, h] <;> rfl
theorem str_app (l : List Nat) (c : Nat) : (⟨l.toArray⟩ : Str) ++ (sg c) = ⟨(l ++ [c]).toArray⟩ := by
  refine str_of ?_
  show (l.toArray ++ #[c]).toList = _
  simp
def q_Shape : Qf := fun xs b => match xs with
  | [a1, a2, a3] => (match b with
    | .obj .Shape [b1, b2, b3] => deq [] 10 a1 b1
    | b => othQ .Shape b)
  | _ => none
theorem q_Shape_inv {xs : List PV} {b : PV} {k : Bool} (h : q_Shape xs b = some k) : (∃ a1 a2 a3 b1 b2 b3, xs = [a1, a2, a3] ∧ b = .obj .Shape [b1, b2, b3] ∧ deq [] 10 a1 b1 = some k) ∨ ∃ a1 a2 a3, xs = [a1, a2, a3] ∧ othB .Shape b = true ∧ k = false := by
  unfold q_Shape at h
  split at h
  · split at h
    · exact .inl ⟨_, _, _, _, _, _, rfl, rfl, h⟩
    · exact .inr ⟨_, _, _, rfl, othQ_inv h⟩
  · cases h
theorem same_Shape : SameO .Shape q_Shape := fun X pins s σ H B μ G xs ys vs k ka J o rx ry h => by
  rcases q_Shape_inv h with ⟨a1, a2, a3, b1, b2, b3, rfl, e, h⟩ | ⟨a1, a2, a3, rfl, hb, rfl⟩
  · cases e
    obtain ⟨v, ws, rfl, r1, rx⟩ := rx.cons_inv
    obtain ⟨v2, ws2, e, q1, ry⟩ := ry.cons_inv
    cases e
    exact same_deq (fun _ _ h => (by cases h)) 10 X pins s σ H B μ G _ _ _ k ka J o r1 q1 h
  · cases hb
theorem eqi_Shape : ∀ as μ q x, cEq .Shape q_Shape as μ q x → cEq .Shape q_Shape as μ q x := fun _ _ _ _ h => h
theorem strs_deq (Q : Qt) (t : Nat) : ∀ as bs : List Str, peqs (deq Q t) (as.map .str) (bs.map .str) = some (decide (as = bs))
  | [], [] => rfl
  | [], b :: bs => rfl
  | a :: as, [] => rfl
  | a :: as, b :: bs => by
    have ih := strs_deq Q t as bs
    have e : deq Q t (.str a) (.str b) = some (decide (a = b)) := by cases t <;> rfl
    show andO (deq Q t (.str a) (.str b)) (peqs (deq Q t) (as.map .str) (bs.map .str)) = _
    rw [ih, e, andO_some]
    by_cases h1 : a = b <;> by_cases h2 : as = bs <;> simp [h1, h2]
theorem shapes_eq (as bs : List Str) (m n : PV) : q_Shape [.tup (as.map .str), m, n] (shapeP bs) = some (decide (as = bs)) := strs_deq [] 9 as bs
end Px
namespace Px
open PySem PySem.Spec PyProof.Rows L2
def t_Shape___invert___0 : ZB := bOne (sRet (zCm .Shape 295 (zCls .Shape) (zCons (zLst (zCompR 1 [1] (iSq (zAtt "lines" (zVar 0))) (rMore (rMore (rOne (zVar 1) "#" "o") "." "#") "o" "."))) zNil)))
def c_Shape___invert__ : Ct := fun as μ q x => match as with
  | [p] => ∃ ls : List Str, p = shapeP ls ∧ GoodLn ls ∧ q (shapeP (jnL fNot ls ls)) μ
  | _ => False
theorem len_Shape___invert__ : ∀ as μ q z, c_Shape___invert__ as μ q z → as.length = 1 := fun as μ q z h => by
  unfold c_Shape___invert__ at h
  split at h <;> first | rfl | exact h.elim
def L_Shape___invert__ : Tbl := [(.cm .Shape 295 [], c_Shape_of)]
def H_Shape___invert__ : Tbl := []
def Q_Shape___invert__ : Qt := []
def R_Shape___invert__ : Rt := { L := L_Shape___invert__, LH := H_Shape___invert__, Q := Q_Shape___invert__ }
theorem pure_Shape___invert__ : ∀ as μ q z, c_Shape___invert__ as μ q z → t_Shape___invert___0.d R_Shape___invert__ (endsOf q z) (startE 2 as) μ := fun as μ q z h => by
  unfold c_Shape___invert__ at h
  split at h
  · obtain ⟨ls, rfl, ga, h⟩ := h
    unfold shapeP
    have l1 := ga.le
    have l2 := ga.w2
    (conv => whnf); (repeat (first | (refine brT rfl ?_; (conv => whnf)) | (refine brF rfl ?_; (conv => whnf)) | (refine And.intro rfl ?_; (conv => whnf)) | (refine And.intro (Nat.le_of_ble_eq_true rfl) ?_; (conv => whnf)) | (refine And.intro (by assumption) ?_; (conv => whnf)) | (refine And.intro (by decide) ?_; (conv => whnf)) | (refine br_nself ?_; (conv => whnf)) | (refine br_self ?_; (conv => whnf)) | (refine brT (decide_eq_true (by assumption)) ?_; (conv => whnf)) | (refine brT (by assumption) ?_; (conv => whnf)) | (refine brF (by assumption) ?_; (conv => whnf))))
    refine ⟨by rw [List.length_map, sizeLine_eq]; omega, ?_⟩
    refine lcM1 PV.str (fun z => .str (jnS fNot z z)) ls [] (fun z hz k hk => ?_) ?_
    · have lz := ga.len z hz
      have r1 : (Txt.replace z (Str.ofString "#") (Str.ofString "o")).length = z.length := repl_len z 35 111
      have r2 : (Txt.replace (Txt.replace z (Str.ofString "#") (Str.ofString "o")) (Str.ofString ".") (Str.ofString "#")).length = z.length := (repl_len _ 46 35).trans r1
      have o1 : (Str.ofString "o").length = 1 := rfl
      have o2 : (Str.ofString "#").length = 1 := rfl
      have o3 : (Str.ofString ".").length = 1 := rfl
      rw [← inv_line (ga.sg z hz)] at hk
      (conv => whnf); (repeat (first | (refine brT rfl ?_; (conv => whnf)) | (refine brF rfl ?_; (conv => whnf)) | (refine And.intro rfl ?_; (conv => whnf)) | (refine And.intro (Nat.le_of_ble_eq_true rfl) ?_; (conv => whnf)) | (refine And.intro (by assumption) ?_; (conv => whnf)) | (refine And.intro (by decide) ?_; (conv => whnf)) | (refine br_nself ?_; (conv => whnf)) | (refine br_self ?_; (conv => whnf)) | (refine brT (decide_eq_true (by assumption)) ?_; (conv => whnf)) | (refine brT (by assumption) ?_; (conv => whnf)) | (refine brF (by assumption) ?_; (conv => whnf))))
      rw [o1]
      refine ⟨by omega, ?_⟩
      show _ ∧ _ ∧ k _ _
      rw [o2, o3]
      exact ⟨by omega, by omega, hk⟩
    · have e1 : ls.map (fun z => PV.str (jnS fNot z z)) = (jnL fNot ls ls).map .str := by
        unfold jnL
        rw [List.zipWith_self, List.map_map] <;> rfl
      obtain ⟨g1, g2, g3⟩ := jn_good (f := fNot) ga ga rfl rfl
      rw [List.nil_append, e1]
      (conv => whnf); (repeat (first | (refine brT rfl ?_; (conv => whnf)) | (refine brF rfl ?_; (conv => whnf)) | (refine And.intro rfl ?_; (conv => whnf)) | (refine And.intro (Nat.le_of_ble_eq_true rfl) ?_; (conv => whnf)) | (refine And.intro (by assumption) ?_; (conv => whnf)) | (refine And.intro (by decide) ?_; (conv => whnf)) | (refine br_nself ?_; (conv => whnf)) | (refine br_self ?_; (conv => whnf)) | (refine brT (decide_eq_true (by assumption)) ?_; (conv => whnf)) | (refine brT (by assumption) ?_; (conv => whnf)) | (refine brF (by assumption) ?_; (conv => whnf))))
      refine ⟨by rw [List.length_map, g3]; omega, jnL fNot ls ls, rfl, by omega, fun z hz => by have := g1.len z hz; omega, ?_⟩
      rw [good_bad g1]
      refine brF (by decide) ⟨rfl, ?_⟩
      exact h
  · exact h.elim
end Px
namespace Px
open PySem PySem.Spec PyProof.Rows L2
def f__law_joint_0 : ZB := (bCons (sSet 7 (zCmp .Eq (zIdx (zIdx (zVar 0) (zVar 4)) (zVar 6)) (zStr "#")))
  (bCons (sSet 8 (zCmp .Eq (zIdx (zIdx (zVar 1) (zVar 4)) (zVar 6)) (zStr "#")))
  (bOne (sSet 5 (zBin .Add (zVar 5) (zIdx (zStr ".#") (zBlt .int (zCons (zIdx (zLst (zDisp (zCons (zAnd [(zVar 7), (zVar 8)]) (zCons (zOr [(zVar 7), (zVar 8)]) (zCons (zAnd [(zVar 7), (zNot (zVar 8))]) (zCons (zNot (zVar 7)) zNil)))))) (zVar 2)) zNil))))))))
def f__law_joint_1 : ZB := (bCons (sSet 5 (zStr ""))
  (bCons (sFor (.one 6) (iRg1 (zBlt .len (zCons (zIdx (zVar 0) (zInt 0)) zNil))) f__law_joint_0)
  (bOne (sExpr (zApp (zVar 3) (zVar 5))))))
def t__law_joint_2 : ZB := bOne (sRet (zFrz (zVar 3)))
def t__law_joint_1 : ZB := bCons (sFor (.one 4) (iRg1 (zBlt .len (zCons (zVar 0) zNil))) f__law_joint_1) t__law_joint_2
def t__law_joint_0 : ZB := bCons (sSet 3 (zNew (zDisp zNil))) t__law_joint_1
def c__law_joint : Ct := fun as μ q _ => match as with
  | [p, r, .int i] => ∃ as bs : List Str, p = .lst (as.map .str) ∧ r = .lst (bs.map .str) ∧ GoodLn as ∧ GoodLn bs ∧ wideL as = wideL bs ∧ as.length = bs.length ∧ 0 ≤ i ∧ i ≤ 3 ∧ q (.lst ((jnL (fLaw i) as bs).map .str)) μ
  | _ => False
theorem len__law_joint : ∀ as μ q z, c__law_joint as μ q z → as.length = 3 := fun as μ q z h => by
  unfold c__law_joint at h
  split at h <;> first | rfl | exact h.elim
def L__law_joint : Tbl := []
def H__law_joint : Tbl := []
def Q__law_joint : Qt := []
def R__law_joint : Rt := { L := L__law_joint, LH := H__law_joint, Q := Q__law_joint }
theorem jl_in {P : DEn} {i : Int} (i0 : 0 ≤ i) (i1 : i ≤ 3) {as bs : List Str} {s3 : Option PV} {y : Nat} {a b : Str} (ha : as[y]? = some a) (hb : bs[y]? = some b) (hl : a.length = b.length) (hw : a.length ≤ 40) {μ : Mu} (hn : ∀ s6 s7 s8, P.nx [some (.lst (as.map .str)), some (.lst (bs.map .str)), some (.int i), s3, some (.int (y : Nat)), some (.str (jnS (fLaw i) a b)), s6, s7, s8] μ) :
    ∀ (n x : Nat) (s6 s7 s8 : Option PV), x + n = a.length → Lk (forD (.one 6) (f__law_joint_0.d R__law_joint) (rangeP (x : Nat) n) P [some (.lst (as.map .str)), some (.lst (bs.map .str)), some (.int i), s3, some (.int (y : Nat)), some (.str ⟨((List.zipWith (jnC (fLaw i)) a.cps.toList b.cps.toList).take x).toArray⟩), s6, s7, s8] μ)
  | 0, x, s6, s7, s8, e => forD_n rfl (by
    have la' : a.cps.toList.length = a.length := Array.length_toList ..
    rw [List.take_of_length_le (by rw [List.length_zipWith]; omega)]
    exact hn _ _ _)
  | n + 1, x, s6, s7, s8, e => by
    have ih := jl_in i0 i1 (s3 := s3) ha hb hl hw hn n (x + 1)
    have la' : a.cps.toList.length = a.length := Array.length_toList ..
    have lb' : b.cps.toList.length = b.length := Array.length_toList ..
    have a1 : atI (as.map PV.str) ((y : Nat) : Int) = some (.str a) := atI_nat (by rw [List.getElem?_map, ha] <;> rfl)
    have b1 : atI (bs.map PV.str) ((y : Nat) : Int) = some (.str b) := atI_nat (by rw [List.getElem?_map, hb] <;> rfl)
    have hx : x < a.cps.toList.length := by omega
    have hx2 : x < b.cps.toList.length := by omega
    have a2 : atI a.cps.toList ((x : Nat) : Int) = some a.cps.toList[x] := atI_nat (List.getElem?_eq_getElem hx)
    have b2 : atI b.cps.toList ((x : Nat) : Int) = some b.cps.toList[x] := atI_nat (List.getElem?_eq_getElem hx2)
    have ez : (List.zipWith (jnC (fLaw i)) a.cps.toList b.cps.toList)[x]? = some (jnC (fLaw i) a.cps.toList[x] b.cps.toList[x]) := by
      rw [List.getElem?_eq_getElem (by rw [List.length_zipWith]; omega), List.getElem_zipWith]
    have et := take_next ez
    refine forD_c (rangeP_cons _ _) ?_
    (conv => whnf); (repeat (first | (refine brT rfl ?_; (conv => whnf)) | (refine brF rfl ?_; (conv => whnf)) | (refine And.intro rfl ?_; (conv => whnf)) | (refine And.intro (Nat.le_of_ble_eq_true rfl) ?_; (conv => whnf)) | (refine And.intro (by assumption) ?_; (conv => whnf)) | (refine And.intro (by decide) ?_; (conv => whnf)) | (refine br_nself ?_; (conv => whnf)) | (refine br_self ?_; (conv => whnf)) | (refine brT (decide_eq_true (by assumption)) ?_; (conv => whnf)) | (refine brT (by assumption) ?_; (conv => whnf)) | (refine brF (by assumption) ?_; (conv => whnf))))
    rw [a1]
    (conv => whnf); (repeat (first | (refine brT rfl ?_; (conv => whnf)) | (refine brF rfl ?_; (conv => whnf)) | (refine And.intro rfl ?_; (conv => whnf)) | (refine And.intro (Nat.le_of_ble_eq_true rfl) ?_; (conv => whnf)) | (refine And.intro (by assumption) ?_; (conv => whnf)) | (refine And.intro (by decide) ?_; (conv => whnf)) | (refine br_nself ?_; (conv => whnf)) | (refine br_self ?_; (conv => whnf)) | (refine brT (decide_eq_true (by assumption)) ?_; (conv => whnf)) | (refine brT (by assumption) ?_; (conv => whnf)) | (refine brF (by assumption) ?_; (conv => whnf))))
    refine ⟨by rw [sizeLine_eq]; omega, ?_⟩
    rw [a2]
    (conv => whnf); (repeat (first | (refine brT rfl ?_; (conv => whnf)) | (refine brF rfl ?_; (conv => whnf)) | (refine And.intro rfl ?_; (conv => whnf)) | (refine And.intro (Nat.le_of_ble_eq_true rfl) ?_; (conv => whnf)) | (refine And.intro (by assumption) ?_; (conv => whnf)) | (refine And.intro (by decide) ?_; (conv => whnf)) | (refine br_nself ?_; (conv => whnf)) | (refine br_self ?_; (conv => whnf)) | (refine brT (decide_eq_true (by assumption)) ?_; (conv => whnf)) | (refine brT (by assumption) ?_; (conv => whnf)) | (refine brF (by assumption) ?_; (conv => whnf))))
    rw [b1]
    (conv => whnf); (repeat (first | (refine brT rfl ?_; (conv => whnf)) | (refine brF rfl ?_; (conv => whnf)) | (refine And.intro rfl ?_; (conv => whnf)) | (refine And.intro (Nat.le_of_ble_eq_true rfl) ?_; (conv => whnf)) | (refine And.intro (by assumption) ?_; (conv => whnf)) | (refine And.intro (by decide) ?_; (conv => whnf)) | (refine br_nself ?_; (conv => whnf)) | (refine br_self ?_; (conv => whnf)) | (refine brT (decide_eq_true (by assumption)) ?_; (conv => whnf)) | (refine brT (by assumption) ?_; (conv => whnf)) | (refine brF (by assumption) ?_; (conv => whnf))))
    refine ⟨by rw [sizeLine_eq]; omega, ?_⟩
    rw [b2]
    (conv => whnf); (repeat (first | (refine brT rfl ?_; (conv => whnf)) | (refine brF rfl ?_; (conv => whnf)) | (refine And.intro rfl ?_; (conv => whnf)) | (refine And.intro (Nat.le_of_ble_eq_true rfl) ?_; (conv => whnf)) | (refine And.intro (by assumption) ?_; (conv => whnf)) | (refine And.intro (by decide) ?_; (conv => whnf)) | (refine br_nself ?_; (conv => whnf)) | (refine br_self ?_; (conv => whnf)) | (refine brT (decide_eq_true (by assumption)) ?_; (conv => whnf)) | (refine brT (by assumption) ?_; (conv => whnf)) | (refine brF (by assumption) ?_; (conv => whnf))))
    have pa : ∀ c : Nat, sgn false (decide ((⟨#[c]⟩ : Str) = Str.ofString "#")) = decide (c = 35) := fun c => by
      show sgn false (decide (sg c = Str.ofString "#")) = _
      rw [sg_hash] <;> rfl
    rw [pa, pa]
    have ev : jnC (fLaw i) a.cps.toList[x] b.cps.toList[x] = bitC (fLaw i (decide (a.cps.toList[x] = 35)) (decide (b.cps.toList[x] = 35))) := rfl
    rw [ev] at et
    have i4 : i = 0 ∨ i = 1 ∨ i = 2 ∨ i = 3 := by omega
    have lt : ((List.zipWith (jnC (fLaw i)) a.cps.toList b.cps.toList).take x).length ≤ 40 := by
      rw [List.length_take, List.length_zipWith]
      omega
    generalize decide (a.cps.toList[x] = 35) = p at et ⊢
    generalize decide (b.cps.toList[x] = 35) = p2 at et ⊢
    have k := ih (some (.int (x : Nat))) (some (.bl p)) (some (.bl p2)) (by omega)
    rw [et, ← str_app, show ((x + 1 : Nat) : Int) = (x : Int) + 1 from rfl] at k
    have lq : ∀ c, (⟨(List.take x (List.zipWith (jnC (fLaw i)) a.cps.toList b.cps.toList)).toArray⟩ : Str).length + (⟨#[c]⟩ : Str).length ≤ sizeLine := fun c => by
      rw [cps_len, sizeLine_eq]
      show _ + 1 ≤ _
      omega
    rcases i4 with rfl | rfl | rfl | rfl <;> cases p <;> cases p2
    all_goals
      first | refine brT rfl ?_ | refine brF rfl ?_
      (conv => whnf); (repeat (first | (refine brT rfl ?_; (conv => whnf)) | (refine brF rfl ?_; (conv => whnf)) | (refine And.intro rfl ?_; (conv => whnf)) | (refine And.intro (Nat.le_of_ble_eq_true rfl) ?_; (conv => whnf)) | (refine And.intro (by assumption) ?_; (conv => whnf)) | (refine And.intro (by decide) ?_; (conv => whnf)) | (refine br_nself ?_; (conv => whnf)) | (refine br_self ?_; (conv => whnf)) | (refine brT (decide_eq_true (by assumption)) ?_; (conv => whnf)) | (refine brT (by assumption) ?_; (conv => whnf)) | (refine brF (by assumption) ?_; (conv => whnf))))
      try (first | refine brT rfl ?_ | refine brF rfl ?_); (conv => whnf); (repeat (first | (refine brT rfl ?_; (conv => whnf)) | (refine brF rfl ?_; (conv => whnf)) | (refine And.intro rfl ?_; (conv => whnf)) | (refine And.intro (Nat.le_of_ble_eq_true rfl) ?_; (conv => whnf)) | (refine And.intro (by assumption) ?_; (conv => whnf)) | (refine And.intro (by decide) ?_; (conv => whnf)) | (refine br_nself ?_; (conv => whnf)) | (refine br_self ?_; (conv => whnf)) | (refine brT (decide_eq_true (by assumption)) ?_; (conv => whnf)) | (refine brT (by assumption) ?_; (conv => whnf)) | (refine brF (by assumption) ?_; (conv => whnf))))
      try (first | refine brT rfl ?_ | refine brF rfl ?_); (conv => whnf); (repeat (first | (refine brT rfl ?_; (conv => whnf)) | (refine brF rfl ?_; (conv => whnf)) | (refine And.intro rfl ?_; (conv => whnf)) | (refine And.intro (Nat.le_of_ble_eq_true rfl) ?_; (conv => whnf)) | (refine And.intro (by assumption) ?_; (conv => whnf)) | (refine And.intro (by decide) ?_; (conv => whnf)) | (refine br_nself ?_; (conv => whnf)) | (refine br_self ?_; (conv => whnf)) | (refine brT (decide_eq_true (by assumption)) ?_; (conv => whnf)) | (refine brT (by assumption) ?_; (conv => whnf)) | (refine brF (by assumption) ?_; (conv => whnf))))
      exact ⟨lq _, k⟩
theorem jl_out {P : DEn} {i : Int} (i0 : 0 ≤ i) (i1 : i ≤ 3) {as bs : List Str} (ga : GoodLn as) (gb : GoodLn bs) (hw : wideL as = wideL bs) (hl : as.length = bs.length) {r : Addr} {μ : Mu} (hn : ∀ s4 s5 s6 s7 s8, P.nx [some (.lst (as.map .str)), some (.lst (bs.map .str)), some (.int i), some (.cell r), s4, s5, s6, s7, s8] (μ.put r (.lst ((jnL (fLaw i) as bs).map .str)))) :
    ∀ (n y : Nat) (s4 s5 s6 s7 s8 : Option PV), y + n = as.length → Lk (forD (.one 4) (f__law_joint_1.d R__law_joint) (rangeP (y : Nat) n) P [some (.lst (as.map .str)), some (.lst (bs.map .str)), some (.int i), some (.cell r), s4, s5, s6, s7, s8] (μ.put r (.lst (((jnL (fLaw i) as bs).take y).map .str))))
  | 0, y, s4, s5, s6, s7, s8, e => forD_n rfl (by
    have : (jnL (fLaw i) as bs).length = as.length := (jn_good ga gb hw hl).2.2
    rw [List.take_of_length_le (by omega)]
    exact hn _ _ _ _ _)
  | n + 1, y, s4, s5, s6, s7, s8, e => by
    have ih := jl_out i0 i1 ga gb hw hl hn n (y + 1)
    have l40 := ga.le
    have w40 := ga.w2
    have hy : y < as.length := by omega
    have hy2 : y < bs.length := by omega
    have la := ga.len _ (List.getElem_mem hy)
    have lb := gb.len _ (List.getElem_mem hy2)
    have n0 := ga.ne
    have a0 : ∃ z, atI (as.map PV.str) 0 = some (.str z) ∧ z.length = wideL as := by
      match as, n0 with
      | z :: zs, _ => exact ⟨z, atI_nat (j := 0) rfl, rfl⟩
    obtain ⟨z0, a0, lz⟩ := a0
    have ez : (jnL (fLaw i) as bs)[y]? = some (jnS (fLaw i) as[y] bs[y]) := by
      unfold jnL
      rw [List.getElem?_eq_getElem (by rw [List.length_zipWith]; omega), List.getElem_zipWith]
    have et := take_next ez
    refine forD_c (rangeP_cons _ _) ?_
    (conv => whnf); (repeat (first | (refine brT rfl ?_; (conv => whnf)) | (refine brF rfl ?_; (conv => whnf)) | (refine And.intro rfl ?_; (conv => whnf)) | (refine And.intro (Nat.le_of_ble_eq_true rfl) ?_; (conv => whnf)) | (refine And.intro (by assumption) ?_; (conv => whnf)) | (refine And.intro (by decide) ?_; (conv => whnf)) | (refine br_nself ?_; (conv => whnf)) | (refine br_self ?_; (conv => whnf)) | (refine brT (decide_eq_true (by assumption)) ?_; (conv => whnf)) | (refine brT (by assumption) ?_; (conv => whnf)) | (refine brF (by assumption) ?_; (conv => whnf))))
    rw [a0]
    (conv => whnf); (repeat (first | (refine brT rfl ?_; (conv => whnf)) | (refine brF rfl ?_; (conv => whnf)) | (refine And.intro rfl ?_; (conv => whnf)) | (refine And.intro (Nat.le_of_ble_eq_true rfl) ?_; (conv => whnf)) | (refine And.intro (by assumption) ?_; (conv => whnf)) | (refine And.intro (by decide) ?_; (conv => whnf)) | (refine br_nself ?_; (conv => whnf)) | (refine br_self ?_; (conv => whnf)) | (refine brT (decide_eq_true (by assumption)) ?_; (conv => whnf)) | (refine brT (by assumption) ?_; (conv => whnf)) | (refine brF (by assumption) ?_; (conv => whnf))))
    refine ⟨by rw [sizeLine_eq]; omega, ?_⟩
    rw [lz, ← la]
    (conv => whnf); (repeat (first | (refine brT rfl ?_; (conv => whnf)) | (refine brF rfl ?_; (conv => whnf)) | (refine And.intro rfl ?_; (conv => whnf)) | (refine And.intro (Nat.le_of_ble_eq_true rfl) ?_; (conv => whnf)) | (refine And.intro (by assumption) ?_; (conv => whnf)) | (refine And.intro (by decide) ?_; (conv => whnf)) | (refine br_nself ?_; (conv => whnf)) | (refine br_self ?_; (conv => whnf)) | (refine brT (decide_eq_true (by assumption)) ?_; (conv => whnf)) | (refine brT (by assumption) ?_; (conv => whnf)) | (refine brF (by assumption) ?_; (conv => whnf))))
    refine ⟨by omega, by omega, ?_⟩
    refine jl_in i0 i1 (y := y) (List.getElem?_eq_getElem hy) (List.getElem?_eq_getElem hy2) (by omega) (by omega) (fun s6 s7 s8 => ?_) _ 0 _ _ _ (by omega)
    (conv => whnf); (repeat (first | (refine brT rfl ?_; (conv => whnf)) | (refine brF rfl ?_; (conv => whnf)) | (refine And.intro rfl ?_; (conv => whnf)) | (refine And.intro (Nat.le_of_ble_eq_true rfl) ?_; (conv => whnf)) | (refine And.intro (by assumption) ?_; (conv => whnf)) | (refine And.intro (by decide) ?_; (conv => whnf)) | (refine br_nself ?_; (conv => whnf)) | (refine br_self ?_; (conv => whnf)) | (refine brT (decide_eq_true (by assumption)) ?_; (conv => whnf)) | (refine brT (by assumption) ?_; (conv => whnf)) | (refine brF (by assumption) ?_; (conv => whnf))))
    refine brT (isLC_cell (Mu.put_same _ _ _)) ?_
    (conv => whnf); (repeat (first | (refine brT rfl ?_; (conv => whnf)) | (refine brF rfl ?_; (conv => whnf)) | (refine And.intro rfl ?_; (conv => whnf)) | (refine And.intro (Nat.le_of_ble_eq_true rfl) ?_; (conv => whnf)) | (refine And.intro (by assumption) ?_; (conv => whnf)) | (refine And.intro (by decide) ?_; (conv => whnf)) | (refine br_nself ?_; (conv => whnf)) | (refine br_self ?_; (conv => whnf)) | (refine brT (decide_eq_true (by assumption)) ?_; (conv => whnf)) | (refine brT (by assumption) ?_; (conv => whnf)) | (refine brF (by assumption) ?_; (conv => whnf))))
    rw [Mu.put_same]
    refine ⟨by rw [List.length_map, List.length_take, sizeLine_eq]; omega, ?_⟩
    (conv => whnf); (repeat (first | (refine brT rfl ?_; (conv => whnf)) | (refine brF rfl ?_; (conv => whnf)) | (refine And.intro rfl ?_; (conv => whnf)) | (refine And.intro (Nat.le_of_ble_eq_true rfl) ?_; (conv => whnf)) | (refine And.intro (by assumption) ?_; (conv => whnf)) | (refine And.intro (by decide) ?_; (conv => whnf)) | (refine br_nself ?_; (conv => whnf)) | (refine br_self ?_; (conv => whnf)) | (refine brT (decide_eq_true (by assumption)) ?_; (conv => whnf)) | (refine brT (by assumption) ?_; (conv => whnf)) | (refine brF (by assumption) ?_; (conv => whnf))))
    have k := ih (some (.int (y : Nat))) (some (.str (jnS (fLaw i) as[y] bs[y]))) s6 s7 s8 (by omega)
    rw [et, show ((y + 1 : Nat) : Int) = (y : Int) + 1 from rfl, List.map_append] at k
    rw [Mu.put_put]
    exact k
theorem pure__law_joint : ∀ as μ q z, c__law_joint as μ q z → t__law_joint_0.d R__law_joint (endsOf q z) (startE 9 as) μ := fun as μ q z h => by
  unfold c__law_joint at h
  split at h
  · obtain ⟨as, bs, rfl, rfl, ga, gb, hw, hl, i0, i1, h⟩ := h
    have l40 := ga.le
    (conv => whnf); (repeat (first | (refine brT rfl ?_; (conv => whnf)) | (refine brF rfl ?_; (conv => whnf)) | (refine And.intro rfl ?_; (conv => whnf)) | (refine And.intro (Nat.le_of_ble_eq_true rfl) ?_; (conv => whnf)) | (refine And.intro (by assumption) ?_; (conv => whnf)) | (refine And.intro (by decide) ?_; (conv => whnf))))
    intro r hr
    (conv => whnf); (repeat (first | (refine brT rfl ?_; (conv => whnf)) | (refine brF rfl ?_; (conv => whnf)) | (refine And.intro rfl ?_; (conv => whnf)) | (refine And.intro (Nat.le_of_ble_eq_true rfl) ?_; (conv => whnf)) | (refine And.intro (by assumption) ?_; (conv => whnf)) | (refine And.intro (by decide) ?_; (conv => whnf)) | (refine br_nself ?_; (conv => whnf)) | (refine br_self ?_; (conv => whnf)) | (refine brT (decide_eq_true (by assumption)) ?_; (conv => whnf)) | (refine brT (by assumption) ?_; (conv => whnf)) | (refine brF (by assumption) ?_; (conv => whnf))))
    refine ⟨by omega, by rw [List.length_map]; omega, ?_⟩
    refine jl_out i0 i1 ga gb hw hl (fun s4 s5 s6 s7 s8 => ?_) _ 0 _ _ _ _ _ (by rw [List.length_map]; omega)
    (conv => whnf); (repeat (first | (refine brT rfl ?_; (conv => whnf)) | (refine brF rfl ?_; (conv => whnf)) | (refine And.intro rfl ?_; (conv => whnf)) | (refine And.intro (Nat.le_of_ble_eq_true rfl) ?_; (conv => whnf)) | (refine And.intro (by assumption) ?_; (conv => whnf)) | (refine And.intro (by decide) ?_; (conv => whnf)) | (refine br_nself ?_; (conv => whnf)) | (refine br_self ?_; (conv => whnf)) | (refine brT (decide_eq_true (by assumption)) ?_; (conv => whnf)) | (refine brT (by assumption) ?_; (conv => whnf)) | (refine brF (by assumption) ?_; (conv => whnf))))
    rw [Mu.put_same]
    (conv => whnf); (repeat (first | (refine brT rfl ?_; (conv => whnf)) | (refine brF rfl ?_; (conv => whnf)) | (refine And.intro rfl ?_; (conv => whnf)) | (refine And.intro (Nat.le_of_ble_eq_true rfl) ?_; (conv => whnf)) | (refine And.intro (by assumption) ?_; (conv => whnf)) | (refine And.intro (by decide) ?_; (conv => whnf)) | (refine br_nself ?_; (conv => whnf)) | (refine br_self ?_; (conv => whnf)) | (refine brT (decide_eq_true (by assumption)) ?_; (conv => whnf)) | (refine brT (by assumption) ?_; (conv => whnf)) | (refine brF (by assumption) ?_; (conv => whnf))))
    rw [Mu.del_put, Mu.del_none hr]
    exact h
  · exact h.elim
end Px
namespace Px
open PySem PySem.Spec PyProof.Rows L2
/-- as Itz2; what comes is all that can come -/
def Itz3 (K : PySem.W.Frag) (S1 S2 : Src) : It :=
  ⟨fun i H => ∃ x y, S1.G K H i x ∧ S2.G K H i y,
    fun i H v H' => ∃ T x y, v = .ref T ∧ H T = none ∧ H' = upd H T (.tup [x, y]) ∧ (∀ x', S1.G K H i x' → x' = x) ∧ ∀ y', S2.G K H i y' → y' = y,
    fun i H => (S1.N K H i ∧ (S2.N K H i ∨ ∃ y, S2.G K H i y)) ∨ ((∃ x, S1.G K H i x) ∧ S2.N K H i)⟩
theorem turn_zip3 {P : Program} {w : World} {K : PySem.W.Frag} {tg : Expr} {S1 S2 : Src} {fp : List Addr} {it : Addr} {tn : Nat → Heap → Prop} (T : Turn P w K tg (Itz2 K S1 S2) fp it tn) : Turn P w K tg (Itz3 K S1 S2) fp it tn where
  mem := T.mem
  obj := T.obj
  keep := T.keep
  done := T.done
  self := T.self
  item := fun X hP hw hK hc i pins s σ H E I hf st hg => wpAny_mono (T.item X hP hw hK hc i pins s σ H E I hf st hg) (fun r s1 ⟨u, er, h⟩ => ⟨u, er, wpAny_mono h (fun _ s2 ⟨x, H', I', r', y, t', n⟩ => ⟨x, H', I', r', by
    subst hK
    obtain ⟨T0, a, b, e1, e2, e3, g1, g2⟩ := y
    exact ⟨T0, a, b, e1, e2, e3, fun x' h => Src.G.inj I h g1, fun y' h => Src.G.inj I h g2⟩, t', n⟩) fun _ _ z => z⟩) fun _ _ z => z
def iZip3 (K : PySem.W.Frag) (ta : TA) : TI := fun σ H R => ta σ H fun vs H1 => ∃ S1 S2 : Src, vs = [S1.v, S2.v] ∧ S1.Ok K H1 ∧ S2.Ok K H1 ∧ R (Itz3 K S1 S2) H1
theorem pi_zip3 {X : Cx} {e e2 : Expr} {ta : TA} {p pos tpos : Pos} {elts : List Expr} {kk : Nat} (hg : Gl X "zip") (hm : X.mg "zip" = none) (ha : PA X [e, e2] ta)
    (hs : starEach [e, e2] X.env = (false, eval e X.env) :: starEach [e2] X.env := by rfl) (hpl : (backTo pos (starEach [e2] X.env)).any (·.1) = false := by rfl) (mono : ∀ σ H (Q Q' : List V → Hp → Prop), (∀ vs H, Q vs H → Q' vs H) → ta σ H Q → ta σ H Q') :
    PI X (.Tuple elts kk tpos) (.Call (.Name "zip" p) [e, e2] [] pos) (iZip3 X.K ta) := by
  refine ⟨fun pins s σ H R I h => ?_⟩
  have h2 : iZip2 X.K ta σ H (fun J H' => ∃ S1 S2 : Src, J = Itz2 X.K S1 S2 ∧ R (Itz3 X.K S1 S2) H') := mono _ _ _ _ (fun vs H1 ⟨S1, S2, e, o1, o2, r⟩ => ⟨S1, S2, e, o1, o2, S1, S2, rfl, r⟩) h
  exact wpAny_mono ((pi_zip2 (tpos := tpos) (elts := elts) (kk := kk) hg hm ha hs hpl).run pins s σ H _ I h2) (fun v s1 h => wpAny_mono h (fun itv s2 ⟨it, fp, tn, J, H', e, I', T, t0, f, S1, S2, eJ, r⟩ => by
    subst eJ
    exact ⟨it, fp, tn, _, H', e, I', turn_zip3 T, t0, f, r⟩) fun _ _ z => z) fun _ _ z => z
theorem srcR_len {K : Frg} {B : BX} {G0 G H : Hp} {μ : Mu} {S : Src} {xs : List PV} (r : SrcR K B G0 S xs) (s : Sub G0 G) (o : Ok K B μ G H) {i : Nat} (h : xs.length ≤ i) : S.N K H i := by
  cases S with
  | l a =>
    obtain ⟨vs, sq, rs⟩ := r
    exact ⟨vs, o.sub.l (s.l sq), by have := rs.length; omega⟩
  | t a =>
    obtain ⟨vs, sq, rs⟩ := r
    exact ⟨vs, o.sub.t (s.t sq), by have := rs.length; omega⟩
  | s z =>
    have r : xs = sgnsP z := r
    subst r
    unfold sgnsP at h
    rw [List.length_map, Array.length_toList] at h
    exact h
theorem itok_zip {K : Frg} {B : BX} {G : Hp} {S1 S2 : Src} {xs ys : List PV} (r1 : SrcR K B G S1 xs) (r2 : SrcR K B G S2 ys) : ItOk K B G (Itz3 K S1 S2) (zipP xs ys) := by
  have hl := zipP_len xs ys
  refine ⟨fun i μ G' H s o hi => ?_, fun i μ G' H v H' x s o e y => ?_, fun i μ G' H s o hi => ?_⟩
  · rw [hl] at hi
    obtain ⟨v, g1, _⟩ := r1.get s o (List.getElem?_eq_getElem (show i < xs.length by omega))
    obtain ⟨w, g2, _⟩ := r2.get s o (List.getElem?_eq_getElem (show i < ys.length by omega))
    exact ⟨v, w, g1, g2⟩
  · obtain ⟨a, b, ea, eb, rfl⟩ := zipP_get e
    obtain ⟨T, v1, v2, rfl, hT, rfl, u1, u2⟩ := y
    obtain ⟨w1, g1, q1⟩ := r1.get s o ea
    obtain ⟨w2, g2, q2⟩ := r2.get s o eb
    rw [u1 _ g1] at q1
    rw [u2 _ g2] at q2
    have g3 := o.new1 (u := .tup [v1, v2]) hT
    exact ⟨_, g3, rep_tup upd_same ((Reps.cons q1 (.cons q2 .nil)).mono g3.gx)⟩
  · rw [hl] at hi
    by_cases h1 : xs.length ≤ i
    · refine .inl ⟨srcR_len r1 s o h1, ?_⟩
      by_cases h2 : ys.length ≤ i
      · exact .inl (srcR_len r2 s o h2)
      · obtain ⟨w, g2, _⟩ := r2.get s o (List.getElem?_eq_getElem (show i < ys.length by omega))
        exact .inr ⟨w, g2⟩
    · obtain ⟨v, g1, _⟩ := r1.get s o (List.getElem?_eq_getElem (show i < xs.length by omega))
      exact .inr ⟨⟨v, g1⟩, srcR_len r2 s o (by omega)⟩
def zpP (ps : List PV) (q : List PV → Prop) : Prop := match ps with
  | [a, b] => (match seqZ a with
    | some xs => (match seqZ b with
      | some ys => q (zipP xs ys)
      | none => False)
    | none => False)
  | _ => False
theorem zpP_inv {ps : List PV} {q : List PV → Prop} (h : zpP ps q) : ∃ a b xs ys, ps = [a, b] ∧ seqZ a = some xs ∧ seqZ b = some ys ∧ q (zipP xs ys) := by
  unfold zpP at h
  split at h
  · split at h
    · split at h
      · exact ⟨_, _, _, _, rfl, by assumption, by assumption, h⟩
      · exact h.elim
    · exact h.elim
  · exact h.elim
def iZp (d : DA) : DI := fun ρ μ q x => d ρ μ (fun ps μ1 => zpP ps fun xs => q xs μ1) x
theorem src_of {K : Frg} {B : BX} {μ : Mu} {G H : Hp} (o : Ok K B μ G H) {p : PV} {v : V} {xs : List PV} (r : Rep K B G p v) (e : seqZ p = some xs) : ∃ S : Src, v = S.v ∧ S.Ok K H ∧ SrcR K B G S xs := by
  cases p with
  | lst ys =>
    cases e
    obtain ⟨a, vs, rfl, sq, rs⟩ := r.lst_inv
    exact ⟨.l a, rfl, ⟨vs, .inl (.inl (o.sub _ _ sq))⟩, vs, .inl (.inl sq), rs⟩
  | tup ys =>
    cases e
    obtain ⟨a, vs, rfl, sq, rs⟩ := r.tup_inv
    exact ⟨.t a, rfl, ⟨vs, o.sub.t sq⟩, vs, sq, rs⟩
  | str z =>
    cases e
    exact ⟨.s z, r.str_inv, trivial, rfl⟩
  | _ => cases e
theorem i_zip {X : Cx} {W : WX} {e e2 : Expr} {ds : DA} {p pos tpos : Pos} {elts : List Expr} {kk : Nat} (hm : X.mg "zip" = none) (ha : AJ X W [e, e2] ds) (hg : Gl X "zip")
    (hs : starEach [e, e2] X.env = (false, eval e X.env) :: starEach [e2] X.env) (hpl : (backTo pos (starEach [e2] X.env)).any (·.1) = false) :
    IJ X W (.Tuple elts kk tpos) (.Call (.Name "zip" p) [e, e2] [] pos) (iZp ds) := by
  have mono : ∀ σ H (Q Q' : List V → Hp → Prop), (∀ vs H, Q vs H → Q' vs H) → tA X.K W ds σ H Q → tA X.K W ds σ H Q' := fun σ H Q Q' k ⟨B, ρ, μ, G, q, x, Rl, h, gv, gx⟩ => ⟨B, ρ, μ, G, q, x, Rl, h, fun ps vs μ1 G1 H1 h0 g1 r1 => k _ _ (gv ps vs μ1 G1 H1 h0 g1 r1), gx⟩
  refine pi_imp (pi_zip3 hg hm ha hs hpl mono) fun σ H R ⟨B, ρ, μ, G, q, x, Rl, h, gv, gx⟩ => ⟨B, ρ, μ, G, _, x, Rl, h, fun ps vs μ1 G1 H1 h0 g1 r1 => ?_, gx⟩
  obtain ⟨a, b, xs, ys, rfl, ea, eb, h1⟩ := zpP_inv h0
  obtain ⟨v, ws, rfl, ra, rs⟩ := r1.cons_inv
  obtain ⟨w, us, rfl, rb, rs2⟩ := rs.cons_inv
  obtain rfl := rs2.nil_inv
  obtain ⟨S1, rfl, o1, q1⟩ := src_of g1.ok ra ea
  obtain ⟨S2, rfl, o2, q2⟩ := src_of g1.ok rb eb
  exact ⟨S1, S2, rfl, o1, o2, gv _ _ μ1 G1 H1 h1 g1 (itok_zip q1 q2)⟩
end Px
namespace Px
open PySem PySem.Spec PyProof.Rows L2
def iZip (a b : ZE) : ZI where
  d := fun R => iZp (dCons (a.d R) (dCons (b.d R) dNil))
  ck := fun c tg e => match e with
    | .Call (.Name y _) [x, z] [] _ => tupE tg && (decide (y = "zip") && (glB c.sc "zip" && (decide (("zip" : Str) ∈ c.S.fre) && (nstar x && (nstar z && (a.ck c x && b.ck c z))))))
    | _ => false
  ok := fun {k R X W c tg e} h G => by
    split at h
    · obtain ⟨h0, h⟩ := He.ba h
      obtain ⟨h1, h⟩ := He.ba h
      obtain ⟨h2, h⟩ := He.ba h
      obtain ⟨h3, h⟩ := He.ba h
      obtain ⟨h4, h⟩ := He.ba h
      obtain ⟨h5, h⟩ := He.ba h
      obtain ⟨h6, h7⟩ := He.ba h
      obtain rfl := of_decide_eq_true h1
      cases tg with
      | Tuple es n p => exact i_zip (G.free h3) (a_cons (a.ok h6 G) (a_cons (b.ok h7 G) a_nil (star_cons h5)) (star_cons h4)) (G.gl h2).1 (star_cons h4) (by rw [star_cons h5] <;> rfl)
      | _ => exact ff h0 rfl
    · cases h
end Px
namespace Px
open PySem PySem.Spec PyProof.Rows L2
def f_joined_shapes_0 : ZB := (bCons (sSet 9 (zIf (tCmp .Eq (zVar 7) (zStr "#")) (zIdx (zVar 2) (zInt 0)) (zIdx (zVar 2) (zInt 1))))
  (bOne (sExpr (zApp (zVar 6) (zIf (tCmp .Eq (zVar 8) (zStr "#")) (zIdx (zVar 9) (zInt 0)) (zIdx (zVar 9) (zInt 1)))))))
def f_joined_shapes_1 : ZB := (bCons (sSet 6 (zNew (zDisp zNil)))
  (bCons (sFor (.many [7, 8]) (iZip (zVar 4) (zVar 5)) f_joined_shapes_0)
  (bOne (sExpr (zApp (zVar 3) (zJoin (zStr "") (zVar 6)))))))
def t_joined_shapes_3 : ZB := bOne (sRet (zCm .Shape 295 (zCls .Shape) (zCons (zVar 3) zNil)))
def t_joined_shapes_2 : ZB := bCons (sFor (.many [4, 5]) (iZip (zAtt "lines" (zVar 0)) (zAtt "lines" (zVar 1))) f_joined_shapes_1) t_joined_shapes_3
def t_joined_shapes_1 : ZB := bCons (sSet 3 (zNew (zDisp zNil))) t_joined_shapes_2
def t_joined_shapes_0 : ZB := bCons (sIf (tOr [(tCmp .NotEq (zAtt "width" (zVar 0)) (zAtt "width" (zVar 1))), (tCmp .NotEq (zAtt "height" (zVar 0)) (zAtt "height" (zVar 1)))]) (bOne (sRaise .WrongSize "mask" (zCons zNon zNil))) bNil) t_joined_shapes_1
def c_joined_shapes : Ct := fun as μ q x => match as with
  | [p, r, .tup [.str u, .str v]] => ∃ f : Bool → Bool → Bool, u = rowT f true ∧ v = rowT f false ∧ joinedQ f p r (fun v => ∀ μ', ExM μ μ' → q v μ') (∀ μ', ExM μ μ' → x (.WrongSize, [.non]) μ')
  | _ => False
theorem len_joined_shapes : ∀ as μ q z, c_joined_shapes as μ q z → as.length = 3 := fun as μ q z h => by
  unfold c_joined_shapes at h
  split at h <;> first | rfl | exact h.elim
def L_joined_shapes : Tbl := [(.cm .Shape 295 [], c_Shape_of)]
def H_joined_shapes : Tbl := []
def Q_joined_shapes : Qt := []
def R_joined_shapes : Rt := { L := L_joined_shapes, LH := H_joined_shapes, Q := Q_joined_shapes }
theorem jn_in {P : DEn} {f : Bool → Bool → Bool} {s0 s1 s3 s4 s5 : Option PV} {d : Addr} {μ0 : Mu} {fin : List Str} (hn : ∀ s7 s8 s9 μ', (∀ x, x ≠ d → μ' x = μ0 x) → μ' d = some (.lst (fin.map .str)) → P.nx [s0, s1, some (.tup [.str (rowT f true), .str (rowT f false)]), s3, s4, s5, some (.cell d), s7, s8, s9] μ') :
    ∀ (xs ys : List Nat) (acc : List Str) (s7 s8 s9 : Option PV) (μ : Mu), xs.length = ys.length → acc.length + xs.length ≤ 1000 → (∀ x, x ≠ d → μ x = μ0 x) → μ d = some (.lst (acc.map .str)) → fin = acc ++ (List.zipWith (jnC f) xs ys).map sg →
      Lk (forD (.many [7, 8]) (f_joined_shapes_0.d R_joined_shapes) (zipP (xs.map fun c => .str (sg c)) (ys.map fun c => .str (sg c))) P [s0, s1, some (.tup [.str (rowT f true), .str (rowT f false)]), s3, s4, s5, some (.cell d), s7, s8, s9] μ)
  | [], ys, acc, s7, s8, s9, μ, hl, hb, hm, hd, e => forD_n rfl (hn _ _ _ _ hm (by rw [hd, e, List.zipWith_nil_left, List.map_nil, List.append_nil]))
  | x :: xs, [], acc, s7, s8, s9, μ, hl, hb, hm, hd, e => absurd hl (by simp)
  | x :: xs, y :: ys, acc, s7, s8, s9, μ, hl, hb, hm, hd, e => by
    have ih := jn_in hn xs ys (acc ++ [sg (jnC f x y)])
    rw [List.length_cons] at hb
    refine forD_c rfl ?_
    (conv => whnf); (repeat (first | (refine brT rfl ?_; (conv => whnf)) | (refine brF rfl ?_; (conv => whnf)) | (refine And.intro rfl ?_; (conv => whnf)) | (refine And.intro (Nat.le_of_ble_eq_true rfl) ?_; (conv => whnf)) | (refine And.intro (by assumption) ?_; (conv => whnf)) | (refine And.intro (by decide) ?_; (conv => whnf)) | (refine br_nself ?_; (conv => whnf)) | (refine br_self ?_; (conv => whnf)) | (refine brT (decide_eq_true (by assumption)) ?_; (conv => whnf)) | (refine brT (by assumption) ?_; (conv => whnf)) | (refine brF (by assumption) ?_; (conv => whnf))))
    by_cases c : x = 35
    · refine brT (sg_hashT c) ?_
      (conv => whnf); (repeat (first | (refine brT rfl ?_; (conv => whnf)) | (refine brF rfl ?_; (conv => whnf)) | (refine And.intro rfl ?_; (conv => whnf)) | (refine And.intro (Nat.le_of_ble_eq_true rfl) ?_; (conv => whnf)) | (refine And.intro (by assumption) ?_; (conv => whnf)) | (refine And.intro (by decide) ?_; (conv => whnf)) | (refine br_nself ?_; (conv => whnf)) | (refine br_self ?_; (conv => whnf)) | (refine brT (decide_eq_true (by assumption)) ?_; (conv => whnf)) | (refine brT (by assumption) ?_; (conv => whnf)) | (refine brF (by assumption) ?_; (conv => whnf))))
      refine brT (isLC_cell hd) ?_
      (conv => whnf); (repeat (first | (refine brT rfl ?_; (conv => whnf)) | (refine brF rfl ?_; (conv => whnf)) | (refine And.intro rfl ?_; (conv => whnf)) | (refine And.intro (Nat.le_of_ble_eq_true rfl) ?_; (conv => whnf)) | (refine And.intro (by assumption) ?_; (conv => whnf)) | (refine And.intro (by decide) ?_; (conv => whnf)) | (refine br_nself ?_; (conv => whnf)) | (refine br_self ?_; (conv => whnf)) | (refine brT (decide_eq_true (by assumption)) ?_; (conv => whnf)) | (refine brT (by assumption) ?_; (conv => whnf)) | (refine brF (by assumption) ?_; (conv => whnf))))
      by_cases c2 : y = 35
      · refine brT (sg_hashT c2) ?_
        (conv => whnf); (repeat (first | (refine brT rfl ?_; (conv => whnf)) | (refine brF rfl ?_; (conv => whnf)) | (refine And.intro rfl ?_; (conv => whnf)) | (refine And.intro (Nat.le_of_ble_eq_true rfl) ?_; (conv => whnf)) | (refine And.intro (by assumption) ?_; (conv => whnf)) | (refine And.intro (by decide) ?_; (conv => whnf)) | (refine br_nself ?_; (conv => whnf)) | (refine br_self ?_; (conv => whnf)) | (refine brT (decide_eq_true (by assumption)) ?_; (conv => whnf)) | (refine brT (by assumption) ?_; (conv => whnf)) | (refine brF (by assumption) ?_; (conv => whnf))))
        rw [hd]
        refine ⟨by rw [List.length_map, sizeLine_eq]; omega, ?_⟩
        (conv => whnf); (repeat (first | (refine brT rfl ?_; (conv => whnf)) | (refine brF rfl ?_; (conv => whnf)) | (refine And.intro rfl ?_; (conv => whnf)) | (refine And.intro (Nat.le_of_ble_eq_true rfl) ?_; (conv => whnf)) | (refine And.intro (by assumption) ?_; (conv => whnf)) | (refine And.intro (by decide) ?_; (conv => whnf)) | (refine br_nself ?_; (conv => whnf)) | (refine br_self ?_; (conv => whnf)) | (refine brT (decide_eq_true (by assumption)) ?_; (conv => whnf)) | (refine brT (by assumption) ?_; (conv => whnf)) | (refine brF (by assumption) ?_; (conv => whnf))))
        refine ih _ _ _ _ (by simpa using hl) (by rw [List.length_append]; show acc.length + 1 + _ ≤ _; omega) (fun z hz => (Mu.put_ne _ _ hz).trans (hm z hz)) ?_ ?_
        · rw [Mu.put_same, List.map_append]
          have : jnC f x y = bitC (f true true) := by unfold jnC; rw [c2, c, decide_eq_true rfl] <;> rfl
          rw [this] <;> rfl
        · rw [e, List.append_assoc] <;> rfl
      · refine brF (sg_hashF c2) ?_
        (conv => whnf); (repeat (first | (refine brT rfl ?_; (conv => whnf)) | (refine brF rfl ?_; (conv => whnf)) | (refine And.intro rfl ?_; (conv => whnf)) | (refine And.intro (Nat.le_of_ble_eq_true rfl) ?_; (conv => whnf)) | (refine And.intro (by assumption) ?_; (conv => whnf)) | (refine And.intro (by decide) ?_; (conv => whnf)) | (refine br_nself ?_; (conv => whnf)) | (refine br_self ?_; (conv => whnf)) | (refine brT (decide_eq_true (by assumption)) ?_; (conv => whnf)) | (refine brT (by assumption) ?_; (conv => whnf)) | (refine brF (by assumption) ?_; (conv => whnf))))
        rw [hd]
        refine ⟨by rw [List.length_map, sizeLine_eq]; omega, ?_⟩
        (conv => whnf); (repeat (first | (refine brT rfl ?_; (conv => whnf)) | (refine brF rfl ?_; (conv => whnf)) | (refine And.intro rfl ?_; (conv => whnf)) | (refine And.intro (Nat.le_of_ble_eq_true rfl) ?_; (conv => whnf)) | (refine And.intro (by assumption) ?_; (conv => whnf)) | (refine And.intro (by decide) ?_; (conv => whnf)) | (refine br_nself ?_; (conv => whnf)) | (refine br_self ?_; (conv => whnf)) | (refine brT (decide_eq_true (by assumption)) ?_; (conv => whnf)) | (refine brT (by assumption) ?_; (conv => whnf)) | (refine brF (by assumption) ?_; (conv => whnf))))
        refine ih _ _ _ _ (by simpa using hl) (by rw [List.length_append]; show acc.length + 1 + _ ≤ _; omega) (fun z hz => (Mu.put_ne _ _ hz).trans (hm z hz)) ?_ ?_
        · rw [Mu.put_same, List.map_append]
          have : jnC f x y = bitC (f true false) := by unfold jnC; rw [decide_eq_false c2, c, decide_eq_true rfl] <;> rfl
          rw [this] <;> rfl
        · rw [e, List.append_assoc] <;> rfl
    · refine brF (sg_hashF c) ?_
      (conv => whnf); (repeat (first | (refine brT rfl ?_; (conv => whnf)) | (refine brF rfl ?_; (conv => whnf)) | (refine And.intro rfl ?_; (conv => whnf)) | (refine And.intro (Nat.le_of_ble_eq_true rfl) ?_; (conv => whnf)) | (refine And.intro (by assumption) ?_; (conv => whnf)) | (refine And.intro (by decide) ?_; (conv => whnf)) | (refine br_nself ?_; (conv => whnf)) | (refine br_self ?_; (conv => whnf)) | (refine brT (decide_eq_true (by assumption)) ?_; (conv => whnf)) | (refine brT (by assumption) ?_; (conv => whnf)) | (refine brF (by assumption) ?_; (conv => whnf))))
      refine brT (isLC_cell hd) ?_
      (conv => whnf); (repeat (first | (refine brT rfl ?_; (conv => whnf)) | (refine brF rfl ?_; (conv => whnf)) | (refine And.intro rfl ?_; (conv => whnf)) | (refine And.intro (Nat.le_of_ble_eq_true rfl) ?_; (conv => whnf)) | (refine And.intro (by assumption) ?_; (conv => whnf)) | (refine And.intro (by decide) ?_; (conv => whnf)) | (refine br_nself ?_; (conv => whnf)) | (refine br_self ?_; (conv => whnf)) | (refine brT (decide_eq_true (by assumption)) ?_; (conv => whnf)) | (refine brT (by assumption) ?_; (conv => whnf)) | (refine brF (by assumption) ?_; (conv => whnf))))
      by_cases c2 : y = 35
      · refine brT (sg_hashT c2) ?_
        (conv => whnf); (repeat (first | (refine brT rfl ?_; (conv => whnf)) | (refine brF rfl ?_; (conv => whnf)) | (refine And.intro rfl ?_; (conv => whnf)) | (refine And.intro (Nat.le_of_ble_eq_true rfl) ?_; (conv => whnf)) | (refine And.intro (by assumption) ?_; (conv => whnf)) | (refine And.intro (by decide) ?_; (conv => whnf)) | (refine br_nself ?_; (conv => whnf)) | (refine br_self ?_; (conv => whnf)) | (refine brT (decide_eq_true (by assumption)) ?_; (conv => whnf)) | (refine brT (by assumption) ?_; (conv => whnf)) | (refine brF (by assumption) ?_; (conv => whnf))))
        rw [hd]
        refine ⟨by rw [List.length_map, sizeLine_eq]; omega, ?_⟩
        (conv => whnf); (repeat (first | (refine brT rfl ?_; (conv => whnf)) | (refine brF rfl ?_; (conv => whnf)) | (refine And.intro rfl ?_; (conv => whnf)) | (refine And.intro (Nat.le_of_ble_eq_true rfl) ?_; (conv => whnf)) | (refine And.intro (by assumption) ?_; (conv => whnf)) | (refine And.intro (by decide) ?_; (conv => whnf)) | (refine br_nself ?_; (conv => whnf)) | (refine br_self ?_; (conv => whnf)) | (refine brT (decide_eq_true (by assumption)) ?_; (conv => whnf)) | (refine brT (by assumption) ?_; (conv => whnf)) | (refine brF (by assumption) ?_; (conv => whnf))))
        refine ih _ _ _ _ (by simpa using hl) (by rw [List.length_append]; show acc.length + 1 + _ ≤ _; omega) (fun z hz => (Mu.put_ne _ _ hz).trans (hm z hz)) ?_ ?_
        · rw [Mu.put_same, List.map_append]
          have : jnC f x y = bitC (f false true) := by unfold jnC; rw [c2, decide_eq_false c] <;> rfl
          rw [this] <;> rfl
        · rw [e, List.append_assoc] <;> rfl
      · refine brF (sg_hashF c2) ?_
        (conv => whnf); (repeat (first | (refine brT rfl ?_; (conv => whnf)) | (refine brF rfl ?_; (conv => whnf)) | (refine And.intro rfl ?_; (conv => whnf)) | (refine And.intro (Nat.le_of_ble_eq_true rfl) ?_; (conv => whnf)) | (refine And.intro (by assumption) ?_; (conv => whnf)) | (refine And.intro (by decide) ?_; (conv => whnf)) | (refine br_nself ?_; (conv => whnf)) | (refine br_self ?_; (conv => whnf)) | (refine brT (decide_eq_true (by assumption)) ?_; (conv => whnf)) | (refine brT (by assumption) ?_; (conv => whnf)) | (refine brF (by assumption) ?_; (conv => whnf))))
        rw [hd]
        refine ⟨by rw [List.length_map, sizeLine_eq]; omega, ?_⟩
        (conv => whnf); (repeat (first | (refine brT rfl ?_; (conv => whnf)) | (refine brF rfl ?_; (conv => whnf)) | (refine And.intro rfl ?_; (conv => whnf)) | (refine And.intro (Nat.le_of_ble_eq_true rfl) ?_; (conv => whnf)) | (refine And.intro (by assumption) ?_; (conv => whnf)) | (refine And.intro (by decide) ?_; (conv => whnf)) | (refine br_nself ?_; (conv => whnf)) | (refine br_self ?_; (conv => whnf)) | (refine brT (decide_eq_true (by assumption)) ?_; (conv => whnf)) | (refine brT (by assumption) ?_; (conv => whnf)) | (refine brF (by assumption) ?_; (conv => whnf))))
        refine ih _ _ _ _ (by simpa using hl) (by rw [List.length_append]; show acc.length + 1 + _ ≤ _; omega) (fun z hz => (Mu.put_ne _ _ hz).trans (hm z hz)) ?_ ?_
        · rw [Mu.put_same, List.map_append]
          have : jnC f x y = bitC (f false false) := by unfold jnC; rw [decide_eq_false c2, decide_eq_false c] <;> rfl
          rw [this] <;> rfl
        · rw [e, List.append_assoc] <;> rfl
theorem jn_out {P : DEn} {f : Bool → Bool → Bool} {s0 s1 : Option PV} {r : Addr} {μ0 : Mu} {fin : List Str} {w : Nat} (hw : w ≤ 40) (hr : μ0 r = none) (hn : ∀ s4 s5 s6 s7 s8 s9 μ', ExM μ0 μ' → μ' r = some (.lst (fin.map .str)) → P.nx [s0, s1, some (.tup [.str (rowT f true), .str (rowT f false)]), some (.cell r), s4, s5, s6, s7, s8, s9] μ') :
    ∀ (as bs : List Str) (acc : List Str) (s4 s5 s6 s7 s8 s9 : Option PV) (μ : Mu), as.length = bs.length → acc.length + as.length ≤ 1000 → (∀ z ∈ as, z.length = w) → (∀ z ∈ bs, z.length = w) → ExM μ0 μ → μ r = some (.lst (acc.map .str)) → fin = acc ++ jnL f as bs →
      Lk (forD (.many [4, 5]) (f_joined_shapes_1.d R_joined_shapes) (zipP (as.map .str) (bs.map .str)) P [s0, s1, some (.tup [.str (rowT f true), .str (rowT f false)]), some (.cell r), s4, s5, s6, s7, s8, s9] μ)
  | [], bs, acc, s4, s5, s6, s7, s8, s9, μ, hl, hb, ha, hB, hm, hd, e => forD_n rfl (hn _ _ _ _ _ _ _ hm (by rw [hd, e]; unfold jnL; rw [List.zipWith_nil_left, List.append_nil]))
  | a :: as, [], acc, s4, s5, s6, s7, s8, s9, μ, hl, hb, ha, hB, hm, hd, e => absurd hl (by simp)
  | a :: as, b :: bs, acc, s4, s5, s6, s7, s8, s9, μ, hl, hb, ha, hB, hm, hd, e => by
    have ih := jn_out (s0 := s0) (s1 := s1) (fin := fin) hw hr hn as bs (acc ++ [jnS f a b])
    rw [List.length_cons] at hb
    have la := ha a List.mem_cons_self
    have lb := hB b List.mem_cons_self
    have la' : a.cps.toList.length = a.length := Array.length_toList ..
    have lb' : b.cps.toList.length = b.length := Array.length_toList ..
    refine forD_c rfl ?_
    (conv => whnf); (repeat (first | (refine brT rfl ?_; (conv => whnf)) | (refine brF rfl ?_; (conv => whnf)) | (refine And.intro rfl ?_; (conv => whnf)) | (refine And.intro (Nat.le_of_ble_eq_true rfl) ?_; (conv => whnf)) | (refine And.intro (by assumption) ?_; (conv => whnf)) | (refine And.intro (by decide) ?_; (conv => whnf)) | (refine br_nself ?_; (conv => whnf)) | (refine br_self ?_; (conv => whnf)) | (refine brT (decide_eq_true (by assumption)) ?_; (conv => whnf)) | (refine brT (by assumption) ?_; (conv => whnf)) | (refine brF (by assumption) ?_; (conv => whnf))))
    intro d hdn
    (conv => whnf); (repeat (first | (refine brT rfl ?_; (conv => whnf)) | (refine brF rfl ?_; (conv => whnf)) | (refine And.intro rfl ?_; (conv => whnf)) | (refine And.intro (Nat.le_of_ble_eq_true rfl) ?_; (conv => whnf)) | (refine And.intro (by assumption) ?_; (conv => whnf)) | (refine And.intro (by decide) ?_; (conv => whnf)) | (refine br_nself ?_; (conv => whnf)) | (refine br_self ?_; (conv => whnf)) | (refine brT (decide_eq_true (by assumption)) ?_; (conv => whnf)) | (refine brT (by assumption) ?_; (conv => whnf)) | (refine brF (by assumption) ?_; (conv => whnf))))
    refine jn_in (fin := (List.zipWith (jnC f) a.cps.toList b.cps.toList).map sg) (fun s7 s8 s9 μ' k1 k2 => ?_) a.cps.toList b.cps.toList [] _ _ _ _ (by omega) (by show 0 + _ ≤ _; omega) (fun _ _ => rfl) (Mu.put_same _ _ _) rfl
    (conv => whnf); (repeat (first | (refine brT rfl ?_; (conv => whnf)) | (refine brF rfl ?_; (conv => whnf)) | (refine And.intro rfl ?_; (conv => whnf)) | (refine And.intro (Nat.le_of_ble_eq_true rfl) ?_; (conv => whnf)) | (refine And.intro (by assumption) ?_; (conv => whnf)) | (refine And.intro (by decide) ?_; (conv => whnf)) | (refine br_nself ?_; (conv => whnf)) | (refine br_self ?_; (conv => whnf)) | (refine brT (decide_eq_true (by assumption)) ?_; (conv => whnf)) | (refine brT (by assumption) ?_; (conv => whnf)) | (refine brF (by assumption) ?_; (conv => whnf))))
    have nrd : r ≠ d := fun z => by rw [z, hdn] at hd; cases hd
    have kr : μ' r = some (.lst (acc.map .str)) := by rw [k1 r nrd, Mu.put_ne _ _ nrd]; exact hd
    refine brT (isLC_cell kr) ?_
    (conv => whnf); (repeat (first | (refine brT rfl ?_; (conv => whnf)) | (refine brF rfl ?_; (conv => whnf)) | (refine And.intro rfl ?_; (conv => whnf)) | (refine And.intro (Nat.le_of_ble_eq_true rfl) ?_; (conv => whnf)) | (refine And.intro (by assumption) ?_; (conv => whnf)) | (refine And.intro (by decide) ?_; (conv => whnf)) | (refine br_nself ?_; (conv => whnf)) | (refine br_self ?_; (conv => whnf)) | (refine brT (decide_eq_true (by assumption)) ?_; (conv => whnf)) | (refine brT (by assumption) ?_; (conv => whnf)) | (refine brF (by assumption) ?_; (conv => whnf))))
    rw [seqOf_c k2]
    refine ⟨_, rfl, ?_, ?_⟩
    · rw [sg_sum, List.length_zipWith]
      have : (Str.ofString "").length = 0 := rfl
      rw [this]
      omega
    · rw [join_sg]
      (conv => whnf); (repeat (first | (refine brT rfl ?_; (conv => whnf)) | (refine brF rfl ?_; (conv => whnf)) | (refine And.intro rfl ?_; (conv => whnf)) | (refine And.intro (Nat.le_of_ble_eq_true rfl) ?_; (conv => whnf)) | (refine And.intro (by assumption) ?_; (conv => whnf)) | (refine And.intro (by decide) ?_; (conv => whnf)) | (refine br_nself ?_; (conv => whnf)) | (refine br_self ?_; (conv => whnf)) | (refine brT (decide_eq_true (by assumption)) ?_; (conv => whnf)) | (refine brT (by assumption) ?_; (conv => whnf)) | (refine brF (by assumption) ?_; (conv => whnf))))
      rw [kr]
      refine ⟨by rw [List.length_map, sizeLine_eq]; omega, ?_⟩
      (conv => whnf); (repeat (first | (refine brT rfl ?_; (conv => whnf)) | (refine brF rfl ?_; (conv => whnf)) | (refine And.intro rfl ?_; (conv => whnf)) | (refine And.intro (Nat.le_of_ble_eq_true rfl) ?_; (conv => whnf)) | (refine And.intro (by assumption) ?_; (conv => whnf)) | (refine And.intro (by decide) ?_; (conv => whnf)) | (refine br_nself ?_; (conv => whnf)) | (refine br_self ?_; (conv => whnf)) | (refine brT (decide_eq_true (by assumption)) ?_; (conv => whnf)) | (refine brT (by assumption) ?_; (conv => whnf)) | (refine brF (by assumption) ?_; (conv => whnf))))
      refine ih _ _ _ _ _ _ _ (by simpa using hl) (by rw [List.length_append]; show acc.length + 1 + _ ≤ _; omega) (fun z hz => ha z (List.mem_cons_of_mem _ hz)) (fun z hz => hB z (List.mem_cons_of_mem _ hz)) ?_ ?_ ?_
      · intro z hz
        have z1 : z ≠ r := fun e => hz (e ▸ hr)
        have z2 : z ≠ d := fun e => by
          have := hm z hz
          rw [e, hdn] at this
          exact hz (e ▸ this.symm)
        rw [Mu.put_ne _ _ z1, k1 z z2, Mu.put_ne _ _ z2]
        exact hm z hz
      · rw [Mu.put_same, List.map_append] <;> rfl
      · rw [e, List.append_assoc] <;> rfl
theorem pure_joined_shapes : ∀ as μ q z, c_joined_shapes as μ q z → t_joined_shapes_0.d R_joined_shapes (endsOf q z) (startE 10 as) μ := fun as μ q z h => by
  unfold c_joined_shapes at h
  split at h
  · obtain ⟨f, rfl, rfl, as, bs, rfl, rfl, ga, gb, h⟩ := h
    unfold shapeP
    have a1 := ga.ne
    have a2 := ga.le
    have b2 := gb.le
    have a3 := ga.w2
    have b3 := gb.w2
    (conv => whnf); (repeat (first | (refine brT rfl ?_; (conv => whnf)) | (refine brF rfl ?_; (conv => whnf)) | (refine And.intro rfl ?_; (conv => whnf)) | (refine And.intro (Nat.le_of_ble_eq_true rfl) ?_; (conv => whnf)) | (refine And.intro (by assumption) ?_; (conv => whnf)) | (refine And.intro (by decide) ?_; (conv => whnf))))
    refine br_of (fun e => ?_) fun e => ?_
    · have e : ¬ wideL as = wideL bs := by
        intro z
        simp [sgn, z] at e
      have h := brE_f (by rw [decide_eq_false e] <;> rfl) h
      (conv => whnf); (repeat (first | (refine brT rfl ?_; (conv => whnf)) | (refine brF rfl ?_; (conv => whnf)) | (refine And.intro rfl ?_; (conv => whnf)) | (refine And.intro (Nat.le_of_ble_eq_true rfl) ?_; (conv => whnf)) | (refine And.intro (by assumption) ?_; (conv => whnf)) | (refine And.intro (by decide) ?_; (conv => whnf))))
      exact h _ (ExM.refl _)
    · have e : wideL as = wideL bs := by
        have : sgn true (decide (((wideL as : Nat) : Int) = ((wideL bs : Nat) : Int))) = false := e
        simp only [sgn, Bool.not_eq_false', decide_eq_true_eq] at this
        omega
      (conv => whnf); (repeat (first | (refine brT rfl ?_; (conv => whnf)) | (refine brF rfl ?_; (conv => whnf)) | (refine And.intro rfl ?_; (conv => whnf)) | (refine And.intro (Nat.le_of_ble_eq_true rfl) ?_; (conv => whnf)) | (refine And.intro (by assumption) ?_; (conv => whnf)) | (refine And.intro (by decide) ?_; (conv => whnf))))
      refine br_of (fun e2 => ?_) fun e2 => ?_
      · have e2 : ¬ as.length = bs.length := by
          intro z
          simp [sgn, z] at e2
        have h := brE_f (by rw [decide_eq_false e2, Bool.and_false]) h
        (conv => whnf); (repeat (first | (refine brT rfl ?_; (conv => whnf)) | (refine brF rfl ?_; (conv => whnf)) | (refine And.intro rfl ?_; (conv => whnf)) | (refine And.intro (Nat.le_of_ble_eq_true rfl) ?_; (conv => whnf)) | (refine And.intro (by assumption) ?_; (conv => whnf)) | (refine And.intro (by decide) ?_; (conv => whnf))))
        exact h _ (ExM.refl _)
      · have e2 : as.length = bs.length := by
          have : sgn true (decide (((as.length : Nat) : Int) = ((bs.length : Nat) : Int))) = false := e2
          simp only [sgn, Bool.not_eq_false', decide_eq_true_eq] at this
          omega
        have h := brE_t (by rw [decide_eq_true e, decide_eq_true e2] <;> rfl) h
        (conv => whnf); (repeat (first | (refine brT rfl ?_; (conv => whnf)) | (refine brF rfl ?_; (conv => whnf)) | (refine And.intro rfl ?_; (conv => whnf)) | (refine And.intro (Nat.le_of_ble_eq_true rfl) ?_; (conv => whnf)) | (refine And.intro (by assumption) ?_; (conv => whnf)) | (refine And.intro (by decide) ?_; (conv => whnf))))
        intro r hr
        (conv => whnf); (repeat (first | (refine brT rfl ?_; (conv => whnf)) | (refine brF rfl ?_; (conv => whnf)) | (refine And.intro rfl ?_; (conv => whnf)) | (refine And.intro (Nat.le_of_ble_eq_true rfl) ?_; (conv => whnf)) | (refine And.intro (by assumption) ?_; (conv => whnf)) | (refine And.intro (by decide) ?_; (conv => whnf)) | (refine br_nself ?_; (conv => whnf)) | (refine br_self ?_; (conv => whnf)) | (refine brT (decide_eq_true (by assumption)) ?_; (conv => whnf)) | (refine brT (by assumption) ?_; (conv => whnf)) | (refine brF (by assumption) ?_; (conv => whnf))))
        refine jn_out (fin := jnL f as bs) a3 hr (fun s4 s5 s6 s7 s8 s9 μ' k1 k2 => ?_) as bs [] _ _ _ _ _ _ _ e2 (by show 0 + _ ≤ _; omega) ga.len (fun z hz => (gb.len z hz).trans e.symm) (ExM.put hr _) (Mu.put_same _ _ _) rfl
        (conv => whnf); (repeat (first | (refine brT rfl ?_; (conv => whnf)) | (refine brF rfl ?_; (conv => whnf)) | (refine And.intro rfl ?_; (conv => whnf)) | (refine And.intro (Nat.le_of_ble_eq_true rfl) ?_; (conv => whnf)) | (refine And.intro (by assumption) ?_; (conv => whnf)) | (refine And.intro (by decide) ?_; (conv => whnf)) | (refine br_nself ?_; (conv => whnf)) | (refine br_self ?_; (conv => whnf)) | (refine brT (decide_eq_true (by assumption)) ?_; (conv => whnf)) | (refine brT (by assumption) ?_; (conv => whnf)) | (refine brF (by assumption) ?_; (conv => whnf))))
        have e3 : seqOf μ' (.cell r) = some (false, (jnL f as bs).map .str) := seqOf_c k2
        rw [e3]
        obtain ⟨g1, g2, g3⟩ := jn_good (f := f) ga gb e e2
        refine ⟨by rw [List.length_map, g3]; omega, jnL f as bs, rfl, by omega, fun z hz => by have := g1.len z hz; omega, ?_⟩
        rw [good_bad g1]
        refine brF (by decide) ⟨rfl, ?_⟩
        exact h _ k1
  · exact h.elim
end Px
namespace Px
open PySem PySem.Spec PyProof.Rows L2
def t_Shape___and___0 : ZB := bOne (sRet (zCall 269 (zCons (zVar 0) (zCons (zVar 1) (zCons (zTup (zCons (zStr "#.") (zCons (zStr "..") zNil))) zNil)))))
def c_Shape___and__ : Ct := fun as μ q x => match as with
  | [p, r] => joinedQ fAnd p r (fun v => ∀ μ', ExM μ μ' → q v μ') (∀ μ', ExM μ μ' → x (.WrongSize, [.non]) μ')
  | _ => False
theorem len_Shape___and__ : ∀ as μ q z, c_Shape___and__ as μ q z → as.length = 2 := fun as μ q z h => by
  unfold c_Shape___and__ at h
  split at h <;> first | rfl | exact h.elim
def L_Shape___and__ : Tbl := [(.g 269 [], c_joined_shapes)]
def H_Shape___and__ : Tbl := []
def Q_Shape___and__ : Qt := []
def R_Shape___and__ : Rt := { L := L_Shape___and__, LH := H_Shape___and__, Q := Q_Shape___and__ }
theorem pure_Shape___and__ : ∀ as μ q z, c_Shape___and__ as μ q z → t_Shape___and___0.d R_Shape___and__ (endsOf q z) (startE 2 as) μ := fun as μ q z h => by
  unfold c_Shape___and__ at h
  split at h
  · (conv => whnf); (repeat (first | (refine brT rfl ?_; (conv => whnf)) | (refine brF rfl ?_; (conv => whnf)) | (refine And.intro rfl ?_; (conv => whnf)) | (refine And.intro (Nat.le_of_ble_eq_true rfl) ?_; (conv => whnf)) | (refine And.intro (by assumption) ?_; (conv => whnf)) | (refine And.intro (by decide) ?_; (conv => whnf))))
    exact ⟨fAnd, rfl, rfl, h⟩
  · exact h.elim
end Px
namespace Px
open PySem PySem.Spec PyProof.Rows L2
def t_Shape___or___0 : ZB := bOne (sRet (zCall 269 (zCons (zVar 0) (zCons (zVar 1) (zCons (zTup (zCons (zStr "##") (zCons (zStr "#.") zNil))) zNil)))))
def c_Shape___or__ : Ct := fun as μ q x => match as with
  | [p, r] => joinedQ fOr p r (fun v => ∀ μ', ExM μ μ' → q v μ') (∀ μ', ExM μ μ' → x (.WrongSize, [.non]) μ')
  | _ => False
theorem len_Shape___or__ : ∀ as μ q z, c_Shape___or__ as μ q z → as.length = 2 := fun as μ q z h => by
  unfold c_Shape___or__ at h
  split at h <;> first | rfl | exact h.elim
def L_Shape___or__ : Tbl := [(.g 269 [], c_joined_shapes)]
def H_Shape___or__ : Tbl := []
def Q_Shape___or__ : Qt := []
def R_Shape___or__ : Rt := { L := L_Shape___or__, LH := H_Shape___or__, Q := Q_Shape___or__ }
theorem pure_Shape___or__ : ∀ as μ q z, c_Shape___or__ as μ q z → t_Shape___or___0.d R_Shape___or__ (endsOf q z) (startE 2 as) μ := fun as μ q z h => by
  unfold c_Shape___or__ at h
  split at h
  · (conv => whnf); (repeat (first | (refine brT rfl ?_; (conv => whnf)) | (refine brF rfl ?_; (conv => whnf)) | (refine And.intro rfl ?_; (conv => whnf)) | (refine And.intro (Nat.le_of_ble_eq_true rfl) ?_; (conv => whnf)) | (refine And.intro (by assumption) ?_; (conv => whnf)) | (refine And.intro (by decide) ?_; (conv => whnf))))
    exact ⟨fOr, rfl, rfl, h⟩
  · exact h.elim
end Px
namespace Px
open PySem PySem.Spec PyProof.Rows L2
def t_Shape___sub___0 : ZB := bOne (sRet (zCall 269 (zCons (zVar 0) (zCons (zVar 1) (zCons (zTup (zCons (zStr ".#") (zCons (zStr "..") zNil))) zNil)))))
def c_Shape___sub__ : Ct := fun as μ q x => match as with
  | [p, r] => joinedQ fSub p r (fun v => ∀ μ', ExM μ μ' → q v μ') (∀ μ', ExM μ μ' → x (.WrongSize, [.non]) μ')
  | _ => False
theorem len_Shape___sub__ : ∀ as μ q z, c_Shape___sub__ as μ q z → as.length = 2 := fun as μ q z h => by
  unfold c_Shape___sub__ at h
  split at h <;> first | rfl | exact h.elim
def L_Shape___sub__ : Tbl := [(.g 269 [], c_joined_shapes)]
def H_Shape___sub__ : Tbl := []
def Q_Shape___sub__ : Qt := []
def R_Shape___sub__ : Rt := { L := L_Shape___sub__, LH := H_Shape___sub__, Q := Q_Shape___sub__ }
theorem pure_Shape___sub__ : ∀ as μ q z, c_Shape___sub__ as μ q z → t_Shape___sub___0.d R_Shape___sub__ (endsOf q z) (startE 2 as) μ := fun as μ q z h => by
  unfold c_Shape___sub__ at h
  split at h
  · (conv => whnf); (repeat (first | (refine brT rfl ?_; (conv => whnf)) | (refine brF rfl ?_; (conv => whnf)) | (refine And.intro rfl ?_; (conv => whnf)) | (refine And.intro (Nat.le_of_ble_eq_true rfl) ?_; (conv => whnf)) | (refine And.intro (by assumption) ?_; (conv => whnf)) | (refine And.intro (by decide) ?_; (conv => whnf))))
    exact ⟨fSub, rfl, rfl, h⟩
  · exact h.elim
end Px
namespace Px
open PySem PySem.Spec PyProof.Rows L2
def t__law_asked_2 : ZB := bOne (sRet (zBin .Sub (zVar 0) (zVar 1)))
def t__law_asked_1 : ZB := bCons (sIf (tCmp .Eq (zVar 2) (zInt 1)) (bOne (sRet (zBin .BitOr (zVar 0) (zVar 1)))) bNil) t__law_asked_2
def t__law_asked_0 : ZB := bCons (sIf (tCmp .Eq (zVar 2) (zInt 0)) (bOne (sRet (zBin .BitAnd (zVar 0) (zVar 1)))) bNil) t__law_asked_1
def c__law_asked : Ct := fun as μ q x => match as with
  | [p, r, .int i] => joinedQ (fWay i) p r (fun v => ∀ μ', ExM μ μ' → q v μ') (∀ μ', ExM μ μ' → x (.WrongSize, [.non]) μ')
  | _ => False
theorem len__law_asked : ∀ as μ q z, c__law_asked as μ q z → as.length = 3 := fun as μ q z h => by
  unfold c__law_asked at h
  split at h <;> first | rfl | exact h.elim
def L__law_asked : Tbl := [(.m .Shape 2 [], c_Shape___and__), (.m .Shape 3 [], c_Shape___or__), (.m .Shape 1 [], c_Shape___sub__)]
def H__law_asked : Tbl := []
def Q__law_asked : Qt := []
def R__law_asked : Rt := { L := L__law_asked, LH := H__law_asked, Q := Q__law_asked }
theorem pure__law_asked : ∀ as μ q z, c__law_asked as μ q z → t__law_asked_0.d R__law_asked (endsOf q z) (startE 3 as) μ := fun as μ q z h => by
  unfold c__law_asked at h
  split at h
  · rename_i p r i
    obtain ⟨as, bs, rfl, rfl, ga, gb, h⟩ := h
    (conv => whnf); (repeat (first | (refine brT rfl ?_; (conv => whnf)) | (refine brF rfl ?_; (conv => whnf)) | (refine And.intro rfl ?_; (conv => whnf)) | (refine And.intro (Nat.le_of_ble_eq_true rfl) ?_; (conv => whnf)) | (refine And.intro (by assumption) ?_; (conv => whnf)) | (refine And.intro (by decide) ?_; (conv => whnf))))
    refine brD (fun e => ?_) fun e => ?_
    · have e1 : fWay i = fAnd := by unfold fWay; rw [if_pos e]
      rw [e1] at h
      (conv => whnf); (repeat (first | (refine brT rfl ?_; (conv => whnf)) | (refine brF rfl ?_; (conv => whnf)) | (refine And.intro rfl ?_; (conv => whnf)) | (refine And.intro (Nat.le_of_ble_eq_true rfl) ?_; (conv => whnf)) | (refine And.intro (by assumption) ?_; (conv => whnf)) | (refine And.intro (by decide) ?_; (conv => whnf))))
      exact ⟨as, bs, rfl, rfl, ga, gb, h⟩
    · (conv => whnf); (repeat (first | (refine brT rfl ?_; (conv => whnf)) | (refine brF rfl ?_; (conv => whnf)) | (refine And.intro rfl ?_; (conv => whnf)) | (refine And.intro (Nat.le_of_ble_eq_true rfl) ?_; (conv => whnf)) | (refine And.intro (by assumption) ?_; (conv => whnf)) | (refine And.intro (by decide) ?_; (conv => whnf))))
      refine brD (fun e2 => ?_) fun e2 => ?_
      · have e1 : fWay i = fOr := by unfold fWay; rw [if_neg e, if_pos e2]
        rw [e1] at h
        (conv => whnf); (repeat (first | (refine brT rfl ?_; (conv => whnf)) | (refine brF rfl ?_; (conv => whnf)) | (refine And.intro rfl ?_; (conv => whnf)) | (refine And.intro (Nat.le_of_ble_eq_true rfl) ?_; (conv => whnf)) | (refine And.intro (by assumption) ?_; (conv => whnf)) | (refine And.intro (by decide) ?_; (conv => whnf))))
        exact ⟨as, bs, rfl, rfl, ga, gb, h⟩
      · have e1 : fWay i = fSub := by unfold fWay; rw [if_neg e, if_neg e2]
        rw [e1] at h
        (conv => whnf); (repeat (first | (refine brT rfl ?_; (conv => whnf)) | (refine brF rfl ?_; (conv => whnf)) | (refine And.intro rfl ?_; (conv => whnf)) | (refine And.intro (Nat.le_of_ble_eq_true rfl) ?_; (conv => whnf)) | (refine And.intro (by assumption) ?_; (conv => whnf)) | (refine And.intro (by decide) ?_; (conv => whnf))))
        exact ⟨as, bs, rfl, rfl, ga, gb, h⟩
  · exact h.elim
end Px
namespace Px
open PySem PySem.Spec PyProof.Rows L2
def f__law_refused_v5_0 : ZB := (bOne (sTry .WrongSize 4 (bOne (sExpr (zCall 28 (zCons (zVar 0) (zCons (zVar 1) (zCons (zVar 3) zNil))))))
  (bOne (sSet 2 (zBin .Add (zVar 2) (zBlt .int (zCons (zCmp .Is (zXat "mask" (zVar 4)) zNon) zNil)))))))
def t__law_refused_v5_2 : ZB := bOne (sRet (zCmp .Eq (zVar 2) (zInt 3)))
def t__law_refused_v5_1 : ZB := bCons (sFor (.one 3) (iRg1 (zInt 3)) f__law_refused_v5_0) t__law_refused_v5_2
def t__law_refused_v5_0 : ZB := bCons (sSet 2 (zInt 0)) t__law_refused_v5_1
def c__law_refused_v5 : Ct := fun as μ q _ => match as with
  | [p, r] => ∃ as bs : List Str, p = shapeP as ∧ r = shapeP bs ∧ GoodLn as ∧ GoodLn bs ∧ (decide (wideL as = wideL bs) && decide (as.length = bs.length)) = false ∧ ∀ μ', ExM μ μ' → q (.bl true) μ'
  | _ => False
theorem len__law_refused_v5 : ∀ as μ q z, c__law_refused_v5 as μ q z → as.length = 2 := fun as μ q z h => by
  unfold c__law_refused_v5 at h
  split at h <;> first | rfl | exact h.elim
def L__law_refused_v5 : Tbl := [(.g 28 [], c__law_asked)]
def H__law_refused_v5 : Tbl := []
def Q__law_refused_v5 : Qt := []
def R__law_refused_v5 : Rt := { L := L__law_refused_v5, LH := H__law_refused_v5, Q := Q__law_refused_v5 }
theorem rf_turn {P : DEn} {as bs : List Str} (ga : GoodLn as) (gb : GoodLn bs) (hb : (decide (wideL as = wideL bs) && decide (as.length = bs.length)) = false) {i n : Int} (n0 : 0 ≤ n) (n1 : n < 3) {s4 : Option PV} {μ : Mu} (h : ∀ s4 μ', ExM μ μ' → P.nx [some (shapeP as), some (shapeP bs), some (.int (n + 1)), some (.int i), s4] μ') :
    f__law_refused_v5_0.d R__law_refused_v5 P [some (shapeP as), some (shapeP bs), some (.int n), some (.int i), s4] μ := by
  (conv => whnf); (repeat (first | (refine brT rfl ?_; (conv => whnf)) | (refine brF rfl ?_; (conv => whnf)) | (refine And.intro rfl ?_; (conv => whnf)) | (refine And.intro (Nat.le_of_ble_eq_true rfl) ?_; (conv => whnf)) | (refine And.intro (by assumption) ?_; (conv => whnf)) | (refine And.intro (by decide) ?_; (conv => whnf)) | (refine br_nself ?_; (conv => whnf)) | (refine br_self ?_; (conv => whnf)) | (refine brT (decide_eq_true (by assumption)) ?_; (conv => whnf)) | (refine brT (by assumption) ?_; (conv => whnf)) | (refine brF (by assumption) ?_; (conv => whnf))))
  refine ⟨as, bs, rfl, rfl, ga, gb, brF hb fun μ' hm => ?_⟩
  (conv => whnf); (repeat (first | (refine brT rfl ?_; (conv => whnf)) | (refine brF rfl ?_; (conv => whnf)) | (refine And.intro rfl ?_; (conv => whnf)) | (refine And.intro (Nat.le_of_ble_eq_true rfl) ?_; (conv => whnf)) | (refine And.intro (by assumption) ?_; (conv => whnf)) | (refine And.intro (by decide) ?_; (conv => whnf)) | (refine br_nself ?_; (conv => whnf)) | (refine br_self ?_; (conv => whnf)) | (refine brT (decide_eq_true (by assumption)) ?_; (conv => whnf)) | (refine brT (by assumption) ?_; (conv => whnf)) | (refine brF (by assumption) ?_; (conv => whnf))))
  intro c dd
  (conv => whnf); (repeat (first | (refine brT rfl ?_; (conv => whnf)) | (refine brF rfl ?_; (conv => whnf)) | (refine And.intro rfl ?_; (conv => whnf)) | (refine And.intro (Nat.le_of_ble_eq_true rfl) ?_; (conv => whnf)) | (refine And.intro (by assumption) ?_; (conv => whnf)) | (refine And.intro (by decide) ?_; (conv => whnf)) | (refine br_nself ?_; (conv => whnf)) | (refine br_self ?_; (conv => whnf)) | (refine brT (decide_eq_true (by assumption)) ?_; (conv => whnf)) | (refine brT (by assumption) ?_; (conv => whnf)) | (refine brF (by assumption) ?_; (conv => whnf))))
  refine h _ _ hm
theorem pure__law_refused_v5 : ∀ as μ q z, c__law_refused_v5 as μ q z → t__law_refused_v5_0.d R__law_refused_v5 (endsOf q z) (startE 5 as) μ := fun as μ q z h => by
  unfold c__law_refused_v5 at h
  split at h
  · obtain ⟨as, bs, rfl, rfl, ga, gb, hb, h⟩ := h
    (conv => whnf); (repeat (first | (refine brT rfl ?_; (conv => whnf)) | (refine brF rfl ?_; (conv => whnf)) | (refine And.intro rfl ?_; (conv => whnf)) | (refine And.intro (Nat.le_of_ble_eq_true rfl) ?_; (conv => whnf)) | (refine And.intro (by assumption) ?_; (conv => whnf)) | (refine And.intro (by decide) ?_; (conv => whnf))))
    refine forD_c rfl ?_
    refine rf_turn ga gb hb (by omega) (by omega) fun s4 μ1 h1 => ?_
    refine forD_c rfl ?_
    refine rf_turn ga gb hb (by omega) (by omega) fun s4 μ2 h2 => ?_
    refine forD_c rfl ?_
    refine rf_turn ga gb hb (by omega) (by omega) fun s4 μ3 h3 => ?_
    refine forD_n rfl ?_
    (conv => whnf); (repeat (first | (refine brT rfl ?_; (conv => whnf)) | (refine brF rfl ?_; (conv => whnf)) | (refine And.intro rfl ?_; (conv => whnf)) | (refine And.intro (Nat.le_of_ble_eq_true rfl) ?_; (conv => whnf)) | (refine And.intro (by assumption) ?_; (conv => whnf)) | (refine And.intro (by decide) ?_; (conv => whnf))))
    exact h _ (h1.trans (h2.trans h3))
  · exact h.elim
end Px
namespace Px
open PySem PySem.Spec PyProof.Rows L2
def t_Shape___eq___0 : ZB := bOne (sRet (zAnd [(zBlt .isi (zCons (zVar 1) (zCons (zCls .Shape) zNil))), (zCmp .Eq (zAtt "lines" (zVar 0)) (zAtt "lines" (zVar 1)))]))
abbrev c_Shape___eq__ : Ct := cEq .Shape q_Shape
theorem len_Shape___eq__ : ∀ as μ q z, c_Shape___eq__ as μ q z → as.length = 2 := cEq_len
def L_Shape___eq__ : Tbl := []
def H_Shape___eq__ : Tbl := []
def Q_Shape___eq__ : Qt := []
def R_Shape___eq__ : Rt := { L := L_Shape___eq__, LH := H_Shape___eq__, Q := Q_Shape___eq__ }
theorem pure_Shape___eq__ : ∀ as μ q z, c_Shape___eq__ as μ q z → t_Shape___eq___0.d R_Shape___eq__ (endsOf q z) (startE 2 as) μ := fun as μ q z h => by
  obtain ⟨xs, b, k, rfl, e, hq⟩ := cEq_inv h
  clear h
  rcases q_Shape_inv e with ⟨a1, a2, a3, b1, b2, b3, rfl, rfl, e⟩ | ⟨a1, a2, a3, rfl, hb, rfl⟩
  · (conv => whnf); (repeat (first | (refine brT rfl ?_; (conv => whnf)) | (refine brF rfl ?_; (conv => whnf)) | (refine And.intro rfl ?_; (conv => whnf)) | (refine And.intro (Nat.le_of_ble_eq_true rfl) ?_; (conv => whnf)) | (refine And.intro (by assumption) ?_; (conv => whnf)) | (refine And.intro (by decide) ?_; (conv => whnf))))
    refine eqQ_of (Q := R_Shape___eq__.Q) (x := z) e ?_
    (conv => whnf); (repeat (first | (refine brT rfl ?_; (conv => whnf)) | (refine brF rfl ?_; (conv => whnf)) | (refine And.intro rfl ?_; (conv => whnf)) | (refine And.intro (Nat.le_of_ble_eq_true rfl) ?_; (conv => whnf)) | (refine And.intro (by assumption) ?_; (conv => whnf)) | (refine And.intro (by decide) ?_; (conv => whnf))))
    exact hq
  · (conv => whnf); (repeat (first | (refine brT rfl ?_; (conv => whnf)) | (refine brF rfl ?_; (conv => whnf)) | (refine And.intro rfl ?_; (conv => whnf)) | (refine And.intro (Nat.le_of_ble_eq_true rfl) ?_; (conv => whnf)) | (refine And.intro (by assumption) ?_; (conv => whnf)) | (refine And.intro (by decide) ?_; (conv => whnf))))
    rw [oth_isi hb]
    (conv => whnf); (repeat (first | (refine brT rfl ?_; (conv => whnf)) | (refine brF rfl ?_; (conv => whnf)) | (refine And.intro rfl ?_; (conv => whnf)) | (refine And.intro (Nat.le_of_ble_eq_true rfl) ?_; (conv => whnf)) | (refine And.intro (by assumption) ?_; (conv => whnf)) | (refine And.intro (by decide) ?_; (conv => whnf))))
    exact hq
end Px
namespace Px
open PySem PySem.Spec PyProof.Rows L2
def f_law_k59_0 : ZB := (bCons (sIf (tNot (tTr (zCall 175 (zCons (zCall 28 (zCons (zVar 8) (zCons (zVar 9) (zCons (zVar 10) zNil)))) (zCons (zCall 83 (zCons (zVar 4) (zCons (zVar 5) (zCons (zVar 10) zNil)))) zNil))))) (bOne (sRet (zBl false))) bNil)
  (bOne (sIf (tNot (tTr (zCall 175 (zCons (zCall 28 (zCons (zVar 9) (zCons (zVar 8) (zCons (zVar 10) zNil)))) (zCons (zCall 83 (zCons (zVar 5) (zCons (zVar 4) (zCons (zVar 10) zNil)))) zNil))))) (bOne (sRet (zBl false))) bNil)))
def f_law_k59_1 : ZB := (bCons (sIf (tNot (tTr (zCall 175 (zCons (zCall 28 (zCons (zVar 8) (zCons (zVar 12) (zCons (zVar 10) zNil)))) (zCons (zCall 83 (zCons (zVar 4) (zCons (zVar 11) (zCons (zVar 10) zNil)))) zNil))))) (bOne (sRet (zBl false))) bNil)
  (bOne (sIf (tNot (tTr (zCall 175 (zCons (zCall 28 (zCons (zVar 8) (zCons (zVar 9) (zCons (zVar 10) zNil)))) (zCons (zCall 83 (zCons (zVar 4) (zCons (zVar 5) (zCons (zVar 10) zNil)))) zNil))))) (bOne (sRet (zBl false))) bNil)))
def t_law_k59_17 : ZB := bOne (sRet (zAnd [(zCall 175 (zCons (zVar 8) (zCons (zVar 4) zNil))), (zCall 175 (zCons (zVar 9) (zCons (zVar 5) zNil)))]))
def t_law_k59_16 : ZB := bCons (sFor (.one 10) (iRg1 (zInt 3)) f_law_k59_1) t_law_k59_17
def t_law_k59_15 : ZB := bCons (sSet 12 (zCm .Shape 295 (zCls .Shape) (zCons (zVar 11) zNil))) t_law_k59_16
def t_law_k59_14 : ZB := bCons (sSet 11 (zFrz (zCall 99 (zCons (zVar 1) (zCons (zVar 2) (zCons (zVar 3) zNil)))))) t_law_k59_15
def t_law_k59_13 : ZB := bCons (sFor (.one 10) (iRg1 (zInt 3)) f_law_k59_0) t_law_k59_14
def t_law_k59_12 : ZB := bCons (sIf (tCmp .Gt (zVar 6) (zInt 5)) (bOne (sRet (zAnd [(zCall 144 (zCons (zVar 8) (zCons (zVar 9) zNil))), (zCall 144 (zCons (zVar 9) (zCons (zVar 8) zNil))), (zCall 175 (zCons (zVar 8) (zCons (zVar 4) zNil)))]))) bNil) t_law_k59_13
def t_law_k59_11 : ZB := bCons (sIf (tNot (tTr (zCall 175 (zCons (zInv (zVar 8)) (zCons (zCall 83 (zCons (zVar 4) (zCons (zVar 4) (zCons (zInt 3) zNil)))) zNil))))) (bOne (sRet (zBl false))) bNil) t_law_k59_12
def t_law_k59_10 : ZB := bCons (sIf (tOr [(tNot (tTr (zCall 81 (zCons (zCmp .Eq (zVar 8) (zVar 9)) (zCons (zCmp .Eq (zVar 4) (zVar 5)) zNil))))), (tNot (tTr (zCall 81 (zCons (zCmp .Eq (zVar 9) (zVar 8)) (zCons (zCmp .Eq (zVar 4) (zVar 5)) zNil))))), (tCmp .IsNot (zCmp .Eq (zVar 8) (zAtt "lines" (zVar 8))) (zBl false))]) (bOne (sRet (zBl false))) bNil) t_law_k59_11
def t_law_k59_9 : ZB := bCons (sSet 9 (zCm .Shape 295 (zCls .Shape) (zCons (zVar 5) zNil))) t_law_k59_10
def t_law_k59_8 : ZB := bCons (sSet 8 (zCm .Shape 295 (zCls .Shape) (zCons (zVar 4) zNil))) t_law_k59_9
def t_law_k59_7 : ZB := bCons (sIf (tCmp .Eq (zVar 6) (zInt 7)) (bOne (sSetL 5 true (.one 7) [7] (iSq (zVar 5)) tsNil (zBin .Add (zVar 7) (zStr "#")))) bNil) t_law_k59_8
def t_law_k59_6 : ZB := bCons (sIf (tCmp .Eq (zVar 6) (zInt 6)) (bOne (sSet 5 (zBin .Add (zVar 5) (zLst (zDisp (zCons (zIdx (zVar 5) (zInt 0)) zNil)))))) bNil) t_law_k59_7
def t_law_k59_5 : ZB := bCons (sIf (tCmp .Eq (zVar 6) (zInt 5)) (bOne (sSet 5 (zLst (zList (zVar 4))))) bNil) t_law_k59_6
def t_law_k59_4 : ZB := bCons (sSet 6 (zCall 48 (zCons (zVar 1) (zCons (zInt 8) zNil)))) t_law_k59_5
def t_law_k59_3 : ZB := bCons (sSet 5 (zFrz (zCall 99 (zCons (zVar 1) (zCons (zVar 2) (zCons (zVar 3) zNil)))))) t_law_k59_4
def t_law_k59_2 : ZB := bCons (sSet 4 (zFrz (zCall 99 (zCons (zVar 1) (zCons (zVar 2) (zCons (zVar 3) zNil)))))) t_law_k59_3
def t_law_k59_1 : ZB := bCons (sSet 3 (zBin .Add (zInt 1) (zCall 48 (zCons (zVar 1) (zCons (zInt 5) zNil))))) t_law_k59_2
def t_law_k59_0 : ZB := bCons (sSet 2 (zBin .Add (zInt 1) (zCall 48 (zCons (zVar 1) (zCons (zInt 6) zNil))))) t_law_k59_1
def L_law_k59 : Tbl := [(.g 48 [], cDraw), (.g 99 [], c__law_lines), (.cm .Shape 295 [], c_Shape_of), (.g 81 [], c__law_is), (.g 175 [], c__law_same_shape), (.m .Shape 5 [], c_Shape___invert__), (.g 83 [], c__law_joint), (.g 144 [], c__law_refused_v5), (.g 28 [], c__law_asked)]
def H_law_k59 : Tbl := []
def Q_law_k59 : Qt := [(.Shape, q_Shape)]
def R_law_k59 : Rt := { L := L_law_k59, LH := H_law_k59, Q := Q_law_k59 }
theorem k59_mk {as : List Str} (ga : GoodLn as) {q : PV → Mu → Prop} {x : QX} {μ : Mu} (h : q (shapeP as) μ) : c_Shape_of [.cls .Shape, .lst (as.map .str)] μ q x := by
  show (as.map PV.str).length ≤ 1000 ∧ mkK .Shape kShape [.tup (as.map .str)] μ q x
  have := ga.le
  refine ⟨by rw [List.length_map]; omega, as, rfl, by omega, fun z hz => by have := ga.len z hz; have := ga.w2; omega, ?_⟩
  rw [good_bad ga]
  exact brF (by decide) ⟨rfl, h⟩
theorem fl_way {i : Int} (h : i < 3) : fLaw i = fWay i := by unfold fLaw; rw [if_neg (by omega)]
theorem k59_sz {as bs : List Str} (e1 : wideL as = wideL bs) (e2 : as.length = bs.length) : (decide (wideL as = wideL bs) && decide (as.length = bs.length)) = true := by rw [decide_eq_true e1, decide_eq_true e2] <;> rfl
theorem k59_t0 {P : DEn} {as bs : List Str} (ga : GoodLn as) (gb : GoodLn bs) (e1 : wideL as = wideL bs) (e2 : as.length = bs.length) {i : Int} (i0 : 0 ≤ i) (i3 : i < 3) {s0 s1 s2 s3 s6 s7 s11 s12 : Option PV} {μ : Mu} (hn : ∀ μ', P.nx [s0, s1, s2, s3, some (.lst (as.map .str)), some (.lst (bs.map .str)), s6, s7, some (shapeP as), some (shapeP bs), some (.int i), s11, s12] μ') :
    f_law_k59_0.d R_law_k59 P [s0, s1, s2, s3, some (.lst (as.map .str)), some (.lst (bs.map .str)), s6, s7, some (shapeP as), some (shapeP bs), some (.int i), s11, s12] μ := by
  obtain ⟨g1, _, _⟩ := jn_good (f := fWay i) ga gb e1 e2
  obtain ⟨g2, _, _⟩ := jn_good (f := fWay i) gb ga e1.symm e2.symm
  (conv => whnf); (repeat (first | (refine brT rfl ?_; (conv => whnf)) | (refine brF rfl ?_; (conv => whnf)) | (refine And.intro rfl ?_; (conv => whnf)) | (refine And.intro (Nat.le_of_ble_eq_true rfl) ?_; (conv => whnf)) | (refine And.intro (by assumption) ?_; (conv => whnf)) | (refine And.intro (by decide) ?_; (conv => whnf)) | (refine br_nself ?_; (conv => whnf)) | (refine br_self ?_; (conv => whnf)) | (refine brT (decide_eq_true (by assumption)) ?_; (conv => whnf)) | (refine brT (by assumption) ?_; (conv => whnf)) | (refine brF (by assumption) ?_; (conv => whnf))))
  refine ⟨as, bs, rfl, rfl, ga, gb, brT (k59_sz e1 e2) fun μ1 _ => ?_⟩
  (conv => whnf); (repeat (first | (refine brT rfl ?_; (conv => whnf)) | (refine brF rfl ?_; (conv => whnf)) | (refine And.intro rfl ?_; (conv => whnf)) | (refine And.intro (Nat.le_of_ble_eq_true rfl) ?_; (conv => whnf)) | (refine And.intro (by assumption) ?_; (conv => whnf)) | (refine And.intro (by decide) ?_; (conv => whnf)) | (refine br_nself ?_; (conv => whnf)) | (refine br_self ?_; (conv => whnf)) | (refine brT (decide_eq_true (by assumption)) ?_; (conv => whnf)) | (refine brT (by assumption) ?_; (conv => whnf)) | (refine brF (by assumption) ?_; (conv => whnf))))
  refine ⟨as, bs, rfl, rfl, ga, gb, e1, e2, i0, by omega, ?_⟩
  rw [fl_way i3]
  (conv => whnf); (repeat (first | (refine brT rfl ?_; (conv => whnf)) | (refine brF rfl ?_; (conv => whnf)) | (refine And.intro rfl ?_; (conv => whnf)) | (refine And.intro (Nat.le_of_ble_eq_true rfl) ?_; (conv => whnf)) | (refine And.intro (by assumption) ?_; (conv => whnf)) | (refine And.intro (by decide) ?_; (conv => whnf)) | (refine br_nself ?_; (conv => whnf)) | (refine br_self ?_; (conv => whnf)) | (refine brT (decide_eq_true (by assumption)) ?_; (conv => whnf)) | (refine brT (by assumption) ?_; (conv => whnf)) | (refine brF (by assumption) ?_; (conv => whnf))))
  refine ⟨_, rfl, rfl, g1, ?_⟩
  (conv => whnf); (repeat (first | (refine brT rfl ?_; (conv => whnf)) | (refine brF rfl ?_; (conv => whnf)) | (refine And.intro rfl ?_; (conv => whnf)) | (refine And.intro (Nat.le_of_ble_eq_true rfl) ?_; (conv => whnf)) | (refine And.intro (by assumption) ?_; (conv => whnf)) | (refine And.intro (by decide) ?_; (conv => whnf)) | (refine br_nself ?_; (conv => whnf)) | (refine br_self ?_; (conv => whnf)) | (refine brT (decide_eq_true (by assumption)) ?_; (conv => whnf)) | (refine brT (by assumption) ?_; (conv => whnf)) | (refine brF (by assumption) ?_; (conv => whnf))))
  refine ⟨bs, as, rfl, rfl, gb, ga, brT (k59_sz e1.symm e2.symm) fun μ2 _ => ?_⟩
  (conv => whnf); (repeat (first | (refine brT rfl ?_; (conv => whnf)) | (refine brF rfl ?_; (conv => whnf)) | (refine And.intro rfl ?_; (conv => whnf)) | (refine And.intro (Nat.le_of_ble_eq_true rfl) ?_; (conv => whnf)) | (refine And.intro (by assumption) ?_; (conv => whnf)) | (refine And.intro (by decide) ?_; (conv => whnf)) | (refine br_nself ?_; (conv => whnf)) | (refine br_self ?_; (conv => whnf)) | (refine brT (decide_eq_true (by assumption)) ?_; (conv => whnf)) | (refine brT (by assumption) ?_; (conv => whnf)) | (refine brF (by assumption) ?_; (conv => whnf))))
  refine ⟨bs, as, rfl, rfl, gb, ga, e1.symm, e2.symm, i0, by omega, ?_⟩
  rw [fl_way i3]
  (conv => whnf); (repeat (first | (refine brT rfl ?_; (conv => whnf)) | (refine brF rfl ?_; (conv => whnf)) | (refine And.intro rfl ?_; (conv => whnf)) | (refine And.intro (Nat.le_of_ble_eq_true rfl) ?_; (conv => whnf)) | (refine And.intro (by assumption) ?_; (conv => whnf)) | (refine And.intro (by decide) ?_; (conv => whnf)) | (refine br_nself ?_; (conv => whnf)) | (refine br_self ?_; (conv => whnf)) | (refine brT (decide_eq_true (by assumption)) ?_; (conv => whnf)) | (refine brT (by assumption) ?_; (conv => whnf)) | (refine brF (by assumption) ?_; (conv => whnf))))
  refine ⟨_, rfl, rfl, g2, ?_⟩
  (conv => whnf); (repeat (first | (refine brT rfl ?_; (conv => whnf)) | (refine brF rfl ?_; (conv => whnf)) | (refine And.intro rfl ?_; (conv => whnf)) | (refine And.intro (Nat.le_of_ble_eq_true rfl) ?_; (conv => whnf)) | (refine And.intro (by assumption) ?_; (conv => whnf)) | (refine And.intro (by decide) ?_; (conv => whnf)) | (refine br_nself ?_; (conv => whnf)) | (refine br_self ?_; (conv => whnf)) | (refine brT (decide_eq_true (by assumption)) ?_; (conv => whnf)) | (refine brT (by assumption) ?_; (conv => whnf)) | (refine brF (by assumption) ?_; (conv => whnf))))
  exact hn _
theorem k59_t1 {P : DEn} {as bs cs : List Str} (ga : GoodLn as) (gb : GoodLn bs) (gc : GoodLn cs) (e1 : wideL as = wideL bs) (e2 : as.length = bs.length) (f1 : wideL as = wideL cs) (f2 : as.length = cs.length) {i : Int} (i0 : 0 ≤ i) (i3 : i < 3) {s0 s1 s2 s3 s6 s7 : Option PV} {μ : Mu} (hn : ∀ μ', P.nx [s0, s1, s2, s3, some (.lst (as.map .str)), some (.lst (bs.map .str)), s6, s7, some (shapeP as), some (shapeP bs), some (.int i), some (.lst (cs.map .str)), some (shapeP cs)] μ') :
    f_law_k59_1.d R_law_k59 P [s0, s1, s2, s3, some (.lst (as.map .str)), some (.lst (bs.map .str)), s6, s7, some (shapeP as), some (shapeP bs), some (.int i), some (.lst (cs.map .str)), some (shapeP cs)] μ := by
  obtain ⟨g1, _, _⟩ := jn_good (f := fWay i) ga gb e1 e2
  obtain ⟨g2, _, _⟩ := jn_good (f := fWay i) ga gc f1 f2
  (conv => whnf); (repeat (first | (refine brT rfl ?_; (conv => whnf)) | (refine brF rfl ?_; (conv => whnf)) | (refine And.intro rfl ?_; (conv => whnf)) | (refine And.intro (Nat.le_of_ble_eq_true rfl) ?_; (conv => whnf)) | (refine And.intro (by assumption) ?_; (conv => whnf)) | (refine And.intro (by decide) ?_; (conv => whnf)) | (refine br_nself ?_; (conv => whnf)) | (refine br_self ?_; (conv => whnf)) | (refine brT (decide_eq_true (by assumption)) ?_; (conv => whnf)) | (refine brT (by assumption) ?_; (conv => whnf)) | (refine brF (by assumption) ?_; (conv => whnf))))
  refine ⟨as, cs, rfl, rfl, ga, gc, brT (k59_sz f1 f2) fun μ1 _ => ?_⟩
  (conv => whnf); (repeat (first | (refine brT rfl ?_; (conv => whnf)) | (refine brF rfl ?_; (conv => whnf)) | (refine And.intro rfl ?_; (conv => whnf)) | (refine And.intro (Nat.le_of_ble_eq_true rfl) ?_; (conv => whnf)) | (refine And.intro (by assumption) ?_; (conv => whnf)) | (refine And.intro (by decide) ?_; (conv => whnf)) | (refine br_nself ?_; (conv => whnf)) | (refine br_self ?_; (conv => whnf)) | (refine brT (decide_eq_true (by assumption)) ?_; (conv => whnf)) | (refine brT (by assumption) ?_; (conv => whnf)) | (refine brF (by assumption) ?_; (conv => whnf))))
  refine ⟨as, cs, rfl, rfl, ga, gc, f1, f2, i0, by omega, ?_⟩
  rw [fl_way i3]
  (conv => whnf); (repeat (first | (refine brT rfl ?_; (conv => whnf)) | (refine brF rfl ?_; (conv => whnf)) | (refine And.intro rfl ?_; (conv => whnf)) | (refine And.intro (Nat.le_of_ble_eq_true rfl) ?_; (conv => whnf)) | (refine And.intro (by assumption) ?_; (conv => whnf)) | (refine And.intro (by decide) ?_; (conv => whnf)) | (refine br_nself ?_; (conv => whnf)) | (refine br_self ?_; (conv => whnf)) | (refine brT (decide_eq_true (by assumption)) ?_; (conv => whnf)) | (refine brT (by assumption) ?_; (conv => whnf)) | (refine brF (by assumption) ?_; (conv => whnf))))
  refine ⟨_, rfl, rfl, g2, ?_⟩
  (conv => whnf); (repeat (first | (refine brT rfl ?_; (conv => whnf)) | (refine brF rfl ?_; (conv => whnf)) | (refine And.intro rfl ?_; (conv => whnf)) | (refine And.intro (Nat.le_of_ble_eq_true rfl) ?_; (conv => whnf)) | (refine And.intro (by assumption) ?_; (conv => whnf)) | (refine And.intro (by decide) ?_; (conv => whnf)) | (refine br_nself ?_; (conv => whnf)) | (refine br_self ?_; (conv => whnf)) | (refine brT (decide_eq_true (by assumption)) ?_; (conv => whnf)) | (refine brT (by assumption) ?_; (conv => whnf)) | (refine brF (by assumption) ?_; (conv => whnf))))
  refine ⟨as, bs, rfl, rfl, ga, gb, brT (k59_sz e1 e2) fun μ2 _ => ?_⟩
  (conv => whnf); (repeat (first | (refine brT rfl ?_; (conv => whnf)) | (refine brF rfl ?_; (conv => whnf)) | (refine And.intro rfl ?_; (conv => whnf)) | (refine And.intro (Nat.le_of_ble_eq_true rfl) ?_; (conv => whnf)) | (refine And.intro (by assumption) ?_; (conv => whnf)) | (refine And.intro (by decide) ?_; (conv => whnf)) | (refine br_nself ?_; (conv => whnf)) | (refine br_self ?_; (conv => whnf)) | (refine brT (decide_eq_true (by assumption)) ?_; (conv => whnf)) | (refine brT (by assumption) ?_; (conv => whnf)) | (refine brF (by assumption) ?_; (conv => whnf))))
  refine ⟨as, bs, rfl, rfl, ga, gb, e1, e2, i0, by omega, ?_⟩
  rw [fl_way i3]
  (conv => whnf); (repeat (first | (refine brT rfl ?_; (conv => whnf)) | (refine brF rfl ?_; (conv => whnf)) | (refine And.intro rfl ?_; (conv => whnf)) | (refine And.intro (Nat.le_of_ble_eq_true rfl) ?_; (conv => whnf)) | (refine And.intro (by assumption) ?_; (conv => whnf)) | (refine And.intro (by decide) ?_; (conv => whnf)) | (refine br_nself ?_; (conv => whnf)) | (refine br_self ?_; (conv => whnf)) | (refine brT (decide_eq_true (by assumption)) ?_; (conv => whnf)) | (refine brT (by assumption) ?_; (conv => whnf)) | (refine brF (by assumption) ?_; (conv => whnf))))
  refine ⟨_, rfl, rfl, g1, ?_⟩
  (conv => whnf); (repeat (first | (refine brT rfl ?_; (conv => whnf)) | (refine brF rfl ?_; (conv => whnf)) | (refine And.intro rfl ?_; (conv => whnf)) | (refine And.intro (Nat.le_of_ble_eq_true rfl) ?_; (conv => whnf)) | (refine And.intro (by assumption) ?_; (conv => whnf)) | (refine And.intro (by decide) ?_; (conv => whnf)) | (refine br_nself ?_; (conv => whnf)) | (refine br_self ?_; (conv => whnf)) | (refine brT (decide_eq_true (by assumption)) ?_; (conv => whnf)) | (refine brT (by assumption) ?_; (conv => whnf)) | (refine brF (by assumption) ?_; (conv => whnf))))
  exact hn _
theorem k59_tail {as bs : List Str} (ga : GoodLn as) (gb : GoodLn bs) {w h way : Int} (hw : (wideL as : Nat) = w) (hh : (as.length : Nat) = h) (w6 : w ≤ 6) (h5 : h ≤ 5) (hs : decide (5 < way) = !(decide (wideL as = wideL bs) && decide (as.length = bs.length))) {s0 s7 : Option PV} {μ : Mu} :
    t_law_k59_8.d R_law_k59 lawEnds [s0, some .box, some (.int w), some (.int h), some (.lst (as.map .str)), some (.lst (bs.map .str)), some (.int way), s7, none, none, none, none, none] μ := by
  (conv => whnf); (repeat (first | (refine brT rfl ?_; (conv => whnf)) | (refine brF rfl ?_; (conv => whnf)) | (refine And.intro rfl ?_; (conv => whnf)) | (refine And.intro (Nat.le_of_ble_eq_true rfl) ?_; (conv => whnf)) | (refine And.intro (by assumption) ?_; (conv => whnf)) | (refine And.intro (by decide) ?_; (conv => whnf)) | (refine br_nself ?_; (conv => whnf)) | (refine br_self ?_; (conv => whnf)) | (refine brT (decide_eq_true (by assumption)) ?_; (conv => whnf)) | (refine brT (by assumption) ?_; (conv => whnf)) | (refine brF (by assumption) ?_; (conv => whnf))))
  refine k59_mk ga ?_
  (conv => whnf); (repeat (first | (refine brT rfl ?_; (conv => whnf)) | (refine brF rfl ?_; (conv => whnf)) | (refine And.intro rfl ?_; (conv => whnf)) | (refine And.intro (Nat.le_of_ble_eq_true rfl) ?_; (conv => whnf)) | (refine And.intro (by assumption) ?_; (conv => whnf)) | (refine And.intro (by decide) ?_; (conv => whnf)) | (refine br_nself ?_; (conv => whnf)) | (refine br_self ?_; (conv => whnf)) | (refine brT (decide_eq_true (by assumption)) ?_; (conv => whnf)) | (refine brT (by assumption) ?_; (conv => whnf)) | (refine brF (by assumption) ?_; (conv => whnf))))
  refine k59_mk gb ?_
  have dab : ∀ μ, deqL R_law_k59.Q false μ (shapeP as) (shapeP bs) = some (decide (as = bs)) := fun μ => deqL_of (show deq R_law_k59.Q 10 (shapeP as) (shapeP bs) = some (decide (as = bs)) from shapes_eq as bs (.int (wideL as : Nat)) (.int (as.length : Nat)))
  have dba : ∀ μ, deqL R_law_k59.Q false μ (shapeP bs) (shapeP as) = some (decide (as = bs)) := fun μ => deqL_of (show deq R_law_k59.Q 10 (shapeP bs) (shapeP as) = some (decide (as = bs)) from (shapes_eq bs as (.int (wideL bs : Nat)) (.int (bs.length : Nat))).trans (congrArg some (decide_eq_decide.mpr eq_comm)))
  have lab : ∀ μ, deqL R_law_k59.Q false μ (.lst (as.map .str)) (.lst (bs.map .str)) = some (decide (as = bs)) := fun μ => deqL_of (show deq R_law_k59.Q 10 (.lst (as.map .str)) (.lst (bs.map .str)) = some (decide (as = bs)) from deq_lstr R_law_k59.Q as bs)
  have dtt : (!decide (decide (as = bs) = decide (as = bs))) = false := by rw [decide_eq_true rfl] <;> rfl
  (conv => whnf); (repeat (first | (refine brT rfl ?_; (conv => whnf)) | (refine brF rfl ?_; (conv => whnf)) | (refine And.intro rfl ?_; (conv => whnf)) | (refine And.intro (Nat.le_of_ble_eq_true rfl) ?_; (conv => whnf)) | (refine And.intro (by assumption) ?_; (conv => whnf)) | (refine And.intro (by decide) ?_; (conv => whnf)) | (refine br_nself ?_; (conv => whnf)) | (refine br_self ?_; (conv => whnf)) | (refine brT (decide_eq_true (by assumption)) ?_; (conv => whnf)) | (refine brT (by assumption) ?_; (conv => whnf)) | (refine brF (by assumption) ?_; (conv => whnf))))
  rw [dab]
  (conv => whnf); (repeat (first | (refine brT rfl ?_; (conv => whnf)) | (refine brF rfl ?_; (conv => whnf)) | (refine And.intro rfl ?_; (conv => whnf)) | (refine And.intro (Nat.le_of_ble_eq_true rfl) ?_; (conv => whnf)) | (refine And.intro (by assumption) ?_; (conv => whnf)) | (refine And.intro (by decide) ?_; (conv => whnf)) | (refine br_nself ?_; (conv => whnf)) | (refine br_self ?_; (conv => whnf)) | (refine brT (decide_eq_true (by assumption)) ?_; (conv => whnf)) | (refine brT (by assumption) ?_; (conv => whnf)) | (refine brF (by assumption) ?_; (conv => whnf))))
  rw [lab]
  (conv => whnf); (repeat (first | (refine brT rfl ?_; (conv => whnf)) | (refine brF rfl ?_; (conv => whnf)) | (refine And.intro rfl ?_; (conv => whnf)) | (refine And.intro (Nat.le_of_ble_eq_true rfl) ?_; (conv => whnf)) | (refine And.intro (by assumption) ?_; (conv => whnf)) | (refine And.intro (by decide) ?_; (conv => whnf)) | (refine br_nself ?_; (conv => whnf)) | (refine br_self ?_; (conv => whnf)) | (refine brT (decide_eq_true (by assumption)) ?_; (conv => whnf)) | (refine brT (by assumption) ?_; (conv => whnf)) | (refine brF (by assumption) ?_; (conv => whnf))))
  rw [dba]
  (conv => whnf); (repeat (first | (refine brT rfl ?_; (conv => whnf)) | (refine brF rfl ?_; (conv => whnf)) | (refine And.intro rfl ?_; (conv => whnf)) | (refine And.intro (Nat.le_of_ble_eq_true rfl) ?_; (conv => whnf)) | (refine And.intro (by assumption) ?_; (conv => whnf)) | (refine And.intro (by decide) ?_; (conv => whnf)) | (refine br_nself ?_; (conv => whnf)) | (refine br_self ?_; (conv => whnf)) | (refine brT (decide_eq_true (by assumption)) ?_; (conv => whnf)) | (refine brT (by assumption) ?_; (conv => whnf)) | (refine brF (by assumption) ?_; (conv => whnf))))
  rw [lab]
  (conv => whnf); (repeat (first | (refine brT rfl ?_; (conv => whnf)) | (refine brF rfl ?_; (conv => whnf)) | (refine And.intro rfl ?_; (conv => whnf)) | (refine And.intro (Nat.le_of_ble_eq_true rfl) ?_; (conv => whnf)) | (refine And.intro (by assumption) ?_; (conv => whnf)) | (refine And.intro (by decide) ?_; (conv => whnf)) | (refine br_nself ?_; (conv => whnf)) | (refine br_self ?_; (conv => whnf)) | (refine brT (decide_eq_true (by assumption)) ?_; (conv => whnf)) | (refine brT (by assumption) ?_; (conv => whnf)) | (refine brF (by assumption) ?_; (conv => whnf))))
  have dat : ∀ μ, deqL R_law_k59.Q false μ (shapeP as) (.tup (as.map .str)) = some false := fun μ => deqL_of (show deq R_law_k59.Q 10 (shapeP as) (.tup (as.map .str)) = some false from rfl)
  rw [dat]
  (conv => whnf); (repeat (first | (refine brT rfl ?_; (conv => whnf)) | (refine brF rfl ?_; (conv => whnf)) | (refine And.intro rfl ?_; (conv => whnf)) | (refine And.intro (Nat.le_of_ble_eq_true rfl) ?_; (conv => whnf)) | (refine And.intro (by assumption) ?_; (conv => whnf)) | (refine And.intro (by decide) ?_; (conv => whnf)) | (refine br_nself ?_; (conv => whnf)) | (refine br_self ?_; (conv => whnf)) | (refine brT (decide_eq_true (by assumption)) ?_; (conv => whnf)) | (refine brT (by assumption) ?_; (conv => whnf)) | (refine brF (by assumption) ?_; (conv => whnf))))
  refine ⟨as, rfl, ga, ?_⟩
  (conv => whnf); (repeat (first | (refine brT rfl ?_; (conv => whnf)) | (refine brF rfl ?_; (conv => whnf)) | (refine And.intro rfl ?_; (conv => whnf)) | (refine And.intro (Nat.le_of_ble_eq_true rfl) ?_; (conv => whnf)) | (refine And.intro (by assumption) ?_; (conv => whnf)) | (refine And.intro (by decide) ?_; (conv => whnf)) | (refine br_nself ?_; (conv => whnf)) | (refine br_self ?_; (conv => whnf)) | (refine brT (decide_eq_true (by assumption)) ?_; (conv => whnf)) | (refine brT (by assumption) ?_; (conv => whnf)) | (refine brF (by assumption) ?_; (conv => whnf))))
  refine ⟨as, as, rfl, rfl, ga, ga, rfl, rfl, by omega, by omega, ?_⟩
  obtain ⟨g1, g2, g3⟩ := jn_good (f := fNot) ga ga rfl rfl
  (conv => whnf); (repeat (first | (refine brT rfl ?_; (conv => whnf)) | (refine brF rfl ?_; (conv => whnf)) | (refine And.intro rfl ?_; (conv => whnf)) | (refine And.intro (Nat.le_of_ble_eq_true rfl) ?_; (conv => whnf)) | (refine And.intro (by assumption) ?_; (conv => whnf)) | (refine And.intro (by decide) ?_; (conv => whnf)) | (refine br_nself ?_; (conv => whnf)) | (refine br_self ?_; (conv => whnf)) | (refine brT (decide_eq_true (by assumption)) ?_; (conv => whnf)) | (refine brT (by assumption) ?_; (conv => whnf)) | (refine brF (by assumption) ?_; (conv => whnf))))
  refine ⟨_, rfl, rfl, g1, ?_⟩
  (conv => whnf); (repeat (first | (refine brT rfl ?_; (conv => whnf)) | (refine brF rfl ?_; (conv => whnf)) | (refine And.intro rfl ?_; (conv => whnf)) | (refine And.intro (Nat.le_of_ble_eq_true rfl) ?_; (conv => whnf)) | (refine And.intro (by assumption) ?_; (conv => whnf)) | (refine And.intro (by decide) ?_; (conv => whnf)) | (refine br_nself ?_; (conv => whnf)) | (refine br_self ?_; (conv => whnf)) | (refine brT (decide_eq_true (by assumption)) ?_; (conv => whnf)) | (refine brT (by assumption) ?_; (conv => whnf)) | (refine brF (by assumption) ?_; (conv => whnf))))
  refine brD (fun q5 => ?_) fun q5 => ?_
  · have hz : (decide (wideL as = wideL bs) && decide (as.length = bs.length)) = false := by
      rw [decide_eq_true q5] at hs
      revert hs
      cases (decide (wideL as = wideL bs) && decide (as.length = bs.length)) <;> simp
    have hz2 : (decide (wideL bs = wideL as) && decide (bs.length = as.length)) = false := by
      rw [← hz]
      congr 1
      · exact decide_eq_decide.mpr eq_comm
      · exact decide_eq_decide.mpr eq_comm
    (conv => whnf); (repeat (first | (refine brT rfl ?_; (conv => whnf)) | (refine brF rfl ?_; (conv => whnf)) | (refine And.intro rfl ?_; (conv => whnf)) | (refine And.intro (Nat.le_of_ble_eq_true rfl) ?_; (conv => whnf)) | (refine And.intro (by assumption) ?_; (conv => whnf)) | (refine And.intro (by decide) ?_; (conv => whnf)) | (refine br_nself ?_; (conv => whnf)) | (refine br_self ?_; (conv => whnf)) | (refine brT (decide_eq_true (by assumption)) ?_; (conv => whnf)) | (refine brT (by assumption) ?_; (conv => whnf)) | (refine brF (by assumption) ?_; (conv => whnf))))
    refine ⟨as, bs, rfl, rfl, ga, gb, hz, fun μ1 _ => ?_⟩
    (conv => whnf); (repeat (first | (refine brT rfl ?_; (conv => whnf)) | (refine brF rfl ?_; (conv => whnf)) | (refine And.intro rfl ?_; (conv => whnf)) | (refine And.intro (Nat.le_of_ble_eq_true rfl) ?_; (conv => whnf)) | (refine And.intro (by assumption) ?_; (conv => whnf)) | (refine And.intro (by decide) ?_; (conv => whnf)) | (refine br_nself ?_; (conv => whnf)) | (refine br_self ?_; (conv => whnf)) | (refine brT (decide_eq_true (by assumption)) ?_; (conv => whnf)) | (refine brT (by assumption) ?_; (conv => whnf)) | (refine brF (by assumption) ?_; (conv => whnf))))
    refine ⟨bs, as, rfl, rfl, gb, ga, hz2, fun μ2 _ => ?_⟩
    (conv => whnf); (repeat (first | (refine brT rfl ?_; (conv => whnf)) | (refine brF rfl ?_; (conv => whnf)) | (refine And.intro rfl ?_; (conv => whnf)) | (refine And.intro (Nat.le_of_ble_eq_true rfl) ?_; (conv => whnf)) | (refine And.intro (by assumption) ?_; (conv => whnf)) | (refine And.intro (by decide) ?_; (conv => whnf)) | (refine br_nself ?_; (conv => whnf)) | (refine br_self ?_; (conv => whnf)) | (refine brT (decide_eq_true (by assumption)) ?_; (conv => whnf)) | (refine brT (by assumption) ?_; (conv => whnf)) | (refine brF (by assumption) ?_; (conv => whnf))))
    refine ⟨_, rfl, rfl, ga, ?_⟩
    rfl
  · have hz : (decide (wideL as = wideL bs) && decide (as.length = bs.length)) = true := by
      rw [decide_eq_false q5] at hs
      revert hs
      cases (decide (wideL as = wideL bs) && decide (as.length = bs.length)) <;> simp
    obtain ⟨e1, e2⟩ := He.ba hz
    have e1 := of_decide_eq_true e1
    have e2 := of_decide_eq_true e2
    have w1 := ga.w1
    have n1 := ga.ne
    (conv => whnf); (repeat (first | (refine brT rfl ?_; (conv => whnf)) | (refine brF rfl ?_; (conv => whnf)) | (refine And.intro rfl ?_; (conv => whnf)) | (refine And.intro (Nat.le_of_ble_eq_true rfl) ?_; (conv => whnf)) | (refine And.intro (by assumption) ?_; (conv => whnf)) | (refine And.intro (by decide) ?_; (conv => whnf)) | (refine br_nself ?_; (conv => whnf)) | (refine br_self ?_; (conv => whnf)) | (refine brT (decide_eq_true (by assumption)) ?_; (conv => whnf)) | (refine brT (by assumption) ?_; (conv => whnf)) | (refine brF (by assumption) ?_; (conv => whnf))))
    refine forD_c rfl ?_
    refine k59_t0 ga gb e1 e2 (by decide) (by decide) fun μ1 => ?_
    refine forD_c rfl ?_
    refine k59_t0 ga gb e1 e2 (by decide) (by decide) fun μ1 => ?_
    refine forD_c rfl ?_
    refine k59_t0 ga gb e1 e2 (by decide) (by decide) fun μ1 => ?_
    refine forD_n rfl ?_
    (conv => whnf); (repeat (first | (refine brT rfl ?_; (conv => whnf)) | (refine brF rfl ?_; (conv => whnf)) | (refine And.intro rfl ?_; (conv => whnf)) | (refine And.intro (Nat.le_of_ble_eq_true rfl) ?_; (conv => whnf)) | (refine And.intro (by assumption) ?_; (conv => whnf)) | (refine And.intro (by decide) ?_; (conv => whnf)) | (refine br_nself ?_; (conv => whnf)) | (refine br_self ?_; (conv => whnf)) | (refine brT (decide_eq_true (by assumption)) ?_; (conv => whnf)) | (refine brT (by assumption) ?_; (conv => whnf)) | (refine brF (by assumption) ?_; (conv => whnf))))
    refine ⟨by omega, by omega, by omega, by omega, ?_⟩
    intro cs lc pc c1 d1
    (conv => whnf); (repeat (first | (refine brT rfl ?_; (conv => whnf)) | (refine brF rfl ?_; (conv => whnf)) | (refine And.intro rfl ?_; (conv => whnf)) | (refine And.intro (Nat.le_of_ble_eq_true rfl) ?_; (conv => whnf)) | (refine And.intro (by assumption) ?_; (conv => whnf)) | (refine And.intro (by decide) ?_; (conv => whnf)) | (refine br_nself ?_; (conv => whnf)) | (refine br_self ?_; (conv => whnf)) | (refine brT (decide_eq_true (by assumption)) ?_; (conv => whnf)) | (refine brT (by assumption) ?_; (conv => whnf)) | (refine brF (by assumption) ?_; (conv => whnf))))
    rw [Mu.put_same]
    (conv => whnf); (repeat (first | (refine brT rfl ?_; (conv => whnf)) | (refine brF rfl ?_; (conv => whnf)) | (refine And.intro rfl ?_; (conv => whnf)) | (refine And.intro (Nat.le_of_ble_eq_true rfl) ?_; (conv => whnf)) | (refine And.intro (by assumption) ?_; (conv => whnf)) | (refine And.intro (by decide) ?_; (conv => whnf)) | (refine br_nself ?_; (conv => whnf)) | (refine br_self ?_; (conv => whnf)) | (refine brT (decide_eq_true (by assumption)) ?_; (conv => whnf)) | (refine brT (by assumption) ?_; (conv => whnf)) | (refine brF (by assumption) ?_; (conv => whnf))))
    rw [Mu.del_put, Mu.del_none d1]
    obtain ⟨gc, wc⟩ := good_of (ls := cs) (n := wideL as) (by omega) (by omega) (by omega) (by omega) fun z hz => ⟨by have := (pc z hz).1; omega, (pc z hz).2⟩
    (conv => whnf); (repeat (first | (refine brT rfl ?_; (conv => whnf)) | (refine brF rfl ?_; (conv => whnf)) | (refine And.intro rfl ?_; (conv => whnf)) | (refine And.intro (Nat.le_of_ble_eq_true rfl) ?_; (conv => whnf)) | (refine And.intro (by assumption) ?_; (conv => whnf)) | (refine And.intro (by decide) ?_; (conv => whnf)) | (refine br_nself ?_; (conv => whnf)) | (refine br_self ?_; (conv => whnf)) | (refine brT (decide_eq_true (by assumption)) ?_; (conv => whnf)) | (refine brT (by assumption) ?_; (conv => whnf)) | (refine brF (by assumption) ?_; (conv => whnf))))
    refine k59_mk gc ?_
    (conv => whnf); (repeat (first | (refine brT rfl ?_; (conv => whnf)) | (refine brF rfl ?_; (conv => whnf)) | (refine And.intro rfl ?_; (conv => whnf)) | (refine And.intro (Nat.le_of_ble_eq_true rfl) ?_; (conv => whnf)) | (refine And.intro (by assumption) ?_; (conv => whnf)) | (refine And.intro (by decide) ?_; (conv => whnf)) | (refine br_nself ?_; (conv => whnf)) | (refine br_self ?_; (conv => whnf)) | (refine brT (decide_eq_true (by assumption)) ?_; (conv => whnf)) | (refine brT (by assumption) ?_; (conv => whnf)) | (refine brF (by assumption) ?_; (conv => whnf))))
    refine forD_c rfl ?_
    refine k59_t1 ga gb gc e1 e2 wc.symm (by omega) (by decide) (by decide) fun μ1 => ?_
    refine forD_c rfl ?_
    refine k59_t1 ga gb gc e1 e2 wc.symm (by omega) (by decide) (by decide) fun μ1 => ?_
    refine forD_c rfl ?_
    refine k59_t1 ga gb gc e1 e2 wc.symm (by omega) (by decide) (by decide) fun μ1 => ?_
    refine forD_n rfl ?_
    (conv => whnf); (repeat (first | (refine brT rfl ?_; (conv => whnf)) | (refine brF rfl ?_; (conv => whnf)) | (refine And.intro rfl ?_; (conv => whnf)) | (refine And.intro (Nat.le_of_ble_eq_true rfl) ?_; (conv => whnf)) | (refine And.intro (by assumption) ?_; (conv => whnf)) | (refine And.intro (by decide) ?_; (conv => whnf)) | (refine br_nself ?_; (conv => whnf)) | (refine br_self ?_; (conv => whnf)) | (refine brT (decide_eq_true (by assumption)) ?_; (conv => whnf)) | (refine brT (by assumption) ?_; (conv => whnf)) | (refine brF (by assumption) ?_; (conv => whnf))))
    refine ⟨_, rfl, rfl, ga, ?_⟩
    (conv => whnf); (repeat (first | (refine brT rfl ?_; (conv => whnf)) | (refine brF rfl ?_; (conv => whnf)) | (refine And.intro rfl ?_; (conv => whnf)) | (refine And.intro (Nat.le_of_ble_eq_true rfl) ?_; (conv => whnf)) | (refine And.intro (by assumption) ?_; (conv => whnf)) | (refine And.intro (by decide) ?_; (conv => whnf)) | (refine br_nself ?_; (conv => whnf)) | (refine br_self ?_; (conv => whnf)) | (refine brT (decide_eq_true (by assumption)) ?_; (conv => whnf)) | (refine brT (by assumption) ?_; (conv => whnf)) | (refine brF (by assumption) ?_; (conv => whnf))))
    refine ⟨_, rfl, rfl, gb, ?_⟩
    rfl
theorem pure_law_k59 : t_law_k59_0.d R_law_k59 lawEnds (lawE 11) mu0 := by
  (conv => whnf); (repeat (first | (refine brT rfl ?_; (conv => whnf)) | (refine brF rfl ?_; (conv => whnf)) | (refine And.intro rfl ?_; (conv => whnf)) | (refine And.intro (Nat.le_of_ble_eq_true rfl) ?_; (conv => whnf)) | (refine And.intro (by assumption) ?_; (conv => whnf)) | (refine And.intro (by decide) ?_; (conv => whnf))))
  refine draw_of (by omega) (by omega) fun w w0 w1 => ?_
  (conv => whnf); (repeat (first | (refine brT rfl ?_; (conv => whnf)) | (refine brF rfl ?_; (conv => whnf)) | (refine And.intro rfl ?_; (conv => whnf)) | (refine And.intro (Nat.le_of_ble_eq_true rfl) ?_; (conv => whnf)) | (refine And.intro (by assumption) ?_; (conv => whnf)) | (refine And.intro (by decide) ?_; (conv => whnf))))
  refine draw_of (by omega) (by omega) fun h h0 h1 => ?_
  (conv => whnf); (repeat (first | (refine brT rfl ?_; (conv => whnf)) | (refine brF rfl ?_; (conv => whnf)) | (refine And.intro rfl ?_; (conv => whnf)) | (refine And.intro (Nat.le_of_ble_eq_true rfl) ?_; (conv => whnf)) | (refine And.intro (by assumption) ?_; (conv => whnf)) | (refine And.intro (by decide) ?_; (conv => whnf))))
  refine ⟨by omega, by omega, by omega, by omega, ?_⟩
  intro as la pa c1 d1
  (conv => whnf); (repeat (first | (refine brT rfl ?_; (conv => whnf)) | (refine brF rfl ?_; (conv => whnf)) | (refine And.intro rfl ?_; (conv => whnf)) | (refine And.intro (Nat.le_of_ble_eq_true rfl) ?_; (conv => whnf)) | (refine And.intro (by assumption) ?_; (conv => whnf)) | (refine And.intro (by decide) ?_; (conv => whnf)) | (refine br_nself ?_; (conv => whnf)) | (refine br_self ?_; (conv => whnf)) | (refine brT (decide_eq_true (by assumption)) ?_; (conv => whnf)) | (refine brT (by assumption) ?_; (conv => whnf)) | (refine brF (by assumption) ?_; (conv => whnf))))
  rw [Mu.put_same]
  (conv => whnf); (repeat (first | (refine brT rfl ?_; (conv => whnf)) | (refine brF rfl ?_; (conv => whnf)) | (refine And.intro rfl ?_; (conv => whnf)) | (refine And.intro (Nat.le_of_ble_eq_true rfl) ?_; (conv => whnf)) | (refine And.intro (by assumption) ?_; (conv => whnf)) | (refine And.intro (by decide) ?_; (conv => whnf)) | (refine br_nself ?_; (conv => whnf)) | (refine br_self ?_; (conv => whnf)) | (refine brT (decide_eq_true (by assumption)) ?_; (conv => whnf)) | (refine brT (by assumption) ?_; (conv => whnf)) | (refine brF (by assumption) ?_; (conv => whnf))))
  rw [Mu.del_put, Mu.del_none d1]
  (conv => whnf); (repeat (first | (refine brT rfl ?_; (conv => whnf)) | (refine brF rfl ?_; (conv => whnf)) | (refine And.intro rfl ?_; (conv => whnf)) | (refine And.intro (Nat.le_of_ble_eq_true rfl) ?_; (conv => whnf)) | (refine And.intro (by assumption) ?_; (conv => whnf)) | (refine And.intro (by decide) ?_; (conv => whnf))))
  refine ⟨by omega, by omega, by omega, by omega, ?_⟩
  intro bs lb pb c2 d2
  (conv => whnf); (repeat (first | (refine brT rfl ?_; (conv => whnf)) | (refine brF rfl ?_; (conv => whnf)) | (refine And.intro rfl ?_; (conv => whnf)) | (refine And.intro (Nat.le_of_ble_eq_true rfl) ?_; (conv => whnf)) | (refine And.intro (by assumption) ?_; (conv => whnf)) | (refine And.intro (by decide) ?_; (conv => whnf)) | (refine br_nself ?_; (conv => whnf)) | (refine br_self ?_; (conv => whnf)) | (refine brT (decide_eq_true (by assumption)) ?_; (conv => whnf)) | (refine brT (by assumption) ?_; (conv => whnf)) | (refine brF (by assumption) ?_; (conv => whnf))))
  rw [Mu.put_same]
  (conv => whnf); (repeat (first | (refine brT rfl ?_; (conv => whnf)) | (refine brF rfl ?_; (conv => whnf)) | (refine And.intro rfl ?_; (conv => whnf)) | (refine And.intro (Nat.le_of_ble_eq_true rfl) ?_; (conv => whnf)) | (refine And.intro (by assumption) ?_; (conv => whnf)) | (refine And.intro (by decide) ?_; (conv => whnf)) | (refine br_nself ?_; (conv => whnf)) | (refine br_self ?_; (conv => whnf)) | (refine brT (decide_eq_true (by assumption)) ?_; (conv => whnf)) | (refine brT (by assumption) ?_; (conv => whnf)) | (refine brF (by assumption) ?_; (conv => whnf))))
  rw [Mu.del_put, Mu.del_none d2]
  (conv => whnf); (repeat (first | (refine brT rfl ?_; (conv => whnf)) | (refine brF rfl ?_; (conv => whnf)) | (refine And.intro rfl ?_; (conv => whnf)) | (refine And.intro (Nat.le_of_ble_eq_true rfl) ?_; (conv => whnf)) | (refine And.intro (by assumption) ?_; (conv => whnf)) | (refine And.intro (by decide) ?_; (conv => whnf))))
  refine draw_of (by omega) (by omega) fun way y0 y1 => ?_
  obtain ⟨ga, wa⟩ := good_of (ls := as) (n := (1 + w).toNat) (by omega) (by omega) (by omega) (by omega) fun z hz => ⟨by have := (pa z hz).1; omega, (pa z hz).2⟩
  obtain ⟨gb, wb⟩ := good_of (ls := bs) (n := (1 + w).toNat) (by omega) (by omega) (by omega) (by omega) fun z hz => ⟨by have := (pb z hz).1; omega, (pb z hz).2⟩
  have e1 : wideL as = wideL bs := by omega
  have e2 : as.length = bs.length := by omega
  (conv => whnf); (repeat (first | (refine brT rfl ?_; (conv => whnf)) | (refine brF rfl ?_; (conv => whnf)) | (refine And.intro rfl ?_; (conv => whnf)) | (refine And.intro (Nat.le_of_ble_eq_true rfl) ?_; (conv => whnf)) | (refine And.intro (by assumption) ?_; (conv => whnf)) | (refine And.intro (by decide) ?_; (conv => whnf)) | (refine br_nself ?_; (conv => whnf)) | (refine br_self ?_; (conv => whnf)) | (refine brT (decide_eq_true (by assumption)) ?_; (conv => whnf)) | (refine brT (by assumption) ?_; (conv => whnf)) | (refine brF (by assumption) ?_; (conv => whnf))))
  refine brD (fun q5 => ?_) fun q5 => ?_
  · subst q5
    (conv => whnf)
    refine brF rfl ?_
    (conv => whnf)
    refine brF rfl ?_
    exact k59_tail (bs := as) (way := 5) (s0 := none) (s7 := none) (μ := mu0) (w := 1 + w) (h := 1 + h) ga ga (by omega) (by omega) (by omega) (by omega) (by rw [decide_eq_true rfl, decide_eq_true rfl] <;> rfl)
  · (conv => whnf); (repeat (first | (refine brT rfl ?_; (conv => whnf)) | (refine brF rfl ?_; (conv => whnf)) | (refine And.intro rfl ?_; (conv => whnf)) | (refine And.intro (Nat.le_of_ble_eq_true rfl) ?_; (conv => whnf)) | (refine And.intro (by assumption) ?_; (conv => whnf)) | (refine And.intro (by decide) ?_; (conv => whnf)) | (refine br_nself ?_; (conv => whnf)) | (refine br_self ?_; (conv => whnf)) | (refine brT (decide_eq_true (by assumption)) ?_; (conv => whnf)) | (refine brT (by assumption) ?_; (conv => whnf)) | (refine brF (by assumption) ?_; (conv => whnf))))
    refine brD (fun q6 => ?_) fun q6 => ?_
    · subst q6
      have b0 : ∃ z, z ∈ bs ∧ atI (bs.map PV.str) 0 = some (.str z) := by
        have := gb.ne
        match bs, this with
        | z :: zs, _ => exact ⟨z, List.mem_cons_self, atI_nat (j := 0) rfl⟩
      obtain ⟨z0, hz0, a0⟩ := b0
      obtain ⟨gc, wc⟩ := good_of (ls := bs ++ [z0]) (n := wideL bs) (by rw [List.length_append]; omega) (by rw [List.length_append, List.length_singleton]; omega) gb.w1 gb.w2 fun z hz => by
        have : z ∈ bs := (List.mem_append.mp hz).elim id fun q => (List.mem_singleton.mp q) ▸ hz0
        exact ⟨gb.len z this, gb.sg z this⟩
      (conv => whnf); (repeat (first | (refine brT rfl ?_; (conv => whnf)) | (refine brF rfl ?_; (conv => whnf)) | (refine And.intro rfl ?_; (conv => whnf)) | (refine And.intro (Nat.le_of_ble_eq_true rfl) ?_; (conv => whnf)) | (refine And.intro (by assumption) ?_; (conv => whnf)) | (refine And.intro (by decide) ?_; (conv => whnf)) | (refine br_nself ?_; (conv => whnf)) | (refine br_self ?_; (conv => whnf)) | (refine brT (decide_eq_true (by assumption)) ?_; (conv => whnf)) | (refine brT (by assumption) ?_; (conv => whnf)) | (refine brF (by assumption) ?_; (conv => whnf))))
      rw [a0]
      (conv => whnf); (repeat (first | (refine brT rfl ?_; (conv => whnf)) | (refine brF rfl ?_; (conv => whnf)) | (refine And.intro rfl ?_; (conv => whnf)) | (refine And.intro (Nat.le_of_ble_eq_true rfl) ?_; (conv => whnf)) | (refine And.intro (by assumption) ?_; (conv => whnf)) | (refine And.intro (by decide) ?_; (conv => whnf)) | (refine br_nself ?_; (conv => whnf)) | (refine br_self ?_; (conv => whnf)) | (refine brT (decide_eq_true (by assumption)) ?_; (conv => whnf)) | (refine brT (by assumption) ?_; (conv => whnf)) | (refine brF (by assumption) ?_; (conv => whnf))))
      refine ⟨by rw [List.length_map, sizeLine_eq]; show _ + 1 ≤ _; omega, ?_⟩
      have e3 : bs.map PV.str ++ [PV.str z0] = (bs ++ [z0]).map .str := by rw [List.map_append] <;> rfl
      rw [e3]
      (conv => whnf)
      refine brF rfl ?_
      refine k59_tail (way := 6) (s0 := none) (s7 := none) (μ := mu0) (w := 1 + w) (h := 1 + h) ga gc (by omega) (by omega) (by omega) (by omega) ?_
      rw [List.length_append, List.length_singleton, decide_eq_false (p := as.length = bs.length + 1) (by omega), Bool.and_false]
      rfl
    · (conv => whnf); (repeat (first | (refine brT rfl ?_; (conv => whnf)) | (refine brF rfl ?_; (conv => whnf)) | (refine And.intro rfl ?_; (conv => whnf)) | (refine And.intro (Nat.le_of_ble_eq_true rfl) ?_; (conv => whnf)) | (refine And.intro (by assumption) ?_; (conv => whnf)) | (refine And.intro (by decide) ?_; (conv => whnf)) | (refine br_nself ?_; (conv => whnf)) | (refine br_self ?_; (conv => whnf)) | (refine brT (decide_eq_true (by assumption)) ?_; (conv => whnf)) | (refine brT (by assumption) ?_; (conv => whnf)) | (refine brF (by assumption) ?_; (conv => whnf))))
      refine brD (fun q7 => ?_) fun q7 => ?_
      · subst q7
        (conv => whnf); (repeat (first | (refine brT rfl ?_; (conv => whnf)) | (refine brF rfl ?_; (conv => whnf)) | (refine And.intro rfl ?_; (conv => whnf)) | (refine And.intro (Nat.le_of_ble_eq_true rfl) ?_; (conv => whnf)) | (refine And.intro (by assumption) ?_; (conv => whnf)) | (refine And.intro (by decide) ?_; (conv => whnf)) | (refine br_nself ?_; (conv => whnf)) | (refine br_self ?_; (conv => whnf)) | (refine brT (decide_eq_true (by assumption)) ?_; (conv => whnf)) | (refine brT (by assumption) ?_; (conv => whnf)) | (refine brF (by assumption) ?_; (conv => whnf))))
        refine ⟨by rw [List.length_map, sizeLine_eq]; omega, ?_⟩
        obtain ⟨gc, wc⟩ := good_of (ls := bs.map (fun z => z ++ Str.ofString "#")) (n := wideL bs + 1) (by rw [List.length_map]; exact gb.ne) (by rw [List.length_map]; exact gb.le) (by omega) (by omega) fun z hz => by
          obtain ⟨y, hy, rfl⟩ := List.mem_map.mp hz
          have l1 := gb.len y hy
          have s1 := gb.sg y hy
          refine ⟨?_, ?_⟩
          · show (y.cps ++ #[35]).size = _
            rw [Array.size_append]
            show y.length + 1 = _
            omega
          · show (y.cps ++ #[35]).toList.all sgB = true
            rw [Array.toList_append, List.all_append, s1]
            decide +kernel
        refine lcM1 PV.str (fun z => .str (z ++ Str.ofString "#")) bs [] (fun z hz k hk => ?_) ?_
        · have l1 := gb.len z hz
          (conv => whnf); (repeat (first | (refine brT rfl ?_; (conv => whnf)) | (refine brF rfl ?_; (conv => whnf)) | (refine And.intro rfl ?_; (conv => whnf)) | (refine And.intro (Nat.le_of_ble_eq_true rfl) ?_; (conv => whnf)) | (refine And.intro (by assumption) ?_; (conv => whnf)) | (refine And.intro (by decide) ?_; (conv => whnf)) | (refine br_nself ?_; (conv => whnf)) | (refine br_self ?_; (conv => whnf)) | (refine brT (decide_eq_true (by assumption)) ?_; (conv => whnf)) | (refine brT (by assumption) ?_; (conv => whnf)) | (refine brF (by assumption) ?_; (conv => whnf))))
          exact ⟨by rw [sizeLine_eq]; show _ + 1 ≤ _; omega, hk⟩
        · have e3 : bs.map (fun z => PV.str (z ++ Str.ofString "#")) = (bs.map (fun z => z ++ Str.ofString "#")).map .str := by rw [List.map_map] <;> rfl
          rw [List.nil_append, e3]
          refine k59_tail (way := 7) (s0 := none) (s7 := none) (μ := mu0) (w := 1 + w) (h := 1 + h) ga gc (by omega) (by omega) (by omega) (by omega) ?_
          rw [decide_eq_false (p := wideL as = wideL (bs.map fun z => z ++ Str.ofString "#")) (by omega), Bool.false_and]
          rfl
      · exact k59_tail (way := way) (s0 := none) (s7 := none) (μ := mu0) (w := 1 + w) (h := 1 + h) ga gb (by omega) (by omega) (by omega) (by omega) (by rw [decide_eq_false (p := 5 < way) (by omega), decide_eq_true e1, decide_eq_true e2] <;> rfl)
end Px
namespace K59
open PySem PySem.Spec PyProof.Rows L2 NdefX Px
structure T0 (K : Frg) (mg : Str → Option Value) (base : Heap) : Prop where
  says : Says want K
  kin : K.In base
  ns : base.Ns mainGlobals mg
structure Tt (K : Frg) (mg : Str → Option Value) (base : Heap) : Prop extends T0 K mg base where
  tb : ∀ p ∈ csK K, LamX.TabB base mg p.1 p.2
section
variable {w : World} {K : Frg} {mg : Str → Option Value} {base : Heap}
theorem er_InvalidShape (T : T0 K mg base) : ErrF S.P K (ca K .InvalidShape) (errAd K de_InvalidShape) "line" := by
  obtain ⟨v, o⟩ := T.says.err 0 (d := de_InvalidShape) rfl
  exact ErrD.errF v o (by kernel_rfl) (by kernel_rfl) ⟨by decide, by decide, by decide, by decide⟩ ⟨_, _, _, _, _, _, _, _, _, _, _, _, _, _, rfl, rfl, rfl, fun _ _ _ _ _ _ _ _ _ => rfl, fun _ => ⟨_, rfl⟩⟩
theorem er_WrongSize (T : T0 K mg base) : ErrF S.P K (ca K .WrongSize) (errAd K de_WrongSize) "mask" := by
  obtain ⟨v, o⟩ := T.says.err 1 (d := de_WrongSize) rfl
  exact ErrD.errF v o (by kernel_rfl) (by kernel_rfl) ⟨by decide, by decide, by decide, by decide⟩ ⟨_, _, _, _, _, _, _, _, _, _, _, _, _, _, rfl, rfl, rfl, fun _ _ _ _ _ _ _ _ _ => rfl, fun _ => ⟨_, rfl⟩⟩
theorem facts0 (T : T0 K mg base) : Facts S K mg := Says.facts (S := S) T.says T.kin T.ns (AllE.mem (l := S.er) (AllE.cons rfl (er_InvalidShape T) (AllE.cons rfl (er_WrongSize T) AllE.nil)))
theorem facts (T : Tt K mg base) : Facts S K mg := facts0 T.toT0
theorem fs__law_box (T : Tt K mg base) : FnS false TP w K mg base 1 (He.ga K (S.nm 36)) [] (spBox K) := by
  obtain ⟨fd, Fn⟩ := T.says.def_ 0 (d := dp__law_box) rfl
  refine (fn_box Fn sc__law_box rfl rfl fun pn cd A outer s H E => ?_).s (FunD.bindsN (ps := ["_law_script"]) Fn fun _ _ _ _ _ _ us hl => match us, hl with | [_], _ => rfl)
  exact pss_one (ps_ret (pe_lst (pa_cons (pe_lc (own := [("_law_cell", 1)]) (g := gName 1) (tt := tYes) rfl sc__law_box.nd (pi_list (pe_slice sl_list (pv 0) po_none (po_some pe_int))) (blkOk_by (N := n__law_box) (sc := defScope st__law_box) (by decide +kernel)) (fun _ _ _ _ _ => pg_name (i := 1) sc__law_box.nd rfl (Or.inl rfl)) (fun _ _ _ _ _ => pts_nil) (fun _ _ _ _ _ => pe_callTy call_int1 rfl ((facts T).fre "int" (by decide)) boot_int (pa_cons (pv 1) pa_nil))) (pa_cons pe_int (pa_cons pe_int pa_nil)))))
theorem fs__law_draw (T : Tt K mg base) : FnS false TP w K mg base 1 (He.ga K (S.nm 48)) [] (spP K cDraw) := by
  obtain ⟨fd, Fn⟩ := T.says.def_ 1 (d := dp__law_draw) rfl
  have f_int : mg "int" = none := (facts T).fre "int" (by decide)
  have f_len : mg "len" = none := (facts T).fre "len" (by decide)
  refine (fn_draw Fn sc__law_draw rfl rfl fun pn cd A outer s H E => ?_).s (FunD.bindsN (ps := ["_law_box_here", "_law_size"]) Fn fun _ _ _ _ _ _ us hl => match us, hl with | [_, _], _ => rfl)
  have len2 : ∀ {p0 p1 p2 : Pos}, PE (cxG true pn TP w K mg base n__law_draw dp__law_draw.qual dp__law_draw.scope (dp__law_draw.at_.ad K) cd A outer s H E) (.Call (.Name "len" p0) [.Name "_law_cells" p1] [] p2) (tLen K (tVar 2)) := fun {_ _ _} => pe_callB call_len rfl f_len boot_len (pa_cons (pv 2) pa_nil)
  have cel : ∀ {p0 p1 p2 : Pos}, PE (cxG true pn TP w K mg base n__law_draw dp__law_draw.qual dp__law_draw.scope (dp__law_draw.at_.ad K) cd A outer s H E) (.Subscript (.Name "_law_cells" p0) (.Name "_law_place" p1) p2) (tCel K) := fun {_ _ _} => pe_ix ix_seq (pv 2) (pv 3) fun _ _ => rfl
  exact pss_cons (ps_set (i := 2) sc__law_draw.nd rfl (Or.inl rfl) (pe_ix ix_seq (pv 0) pe_int fun _ _ => rfl))
    (pss_cons (ps_set (i := 3) sc__law_draw.nd rfl (Or.inl rfl) (pe_ix ix_seq (pv 0) pe_int fun _ _ => rfl))
    (pss_cons (ps_if (pt_cmpR op_eq len2 pe_int (nomark _)) (pss_one (ps_ret pe_int)) pss_nil)
    (pss_cons (ps_if (pw_and (pt_cmpR op_lt (pv 3) len2 (nomark _)) (pw_and1 (pt_cmpR op_ge cel (pe_op op_pow pe_int pe_int) (nomark _)))).pt
      (pss_cons (ps_set (i := 4) sc__law_draw.nd rfl (Or.inl rfl) cel) (pss_cons (ps_asg (pe_op op_fdivW (pv 4) (pv 1)) (pg_sub (pv 2) (pv 3) set_list)) (pss_one (ps_ret (pe_op op_mod (pe_callTy call_int1 rfl f_int boot_int (pa_cons (pv 4) pa_nil)) (pv 1)))))) pss_nil)
    (pss_cons (ps_set (i := 4) sc__law_draw.nd rfl (Or.inl rfl) pe_int)
    (pss_cons (ps_if (pt_cmpR op_lt (pv 3) len2 (nomark _)) (pss_one (ps_set (i := 4) sc__law_draw.nd rfl (Or.inl rfl) cel)) pss_nil)
    (pss_cons (ps_asg (pe_op op_add (pv 3) pe_int) (pg_sub (pv 0) pe_int set_list))
    (pss_cons (ps_set (i := 5) sc__law_draw.nd rfl (Or.inl rfl) (pe_op op_mod (pe_callTy call_int1 rfl f_int boot_int (pa_cons (pe_op op_add (pe_op op_add (pe_op op_add (pe_op op_mul (pe_ix ix_seq (pv 0) pe_int fun _ _ => rfl) pe_int) (pe_op op_mul (pe_op op_mod (pe_callTy call_int1 rfl f_int boot_int (pa_cons (pv 4) pa_nil)) pe_int) pe_int)) (pv 3)) pe_int) pa_nil)) pe_int))
    (pss_cons (ps_asg (pv 5) (pg_sub (pv 0) pe_int set_list))
    (pss_cons (ps_set (i := 6) sc__law_draw.nd rfl (Or.inl rfl) (pe_op op_mod (pe_callTy call_int1 rfl f_int boot_int (pa_cons (pe_op op_add (pe_op op_mul (pv 5) (pv 5)) (pe_op op_mul (pv 5) pe_int)) pa_nil)) pe_int))
    (pss_one (ps_ret (pe_op op_mod (pe_callTy call_int1 rfl f_int boot_int (pa_cons (pe_op op_fdivW (pv 6) pe_int) pa_nil)) (pv 1)))))))))))))
theorem fs__law_lines (T : Tt K mg base) : FnS false TP w K mg base 4 (He.ga K (S.nm 99)) [] (spP K c__law_lines) := by
  obtain ⟨fd, Fn⟩ := T.says.def_ 2 (d := dp__law_lines) rfl
  exact (fn_z (S := S) (w := w) (base := base) (k := 1) (b := t__law_lines_0) (L := L__law_lines) (LH := H__law_lines) (Q := Q__law_lines) false (facts T) Fn sc__law_lines (by kernel_rfl) (AllP.cons ((fs__law_draw T).up (by decide)) AllP.nil) AllP.nil (fun z => (by first | rfl | exact absurd rfl z)) AllQ.nil len__law_lines pure__law_lines).s (FunD.bindsN (ps := ["_law_box_here", "_law_wide", "_law_high"]) Fn fun _ _ _ _ _ _ us hl => match us, hl with | [_, _, _], _ => rfl)
theorem fs_first_bad_line (T : Tt K mg base) : FnS false TP w K mg base 3 (He.ga K (S.nm 257)) [] (spP K c_first_bad_line) := by
  obtain ⟨fd, Fn⟩ := T.says.def_ 3 (d := dp_first_bad_line) rfl
  exact (fn_z (S := S) (w := w) (base := base) (k := 0) (b := t_first_bad_line_0) (L := L_first_bad_line) (LH := H_first_bad_line) (Q := Q_first_bad_line) false (facts T) Fn sc_first_bad_line (by kernel_rfl) AllP.nil AllP.nil (fun z => (by first | rfl | exact absurd rfl z)) AllQ.nil len_first_bad_line pure_first_bad_line).s (FunD.bindsN (ps := ["lines"]) Fn fun _ _ _ _ _ _ us hl => match us, hl with | [_], _ => rfl)
theorem fs_Shape___init__ (T : Tt K mg base) : FnS false TP w K mg base 6 (He.ma K (ca K .Shape) (S.nm 13)) [] (spP K (starC 1 c_Shape___init__)) := by
  obtain ⟨fd, Fn⟩ := T.says.def_ 4 (d := dp_Shape___init__) rfl
  exact fn_zs (S := S) (k := 3) (b := t_Shape___init___0) (L := L_Shape___init__) (LH := H_Shape___init__) (Q := Q_Shape___init__) (qs := ["self"]) (facts T) Fn sc_Shape___init__ (by kernel_rfl) (AllP.cons ((fs_first_bad_line T).up (by decide)) AllP.nil) AllP.nil AllQ.nil (fun _ _ _ _ _ _ us rest h => match us, h with | [_], _ => (match rest with | [] => rfl | _ :: _ => rfl)) pure_Shape___init__
theorem fs_Shape_of (T : Tt K mg base) : FnS false TP w K mg base 9 (cmFn K (ca K .Shape) (S.nm 295)) [] (spP K c_Shape_of) := by
  obtain ⟨fd, Fn⟩ := T.says.def_ 5 (d := dp_Shape_of) rfl
  exact (fn_z (S := S) (w := w) (base := base) (k := 6) (b := t_Shape_of_0) (L := L_Shape_of) (LH := H_Shape_of) (Q := Q_Shape_of) false (facts T) Fn sc_Shape_of (by kernel_rfl) (AllP.cons ⟨_, kc_Shape, ((fs_Shape___init__ T).up (by decide))⟩ AllP.nil) AllP.nil (fun z => (by first | rfl | exact absurd rfl z)) AllQ.nil len_Shape_of pure_Shape_of).s (FunD.bindsN (ps := ["cls", "lines"]) Fn fun _ _ _ _ _ _ us hl => match us, hl with | [_, _], _ => rfl)
theorem fs__law_is (T : Tt K mg base) : FnS false TP w K mg base 3 (He.ga K (S.nm 81)) [] (spP K c__law_is) := by
  obtain ⟨fd, Fn⟩ := T.says.def_ 6 (d := dp__law_is) rfl
  exact (fn_z (S := S) (w := w) (base := base) (k := 0) (b := t__law_is_0) (L := L__law_is) (LH := H__law_is) (Q := Q__law_is) false (facts T) Fn sc__law_is (by kernel_rfl) AllP.nil AllP.nil (fun z => (by first | rfl | exact absurd rfl z)) AllQ.nil len__law_is pure__law_is).s (FunD.bindsN (ps := ["_law_actual", "_law_expected"]) Fn fun _ _ _ _ _ _ us hl => match us, hl with | [_, _], _ => rfl)
theorem fs__law_same_text (T : Tt K mg base) : FnS false TP w K mg base 3 (He.ga K (S.nm 181)) [] (spP K c__law_same_text) := by
  obtain ⟨fd, Fn⟩ := T.says.def_ 7 (d := dp__law_same_text) rfl
  exact (fn_z (S := S) (w := w) (base := base) (k := 0) (b := t__law_same_text_0) (L := L__law_same_text) (LH := H__law_same_text) (Q := Q__law_same_text) false (facts T) Fn sc__law_same_text (by kernel_rfl) AllP.nil AllP.nil (fun z => (by first | rfl | exact absurd rfl z)) AllQ.nil len__law_same_text pure__law_same_text).s (FunD.bindsN (ps := ["_law_actual", "_law_expected"]) Fn fun _ _ _ _ _ _ us hl => match us, hl with | [_, _], _ => rfl)
theorem fs__law_same_names (T : Tt K mg base) : FnS false TP w K mg base 6 (He.ga K (S.nm 166)) [] (spP K c__law_same_names) := by
  obtain ⟨fd, Fn⟩ := T.says.def_ 8 (d := dp__law_same_names) rfl
  exact (fn_z (S := S) (w := w) (base := base) (k := 3) (b := t__law_same_names_0) (L := L__law_same_names) (LH := H__law_same_names) (Q := Q__law_same_names) false (facts T) Fn sc__law_same_names (by kernel_rfl) (AllP.cons ((fs__law_same_text T).up (by decide)) AllP.nil) AllP.nil (fun z => (by first | rfl | exact absurd rfl z)) AllQ.nil len__law_same_names pure__law_same_names).s (FunD.bindsN (ps := ["_law_actual", "_law_names"]) Fn fun _ _ _ _ _ _ us hl => match us, hl with | [_, _], _ => rfl)
theorem fs__law_int (T : Tt K mg base) : FnS false TP w K mg base 3 (He.ga K (S.nm 80)) [] (spP K c__law_int) := by
  obtain ⟨fd, Fn⟩ := T.says.def_ 9 (d := dp__law_int) rfl
  exact (fn_z (S := S) (w := w) (base := base) (k := 0) (b := t__law_int_0) (L := L__law_int) (LH := H__law_int) (Q := Q__law_int) false (facts T) Fn sc__law_int (by kernel_rfl) AllP.nil AllP.nil (fun z => (by first | rfl | exact absurd rfl z)) AllQ.nil len__law_int pure__law_int).s (FunD.bindsN (ps := ["_law_actual", "_law_expected"]) Fn fun _ _ _ _ _ _ us hl => match us, hl with | [_, _], _ => rfl)
theorem fs__law_same_shape (T : Tt K mg base) : FnS false TP w K mg base 9 (He.ga K (S.nm 175)) [] (spP K c__law_same_shape) := by
  obtain ⟨fd, Fn⟩ := T.says.def_ 10 (d := dp__law_same_shape) rfl
  exact (fn_z (S := S) (w := w) (base := base) (k := 6) (b := t__law_same_shape_0) (L := L__law_same_shape) (LH := H__law_same_shape) (Q := Q__law_same_shape) false (facts T) Fn sc__law_same_shape (by kernel_rfl) (AllP.cons ((fs__law_same_names T).up (by decide)) (AllP.cons ((fs__law_int T).up (by decide)) AllP.nil)) AllP.nil (fun z => (by first | rfl | exact absurd rfl z)) AllQ.nil len__law_same_shape pure__law_same_shape).s (FunD.bindsN (ps := ["_law_shape", "_law_lines_here"]) Fn fun _ _ _ _ _ _ us hl => match us, hl with | [_, _], _ => rfl)
theorem fs_Shape___invert__ (T : Tt K mg base) : FnS false TP w K mg base 12 (He.ma K (ca K .Shape) (S.nm 5)) [] (spP K c_Shape___invert__) := by
  obtain ⟨fd, Fn⟩ := T.says.def_ 11 (d := dp_Shape___invert__) rfl
  exact (fn_z (S := S) (w := w) (base := base) (k := 9) (b := t_Shape___invert___0) (L := L_Shape___invert__) (LH := H_Shape___invert__) (Q := Q_Shape___invert__) false (facts T) Fn sc_Shape___invert__ (by kernel_rfl) (AllP.cons ((fs_Shape_of T).up (by decide)) AllP.nil) AllP.nil (fun z => (by first | rfl | exact absurd rfl z)) AllQ.nil len_Shape___invert__ pure_Shape___invert__).s (FunD.bindsN (ps := ["self"]) Fn fun _ _ _ _ _ _ us hl => match us, hl with | [_], _ => rfl)
theorem fs__law_joint (T : Tt K mg base) : FnS false TP w K mg base 3 (He.ga K (S.nm 83)) [] (spP K c__law_joint) := by
  obtain ⟨fd, Fn⟩ := T.says.def_ 12 (d := dp__law_joint) rfl
  exact (fn_z (S := S) (w := w) (base := base) (k := 0) (b := t__law_joint_0) (L := L__law_joint) (LH := H__law_joint) (Q := Q__law_joint) false (facts T) Fn sc__law_joint (by kernel_rfl) AllP.nil AllP.nil (fun z => (by first | rfl | exact absurd rfl z)) AllQ.nil len__law_joint pure__law_joint).s (FunD.bindsN (ps := ["_law_one", "_law_two", "_law_way"]) Fn fun _ _ _ _ _ _ us hl => match us, hl with | [_, _, _], _ => rfl)
theorem fs_joined_shapes (T : Tt K mg base) : FnS false TP w K mg base 12 (He.ga K (S.nm 269)) [] (spP K c_joined_shapes) := by
  obtain ⟨fd, Fn⟩ := T.says.def_ 13 (d := dp_joined_shapes) rfl
  exact (fn_z (S := S) (w := w) (base := base) (k := 9) (b := t_joined_shapes_0) (L := L_joined_shapes) (LH := H_joined_shapes) (Q := Q_joined_shapes) false (facts T) Fn sc_joined_shapes (by kernel_rfl) (AllP.cons ((fs_Shape_of T).up (by decide)) AllP.nil) AllP.nil (fun z => (by first | rfl | exact absurd rfl z)) AllQ.nil len_joined_shapes pure_joined_shapes).s (FunD.bindsN (ps := ["first", "second", "table"]) Fn fun _ _ _ _ _ _ us hl => match us, hl with | [_, _, _], _ => rfl)
theorem fs_Shape___and__ (T : Tt K mg base) : FnS false TP w K mg base 15 (He.ma K (ca K .Shape) (S.nm 2)) [] (spP K c_Shape___and__) := by
  obtain ⟨fd, Fn⟩ := T.says.def_ 14 (d := dp_Shape___and__) rfl
  exact (fn_z (S := S) (w := w) (base := base) (k := 12) (b := t_Shape___and___0) (L := L_Shape___and__) (LH := H_Shape___and__) (Q := Q_Shape___and__) false (facts T) Fn sc_Shape___and__ (by kernel_rfl) (AllP.cons ((fs_joined_shapes T).up (by decide)) AllP.nil) AllP.nil (fun z => (by first | rfl | exact absurd rfl z)) AllQ.nil len_Shape___and__ pure_Shape___and__).s (FunD.bindsN (ps := ["self", "other"]) Fn fun _ _ _ _ _ _ us hl => match us, hl with | [_, _], _ => rfl)
theorem fs_Shape___or__ (T : Tt K mg base) : FnS false TP w K mg base 15 (He.ma K (ca K .Shape) (S.nm 3)) [] (spP K c_Shape___or__) := by
  obtain ⟨fd, Fn⟩ := T.says.def_ 15 (d := dp_Shape___or__) rfl
  exact (fn_z (S := S) (w := w) (base := base) (k := 12) (b := t_Shape___or___0) (L := L_Shape___or__) (LH := H_Shape___or__) (Q := Q_Shape___or__) false (facts T) Fn sc_Shape___or__ (by kernel_rfl) (AllP.cons ((fs_joined_shapes T).up (by decide)) AllP.nil) AllP.nil (fun z => (by first | rfl | exact absurd rfl z)) AllQ.nil len_Shape___or__ pure_Shape___or__).s (FunD.bindsN (ps := ["self", "other"]) Fn fun _ _ _ _ _ _ us hl => match us, hl with | [_, _], _ => rfl)
theorem fs_Shape___sub__ (T : Tt K mg base) : FnS false TP w K mg base 15 (He.ma K (ca K .Shape) (S.nm 1)) [] (spP K c_Shape___sub__) := by
  obtain ⟨fd, Fn⟩ := T.says.def_ 16 (d := dp_Shape___sub__) rfl
  exact (fn_z (S := S) (w := w) (base := base) (k := 12) (b := t_Shape___sub___0) (L := L_Shape___sub__) (LH := H_Shape___sub__) (Q := Q_Shape___sub__) false (facts T) Fn sc_Shape___sub__ (by kernel_rfl) (AllP.cons ((fs_joined_shapes T).up (by decide)) AllP.nil) AllP.nil (fun z => (by first | rfl | exact absurd rfl z)) AllQ.nil len_Shape___sub__ pure_Shape___sub__).s (FunD.bindsN (ps := ["self", "other"]) Fn fun _ _ _ _ _ _ us hl => match us, hl with | [_, _], _ => rfl)
theorem fs__law_asked (T : Tt K mg base) : FnS false TP w K mg base 18 (He.ga K (S.nm 28)) [] (spP K c__law_asked) := by
  obtain ⟨fd, Fn⟩ := T.says.def_ 17 (d := dp__law_asked) rfl
  exact (fn_z (S := S) (w := w) (base := base) (k := 15) (b := t__law_asked_0) (L := L__law_asked) (LH := H__law_asked) (Q := Q__law_asked) false (facts T) Fn sc__law_asked (by kernel_rfl) (AllP.cons (prom_m (facts T) (by decide) ((fs_Shape___and__ T).up (by decide))) (AllP.cons (prom_m (facts T) (by decide) ((fs_Shape___or__ T).up (by decide))) (AllP.cons (prom_m (facts T) (by decide) ((fs_Shape___sub__ T).up (by decide))) AllP.nil))) AllP.nil (fun z => (by first | rfl | exact absurd rfl z)) AllQ.nil len__law_asked pure__law_asked).s (FunD.bindsN (ps := ["_law_a", "_law_b", "_law_way"]) Fn fun _ _ _ _ _ _ us hl => match us, hl with | [_, _, _], _ => rfl)
theorem fs__law_refused_v5 (T : Tt K mg base) : FnS false TP w K mg base 21 (He.ga K (S.nm 144)) [] (spP K c__law_refused_v5) := by
  obtain ⟨fd, Fn⟩ := T.says.def_ 18 (d := dp__law_refused_v5) rfl
  exact (fn_z (S := S) (w := w) (base := base) (k := 18) (b := t__law_refused_v5_0) (L := L__law_refused_v5) (LH := H__law_refused_v5) (Q := Q__law_refused_v5) false (facts T) Fn sc__law_refused_v5 (by kernel_rfl) (AllP.cons ((fs__law_asked T).up (by decide)) AllP.nil) AllP.nil (fun z => (by first | rfl | exact absurd rfl z)) AllQ.nil len__law_refused_v5 pure__law_refused_v5).s (FunD.bindsN (ps := ["_law_a", "_law_b"]) Fn fun _ _ _ _ _ _ us hl => match us, hl with | [_, _], _ => rfl)
theorem fs_Shape___eq__ (T : Tt K mg base) : FnS false TP w K mg base 3 (He.ma K (ca K .Shape) (S.nm 9)) [] (spP K c_Shape___eq__) := by
  obtain ⟨fd, Fn⟩ := T.says.def_ 19 (d := dp_Shape___eq__) rfl
  exact (fn_z (S := S) (w := w) (base := base) (k := 0) (b := t_Shape___eq___0) (L := L_Shape___eq__) (LH := H_Shape___eq__) (Q := Q_Shape___eq__) false (facts T) Fn sc_Shape___eq__ (by kernel_rfl) AllP.nil AllP.nil (fun z => (by first | rfl | exact absurd rfl z)) AllQ.nil len_Shape___eq__ pure_Shape___eq__).s (FunD.bindsN (ps := ["self", "other"]) Fn fun _ _ _ _ _ _ us hl => match us, hl with | [_, _], _ => rfl)
theorem fo_law (c : Says want K) : ∃ fd : FuncData, (∀ (s : Shared) (u : Value), BindsTo s fd ⟨[u], []⟩ [("_law_script", u)]) ∧ ∀ base : Heap, K.In base → base.Ns mainGlobals mg → (∀ p ∈ csK K, LamX.TabB base mg p.1 p.2) → FnOkG TP w K mg base (CXI K TP w) 24 (He.ga K (S.nm 276)) fd ["_law_script"] (spLaw K) := by
  obtain ⟨fd, Fn⟩ := c.def_ 20 (d := dp_law_k59) rfl
  have b := FunD.bindsA (ps := ["_law_script"]) Fn fun _ _ _ _ _ _ us hl => match us, hl with | [_], _ => rfl
  refine ⟨fd, fun s v => b s [v] rfl, fun base kb nb tb => ?_⟩
  have T : Tt K mg base := ⟨⟨c, kb, nb⟩, tb⟩
  have gb := (facts T).gl 36 (by decide)
  refine (fn_zlaw (S := S) (n := 11) (k := 21) (b := t_law_k59_0) (L := L_law_k59) (LH := H_law_k59) (Q := Q_law_k59) (facts T) Fn sc_law_k59 rfl rfl rfl (by kernel_rfl) (AllP.cons ((fs__law_draw T).up (by decide)) (AllP.cons ((fs__law_lines T).up (by decide)) (AllP.cons ((fs_Shape_of T).up (by decide)) (AllP.cons ((fs__law_is T).up (by decide)) (AllP.cons ((fs__law_same_shape T).up (by decide)) (AllP.cons (prom_m (facts T) (by decide) ((fs_Shape___invert__ T).up (by decide))) (AllP.cons ((fs__law_joint T).up (by decide)) (AllP.cons ((fs__law_refused_v5 T).up (by decide)) (AllP.cons ((fs__law_asked T).up (by decide)) AllP.nil))))))))) AllP.nil (AllQ.cons (facts T) (by decide) same_Shape (((fs_Shape___eq__ T).imp eqi_Shape).up (by decide)) AllQ.nil) (fun pn cd A outer s H E he => ?_) pure_law_k59).calm
  exact ps_set (i := 1) sc_law_k59.nd rfl (by first | exact Or.inl rfl | exact Or.inr rfl | exact Or.inr (Or.inl rfl)) (pe_raw (fs__law_box T) (.inl rfl) (he.rm.mono (by decide)) he.tk gb.1 gb.2 (pa_cons (pv 0) pa_nil))
end
end K59
open PySem PySem.W PySem.Calls PyProof.Rows
theorem PySem.Challenge.cw_laidink_k59_shape_signs_holds : PySem.Challenge.rw_laidink_k59_shape_signs.Holds := by
  w_on; o_law
  refine HandSHeadRun.head_any (r := OpenLaw.row PySem.Challenge.rw_laidink_k59_shape_signs) (q := view (OpenLaw.row PySem.Challenge.rw_laidink_k59_shape_signs).prog [22]) (H := K59.hk) (ob := K59.ob) (M := 20000) (loose := ["_wall", "PrintError", "InvalidShape", "WrongSize", "first_bad_line", "Shape", "joined_shapes", "_law_box", "_law_draw", "_law_lines", "_law_is", "_law_same_text", "_law_same_names", "_law_int", "_law_same_shape", "_law_joint", "_law_asked", "_law_refused", "MOST_PLACES"]) (d := HandSHeadRun.topDef (OpenLaw.row PySem.Challenge.rw_laidink_k59_shape_signs).prog 22) (kwd := []) K59.ob_eq
    (by kernel_rfl) (fun s => by kernel_rfl) K59.run (by kernel_rfl) (by kernel_rfl) (by kernel_rfl) (by rfl) (by first | assumption | decide +kernel) (by decide +kernel) ⟨rfl, rfl, rfl, rfl, rfl, by decide +kernel⟩ ?hw ?hc
  case hw => w_witness2
  case hc =>
    refine Px.law_end (l := PySem.Challenge.rw_laidink_k59_shape_signs) (t := K59.want) (k := 24) (x := "_law_script") (sp := Px.spLaw) rfl (by kernel_rfl) ⟨rfl, by decide, by decide, rfl⟩ (fun w mg fa h K KX c G hmg0 => ?_) (fun K H a ns hl _ hT hS => ⟨a, ns, rfl, hl, hS, hT, fun _ => rfl⟩)
    have hmg : mg ("law" : PySem.Str) = some (.ref fa) := by
      have e : (HandSHeadRun.topDef (OpenLaw.row PySem.Challenge.rw_laidink_k59_shape_signs).prog 22).name = ("law" : PySem.Str) := by kernel_rfl
      rw [← e]
      exact hmg0
    have e := hmg.symm.trans ((K59.facts0 (mg := mg) (base := h) ⟨c, KX, G⟩).gl 276 (by decide)).1
    cases e
    exact K59.fo_law (w := w) (mg := mg) c
