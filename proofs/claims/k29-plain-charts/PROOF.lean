import PyProof.Rows.All
import Wide.All
import OpenK.AllK
import Wide.FinOn
import HandS.ForMost
import HandS.Exc
import HandS.TryOnly
import HandS.ExcOwn
import HandS.WordsExc
import HandS.Star
import HandS.ClsMeth
import HandS.Defaults
import HandS.HeadHook1
import HandS.HeadHook2
import HandS.ExcField
import HandS.Lambda
import HandS.ExcCtx
import HandS.SuiteRaise
import HandS.EndTab
import HandS.HotCalls
import HandS.IsInst
import HandS.Wide
import HandS.TupAny
import HandS.Iter
import HandS.Text
import KE.KExcSuper
import HandS.HeadNt
import KE.KStateDown
import Lean
import HandS.Head0
import HandS.Head1
import HandS.Head2
import HandS.HeadEnd
import KE.KSuper
import HandS.GenCall
import HandS.Nested
import HandS.GenOver
import PyProof.Sched
import PyProof.Commute
import PyProof.GenRules
import PyProof.ForAny
import HandS.GenList
import HandS.EndBits
import KE.SortUse
import KE.KLam
import PyProof.DefCall
import HandS.Comp
import KE.KOpsOwn
import KE.KCallOwn
import HandS.FStr
import HandS.RaiseMore
import PyProof.Conv_bool
import HandS.OwnEq
import PyProof.NeKinds
import HandS.Property
import HandS.ExcIs
import HandS.Set
import HandS.SetFor
import HandS.SetBool
import PyProof.Rows.SortShellAny
import HandS.Rev
import KE.GoesEnum
import HandS.ExcInit
import OpenK.KMeth
import HandS.SortInts
import HandS.Conv
import KE.GoesZip
import HandS.RevTup
import HandS.Style
import HandS.More
import HandS.Deep
import PyProof.StrOps2
import PyProof.Rows.RegReprOcc
import KE.LtData
import HandS.Dict
import HandS.DictComp
import HandS.Small
import PyProof.ReprRoads
import PyProof.ReprLen
import PyProof.FitsInt
import PyProof.StrLawsRepr
import KE.KEqDict
import KE.KDictWalk
import PyProof.FString5
import PySem.Challenge.RW_laidink_k29_plain_charts
set_option Elab.async false
set_option linter.all false
set_option maxRecDepth 100000
set_option maxHeartbeats 4000000
namespace Px
open PySem PySem.Spec PyProof.Rows L2
inductive Cl where
  | Light | Film | Ink | Filter | Opaque | Bleach | Pass | Row | Spot | Chart | Shape | Sheet | Press
  | PrintError | InvalidBand | InvalidInk | InvalidTakes | InvalidPass | NoSuchPass | NotAnOrder | TooLong | TooManyMasks
  | Conditional | CannotCome | InvalidShape | WrongSize | UnknownMask | UnknownPlace | InvalidText | NothingToUndo
  | NothingToRedo | InvalidLimit | InvalidRun
  deriving DecidableEq
def Cl.name : Cl → Str
  | .Light => "Light" | .Film => "Film" | .Ink => "Ink" | .Filter => "Filter" | .Opaque => "Opaque" | .Bleach => "Bleach"
  | .Pass => "Pass" | .Row => "Row" | .Spot => "Spot" | .Chart => "Chart" | .Shape => "Shape" | .Sheet => "Sheet" | .Press => "Press"
  | .PrintError => "PrintError" | .InvalidBand => "InvalidBand" | .InvalidInk => "InvalidInk" | .InvalidTakes => "InvalidTakes"
  | .InvalidPass => "InvalidPass" | .NoSuchPass => "NoSuchPass" | .NotAnOrder => "NotAnOrder" | .TooLong => "TooLong"
  | .TooManyMasks => "TooManyMasks" | .Conditional => "Conditional" | .CannotCome => "CannotCome" | .InvalidShape => "InvalidShape"
  | .WrongSize => "WrongSize" | .UnknownMask => "UnknownMask" | .UnknownPlace => "UnknownPlace" | .InvalidText => "InvalidText"
  | .NothingToUndo => "NothingToUndo" | .NothingToRedo => "NothingToRedo" | .InvalidLimit => "InvalidLimit" | .InvalidRun => "InvalidRun"
def Cl.flds : Cl → List Str
  | .Light => ["number", "bands"] | .Film => ["bare", "inked"]
  | .Ink => ["off", "on", "takes"] | .Filter => ["off", "on", "takes"] | .Opaque => ["off", "on", "takes"] | .Bleach => ["off", "on", "takes"]
  | .Pass => ["mask", "ink", "around"] | .Row => ["passes", "masks"] | .Spot => ["opened", "ground", "inked"]
  | .Chart => ["mask", "leaf", "when_shut", "when_open"] | .Shape => ["lines", "width", "height"] | .Sheet => ["width", "height", "places"]
  | .Press => ["shapes", "sheet_now", "row_now", "before", "behind", "most"]
  | .PrintError => [] | .InvalidBand => ["band"] | .InvalidInk => ["band"] | .InvalidTakes => ["takes"] | .InvalidPass => ["mask"]
  | .NoSuchPass => ["number"] | .NotAnOrder => [] | .TooLong => ["many"] | .TooManyMasks => ["many"] | .Conditional => ["number"]
  | .CannotCome => ["place"] | .InvalidShape => ["line"] | .WrongSize => ["mask"] | .UnknownMask => ["mask"] | .UnknownPlace => ["x", "y"]
  | .InvalidText => ["line"] | .NothingToUndo => [] | .NothingToRedo => [] | .InvalidLimit => ["worth"] | .InvalidRun => ["number"]
inductive PV where
  | non | bl (b : Bool) | int (i : Int) | str (s : Str)
  | tup (xs : List PV) | lst (xs : List PV)
  | obj (c : Cl) (xs : List PV)
  | cls (c : Cl)
  | ty (n : String)
  | box
  | exc (a d : Addr) (c : Cl) (xs : List PV)
  | cell (a : Addr)
  | dK (ks : List Key) (xs : List PV)
  | dT (ks : List (List Key)) (xs : List PV)
  | ctup (xs : List PV)
abbrev Frg := PySem.W.Frag
/-- where the class c stands -/
abbrev ca (K : Frg) (c : Cl) : Addr := He.ga K c.name
/-- the box that a law draws from, its cells -/
abbrev BX := Option (Addr × Addr)
def isB (B : BX) (a : Addr) : Prop := ∃ b c, B = some (b, c) ∧ (a = b ∨ a = c)
/-- a class whose instances are read and stored plainly -/
def kcB (K : Frg) (c : Cl) : Bool := (He.Fa.cls c.name).ok K && (He.eqO (PySem.W.findIn K (.ref (ca K c)) "__class__") (some (some (.builtin "object.__class__"))) &&
  (He.eqO (PySem.W.specialIn K (.builtin "object.__class__") "__get__") (some (some (.builtin "getset_descriptor.__get__"))) && (decide (PySem.W.takesIn K (.builtin "object.__class__") = some true) &&
    (decide (PySem.W.mroIn K (ca K c) (.type "object") = some true) && (He.eqO (PySem.W.findIn K (.ref (ca K c)) "__ne__") (some (some (.builtin "object.__ne__"))) && c.flds.all fun f => He.eqO (PySem.W.findIn K (.ref (ca K c)) f) (some none))))))
/-- a class of errors -/
def xcB (K : Frg) (c : Cl) : Bool := xfB K (ca K c) && c.flds.all fun f => decide (PySem.W.findIn K (.ref (ca K c)) f = some none)
def knB (K : Frg) (c : Cl) : Bool := kcB K c || xcB K c
section
variable (K : Frg) (B : BX) (G : Hp)
mutual
def Rep : PV → V → Prop
  | .non, v => v = .non
  | .bl b, v => v = .bl b
  | .int i, v => v = .int i
  | .str s, v => v = .str s
  | .tup xs, v => ∃ a vs, v = .ref a ∧ G a = some (.tup vs) ∧ Reps xs vs
  | .lst xs, v => ∃ a vs, v = .ref a ∧ G a = some (.lst vs) ∧ Reps xs vs
  | .obj c xs, v => ∃ a dx vs, v = .ref a ∧ kcB K c = true ∧ G a = some (.ins (ca K c) dx (c.flds.zip vs)) ∧ vs.length = c.flds.length ∧ Reps xs vs
  | .cls c, v => v = .ref (ca K c) ∧ knB K c = true
  | .ty n, v => v = .ty n
  | .box, v => ∃ b c, B = some (b, c) ∧ v = .ref b
  | .exc a d c xs, v => v = .ref a ∧ (c.flds = [] ∨ ∃ vs, G d = some (.xd (c.flds.zip vs)) ∧ vs.length = c.flds.length ∧ Reps xs vs)
  | .cell a, v => v = .ref a
  | .dK ks xs, v => ∃ a vs o, v = .ref a ∧ G a = some (.frz o (.dK (ks.zip vs))) ∧ vs.length = ks.length ∧ Reps xs vs
  | .dT ks xs, v => ∃ a vs o, v = .ref a ∧ G a = some (.frz o (.dT (ks.zip vs))) ∧ vs.length = ks.length ∧ Reps xs vs
  | .ctup xs, v => ∃ a vs, v = .ref a ∧ SqT K G a vs ∧ Reps xs vs
def Reps : List PV → List V → Prop
  | [], vs => vs = []
  | x :: xs, vs => ∃ v ws, vs = v :: ws ∧ Rep x v ∧ Reps xs ws
end
end
/-- all of G stands in H -/
def Sub (G H : Hp) : Prop := ∀ a o, G a = some o → H a = some o
theorem Sub.refl (G : Hp) : Sub G G := fun _ _ h => h
theorem Sub.trans {G H J : Hp} (a : Sub G H) (b : Sub H J) : Sub G J := fun x o h => b x o (a x o h)
theorem Sub.rd {G H : Hp} {a : Addr} {u : HO} (s : Sub G H) (h : Rd G a u) : Rd H a u := by
  rcases h with h | ⟨o, h⟩
  · exact .inl (s _ _ h)
  · exact .inr ⟨o, s _ _ h⟩
theorem Sub.l {K : Frg} {G H : Hp} {a : Addr} {xs : List V} (s : Sub G H) (h : SqL K G a xs) : SqL K H a xs := by
  rcases h with h | h
  · exact .inl (s.rd h)
  · exact .inr h
theorem Sub.t {K : Frg} {G H : Hp} {a : Addr} {xs : List V} (s : Sub G H) (h : SqT K G a xs) : SqT K H a xs := by
  rcases h with h | h
  · exact .inl (s.rd h)
  · exact .inr h
theorem Sub.free {G H : Hp} (s : Sub G H) {a : Addr} (h : H a = none) : G a = none := by
  cases q : G a with
  | none => rfl
  | some o => rw [s a o q] at h; cases h
theorem Sub.upd {H : Hp} {p : Addr} {o : HO} (h : H p = none) : Sub H (upd H p o) := fun a u e => by
  rw [upd_ne (ne_of_none e h)]; exact e
theorem Sub.upd2 {G H : Hp} (s : Sub G H) (p : Addr) (o : HO) : Sub (L2.upd G p o) (L2.upd H p o) := fun a u e => by
  by_cases h : a = p
  · subst h; rw [upd_same] at e ⊢; exact e
  · rw [upd_ne h] at e ⊢; exact s a u e
section
variable {K : Frg} {B : BX} {G H : Hp}
mutual
theorem Rep.mono (s : Sub G H) : ∀ {x : PV} {v : V}, Rep K B G x v → Rep K B H x v
  | .non, v, h => by simp only [Rep] at h ⊢; exact h
  | .bl b, v, h => by simp only [Rep] at h ⊢; exact h
  | .int i, v, h => by simp only [Rep] at h ⊢; exact h
  | .str z, v, h => by simp only [Rep] at h ⊢; exact h
  | .tup xs, v, h => by
    simp only [Rep] at h ⊢
    obtain ⟨a, vs, e, q, r⟩ := h
    exact ⟨a, vs, e, s _ _ q, Reps.mono s r⟩
  | .ctup xs, v, h => by
    simp only [Rep] at h ⊢
    obtain ⟨a, vs, e, q, r⟩ := h
    exact ⟨a, vs, e, s.t q, Reps.mono s r⟩
  | .lst xs, v, h => by
    simp only [Rep] at h ⊢
    obtain ⟨a, vs, e, q, r⟩ := h
    exact ⟨a, vs, e, s _ _ q, Reps.mono s r⟩
  | .obj c xs, v, h => by
    simp only [Rep] at h ⊢
    obtain ⟨a, dx, vs, e, kc, q, l, r⟩ := h
    exact ⟨a, dx, vs, e, kc, s _ _ q, l, Reps.mono s r⟩
  | .cls c, v, h => by simp only [Rep] at h ⊢; exact h
  | .ty n, v, h => by simp only [Rep] at h ⊢; exact h
  | .box, v, h => by simp only [Rep] at h ⊢; exact h
  | .exc a d c xs, v, h => by
    simp only [Rep] at h ⊢
    obtain ⟨e, z⟩ := h
    refine ⟨e, z.elim .inl fun ⟨vs, q, l, r⟩ => .inr ⟨vs, s _ _ q, l, Reps.mono s r⟩⟩
  | .cell a, v, h => by simp only [Rep] at h ⊢; exact h
  | .dK ks xs, v, h => by
    simp only [Rep] at h ⊢
    obtain ⟨a, vs, o, e, q, l, r⟩ := h
    exact ⟨a, vs, o, e, s _ _ q, l, Reps.mono s r⟩
  | .dT ks xs, v, h => by
    simp only [Rep] at h ⊢
    obtain ⟨a, vs, o, e, q, l, r⟩ := h
    exact ⟨a, vs, o, e, s _ _ q, l, Reps.mono s r⟩
theorem Reps.mono (s : Sub G H) : ∀ {xs : List PV} {vs : List V}, Reps K B G xs vs → Reps K B H xs vs
  | [], vs, h => by simp only [Reps] at h ⊢; exact h
  | x :: xs, vs, h => by
    simp only [Reps] at h ⊢
    obtain ⟨v, ws, e, r, rs⟩ := h
    exact ⟨v, ws, e, Rep.mono s r, Reps.mono s rs⟩
end
theorem Reps.nil : Reps K B G [] [] := by simp only [Reps]
theorem Reps.cons {x : PV} {v : V} {xs : List PV} {vs : List V} (r : Rep K B G x v) (rs : Reps K B G xs vs) : Reps K B G (x :: xs) (v :: vs) := by
  simp only [Reps]; exact ⟨v, vs, rfl, r, rs⟩
theorem Reps.cons_inv {x : PV} {xs : List PV} {vs : List V} (h : Reps K B G (x :: xs) vs) : ∃ v ws, vs = v :: ws ∧ Rep K B G x v ∧ Reps K B G xs ws := by
  simp only [Reps] at h; exact h
theorem Reps.nil_inv {vs : List V} (h : Reps K B G [] vs) : vs = [] := by simp only [Reps] at h; exact h
theorem Reps.length : ∀ {xs : List PV} {vs : List V}, Reps K B G xs vs → vs.length = xs.length
  | [], vs, h => by rw [h.nil_inv]; rfl
  | x :: xs, vs, h => by
    obtain ⟨v, ws, rfl, _, r⟩ := h.cons_inv
    simp only [List.length_cons, r.length]
theorem Reps.get : ∀ {xs : List PV} {vs : List V} {i : Nat} {x : PV}, Reps K B G xs vs → xs[i]? = some x → ∃ v, vs[i]? = some v ∧ Rep K B G x v
  | [], vs, i, x, h, e => by simp at e
  | y :: xs, vs, i, x, h, e => by
    obtain ⟨v, ws, rfl, r, rs⟩ := h.cons_inv
    cases i with
    | zero => simp at e; subst e; exact ⟨v, rfl, r⟩
    | succ i =>
      obtain ⟨u, e1, e2⟩ := Reps.get (i := i) rs (by simpa using e)
      exact ⟨u, by simpa using e1, e2⟩
theorem Reps.append : ∀ {xs ys : List PV} {vs ws : List V}, Reps K B G xs vs → Reps K B G ys ws → Reps K B G (xs ++ ys) (vs ++ ws)
  | [], ys, vs, ws, h, r => by rw [h.nil_inv]; exact r
  | x :: xs, ys, vs, ws, h, r => by
    obtain ⟨v, us, rfl, q, qs⟩ := h.cons_inv
    exact .cons q (qs.append r)
theorem Reps.set : ∀ {xs : List PV} {vs : List V} {x : PV} {v : V} (i : Nat), Reps K B G xs vs → Rep K B G x v → Reps K B G (xs.set i x) (vs.set i v)
  | [], vs, x, v, i, h, r => by rw [h.nil_inv]; exact .nil
  | y :: xs, vs, x, v, i, h, r => by
    obtain ⟨w, us, rfl, q, qs⟩ := h.cons_inv
    cases i with
    | zero => exact .cons r qs
    | succ i => exact .cons q (Reps.set i qs r)
theorem Reps.take : ∀ {xs : List PV} {vs : List V} (n : Nat), Reps K B G xs vs → Reps K B G (xs.take n) (vs.take n)
  | [], vs, n, h => by rw [h.nil_inv, List.take_nil, List.take_nil]; exact .nil
  | y :: xs, vs, 0, h => .nil
  | y :: xs, vs, n + 1, h => by
    obtain ⟨w, us, rfl, q, qs⟩ := h.cons_inv
    exact .cons q (qs.take n)
theorem Reps.drop : ∀ {xs : List PV} {vs : List V} (n : Nat), Reps K B G xs vs → Reps K B G (xs.drop n) (vs.drop n)
  | [], vs, n, h => by rw [h.nil_inv, List.drop_nil, List.drop_nil]; exact .nil
  | y :: xs, vs, 0, h => h
  | y :: xs, vs, n + 1, h => by
    obtain ⟨w, us, rfl, q, qs⟩ := h.cons_inv
    exact qs.drop n
theorem Reps.reverse : ∀ {xs : List PV} {vs : List V}, Reps K B G xs vs → Reps K B G xs.reverse vs.reverse
  | [], vs, h => by rw [h.nil_inv]; exact .nil
  | y :: xs, vs, h => by
    obtain ⟨w, us, rfl, q, qs⟩ := h.cons_inv
    rw [List.reverse_cons, List.reverse_cons]
    exact qs.reverse.append (.cons q .nil)
theorem Reps.ints : ∀ {ns : List Int} {vs : List V}, Reps K B G (ns.map .int) vs → vs = ns.map V.int
  | [], vs, h => h.nil_inv
  | n :: ns, vs, h => by
    obtain ⟨v, us, rfl, q, qs⟩ := Reps.cons_inv (xs := ns.map PV.int) h
    simp only [Rep] at q
    rw [q, Reps.ints qs]
    rfl
theorem Reps.strs : ∀ {ys : List Str} {vs : List V}, Reps K B G (ys.map .str) vs → vs = ys.map V.str
  | [], vs, h => h.nil_inv
  | n :: ns, vs, h => by
    obtain ⟨v, us, rfl, q, qs⟩ := Reps.cons_inv (xs := ns.map PV.str) h
    simp only [Rep] at q
    rw [q, Reps.strs qs]
    rfl
theorem Reps.ofStrs : ∀ (ns : List Str), Reps K B G (ns.map .str) (ns.map V.str)
  | [] => .nil
  | n :: ns => .cons (by simp only [Rep]) (Reps.ofStrs ns)
theorem Reps.bls : ∀ {bs : List Bool} {vs : List V}, Reps K B G (bs.map .bl) vs → vs = bs.map V.bl
  | [], vs, h => h.nil_inv
  | n :: ns, vs, h => by
    obtain ⟨v, us, rfl, q, qs⟩ := Reps.cons_inv (xs := ns.map PV.bl) h
    simp only [Rep] at q
    rw [q, Reps.bls qs]
    rfl
theorem rep_ctup {a : Addr} {xs : List PV} {vs : List V} (h : SqT K G a vs) (r : Reps K B G xs vs) : Rep K B G (.ctup xs) (.ref a) := by
  simp only [Rep]; exact ⟨a, vs, rfl, h, r⟩
theorem rep_tup {a : Addr} {xs : List PV} {vs : List V} (h : G a = some (.tup vs)) (r : Reps K B G xs vs) : Rep K B G (.tup xs) (.ref a) := by
  simp only [Rep]; exact ⟨a, vs, rfl, h, r⟩
theorem rep_lst {a : Addr} {xs : List PV} {vs : List V} (h : G a = some (.lst vs)) (r : Reps K B G xs vs) : Rep K B G (.lst xs) (.ref a) := by
  simp only [Rep]; exact ⟨a, vs, rfl, h, r⟩
theorem rep_int (i : Int) : Rep K B G (.int i) (.int i) := by simp only [Rep]
theorem rep_bl (i : Bool) : Rep K B G (.bl i) (.bl i) := by simp only [Rep]
theorem rep_str (i : Str) : Rep K B G (.str i) (.str i) := by simp only [Rep]
theorem rep_non : Rep K B G .non .non := by simp only [Rep]
theorem rep_ty (n : String) : Rep K B G (.ty n) (.ty n) := by simp only [Rep]
theorem rep_cell (a : Addr) : Rep K B G (.cell a) (.ref a) := by simp only [Rep]
theorem rep_cls (c : Cl) (h : knB K c = true) : Rep K B G (.cls c) (.ref (ca K c)) := by simp only [Rep]; exact ⟨trivial, h⟩
theorem Rep.ty_inv {n : String} {v : V} (h : Rep K B G (.ty n) v) : v = .ty n := by simp only [Rep] at h; exact h
theorem Rep.int_inv {i : Int} {v : V} (h : Rep K B G (.int i) v) : v = .int i := by simp only [Rep] at h; exact h
theorem Rep.bl_inv {i : Bool} {v : V} (h : Rep K B G (.bl i) v) : v = .bl i := by simp only [Rep] at h; exact h
theorem Rep.str_inv {i : Str} {v : V} (h : Rep K B G (.str i) v) : v = .str i := by simp only [Rep] at h; exact h
theorem Rep.non_inv {v : V} (h : Rep K B G .non v) : v = .non := by simp only [Rep] at h; exact h
theorem Rep.cls_inv {c : Cl} {v : V} (h : Rep K B G (.cls c) v) : v = .ref (ca K c) := by simp only [Rep] at h; exact h.1
theorem Rep.cls_kn {c : Cl} {v : V} (h : Rep K B G (.cls c) v) : knB K c = true := by simp only [Rep] at h; exact h.2
theorem Rep.cell_inv {a : Addr} {v : V} (h : Rep K B G (.cell a) v) : v = .ref a := by simp only [Rep] at h; exact h
theorem Rep.tup_at {xs : List PV} {v : V} (h : Rep K B G (.tup xs) v) : ∃ a vs, v = .ref a ∧ G a = some (.tup vs) ∧ Reps K B G xs vs := by simp only [Rep] at h; exact h
theorem Rep.tup_inv {xs : List PV} {v : V} (h : Rep K B G (.tup xs) v) : ∃ a vs, v = .ref a ∧ SqT K G a vs ∧ Reps K B G xs vs := by
  obtain ⟨a, vs, e, q, r⟩ := h.tup_at
  exact ⟨a, vs, e, .inl (.inl q), r⟩
theorem Rep.ctup_inv {xs : List PV} {v : V} (h : Rep K B G (.ctup xs) v) : ∃ a vs, v = .ref a ∧ SqT K G a vs ∧ Reps K B G xs vs := by simp only [Rep] at h; exact h
theorem Rep.lst_inv {xs : List PV} {v : V} (h : Rep K B G (.lst xs) v) : ∃ a vs, v = .ref a ∧ G a = some (.lst vs) ∧ Reps K B G xs vs := by simp only [Rep] at h; exact h
theorem Rep.obj_inv {c : Cl} {xs : List PV} {v : V} (h : Rep K B G (.obj c xs) v) : ∃ a dx vs, v = .ref a ∧ kcB K c = true ∧ G a = some (.ins (ca K c) dx (c.flds.zip vs)) ∧ vs.length = c.flds.length ∧ Reps K B G xs vs := by simp only [Rep] at h; exact h
theorem Rep.box_inv {v : V} (h : Rep K B G .box v) : ∃ b c, B = some (b, c) ∧ v = .ref b := by simp only [Rep] at h; exact h
theorem Rep.exc_inv {a d : Addr} {c : Cl} {xs : List PV} {v : V} (h : Rep K B G (.exc a d c xs) v) : v = .ref a ∧ (c.flds = [] ∨ ∃ vs, G d = some (.xd (c.flds.zip vs)) ∧ vs.length = c.flds.length ∧ Reps K B G xs vs) := by simp only [Rep] at h; exact h
theorem Rep.dK_inv {ks : List Key} {xs : List PV} {v : V} (h : Rep K B G (.dK ks xs) v) : ∃ a vs o, v = .ref a ∧ G a = some (.frz o (.dK (ks.zip vs))) ∧ vs.length = ks.length ∧ Reps K B G xs vs := by simp only [Rep] at h; exact h
theorem Rep.dT_inv {ks : List (List Key)} {xs : List PV} {v : V} (h : Rep K B G (.dT ks xs) v) : ∃ a vs o, v = .ref a ∧ G a = some (.frz o (.dT (ks.zip vs))) ∧ vs.length = ks.length ∧ Reps K B G xs vs := by simp only [Rep] at h; exact h
end
inductive Cell where
  | lst (xs : List PV)
  | ins (c : Cl) (fs : List (Str × PV))
  | dK (ks : List Key) (xs : List PV)
  | dT (ks : List (List Key)) (xs : List PV)
abbrev Mu := Addr → Option Cell
def Mu.put (μ : Mu) (a : Addr) (c : Cell) : Mu := fun b => if b = a then some c else μ b
def Mu.del (μ : Mu) (a : Addr) : Mu := fun b => if b = a then none else μ b
theorem Mu.put_same (μ : Mu) (a : Addr) (c : Cell) : μ.put a c a = some c := by unfold Mu.put; rw [if_pos rfl]
theorem Mu.put_ne (μ : Mu) {a b : Addr} (c : Cell) (h : b ≠ a) : μ.put a c b = μ b := by unfold Mu.put; rw [if_neg h]
theorem Mu.del_same (μ : Mu) (a : Addr) : μ.del a a = none := by unfold Mu.del; rw [if_pos rfl]
theorem Mu.del_ne (μ : Mu) {a b : Addr} (h : b ≠ a) : μ.del a b = μ b := by unfold Mu.del; rw [if_neg h]
theorem Mu.put_put (μ : Mu) (a : Addr) (c d : Cell) : (μ.put a c).put a d = μ.put a d := by
  funext b; unfold Mu.put; split <;> rfl
theorem Mu.del_put (μ : Mu) (a : Addr) (c : Cell) : (μ.put a c).del a = μ.del a := by
  funext b
  by_cases e : b = a
  · subst e; rw [Mu.del_same, Mu.del_same]
  · rw [Mu.del_ne _ e, Mu.del_ne _ e, Mu.put_ne _ _ e]
theorem Mu.del_none {μ : Mu} {a : Addr} (h : μ a = none) : μ.del a = μ := by
  funext b; unfold Mu.del
  split
  · rename_i e; rw [e, h]
  · rfl
def FRep (K : Frg) (B : BX) (G : Hp) (fs : List (Str × PV)) (ws : List (Str × V)) : Prop := Paired (fun (p : Str × PV) (q : Str × V) => p.1 = q.1 ∧ Rep K B G p.2 q.2) fs ws
theorem FRep.mono {K : Frg} {B : BX} {G H : Hp} (s : Sub G H) {fs : List (Str × PV)} {ws : List (Str × V)} (h : FRep K B G fs ws) : FRep K B H fs ws := Paired.mapP h fun _ _ z => ⟨z.1, z.2.mono s⟩
def CellOk (K : Frg) (B : BX) (G : Hp) : Cell → HO → Prop
  | .lst xs, o => ∃ vs, o = .lst vs ∧ Reps K B G xs vs
  | .ins c fs, o => ∃ dx ws, o = .ins (ca K c) dx ws ∧ kcB K c = true ∧ (∀ p ∈ fs, p.1 ∈ c.flds) ∧ FRep K B G fs ws
  | .dK ks xs, o => ∃ vs, o = .dK (ks.zip vs) ∧ vs.length = ks.length ∧ Reps K B G xs vs
  | .dT ks xs, o => ∃ vs, o = .dT (ks.zip vs) ∧ vs.length = ks.length ∧ Reps K B G xs vs
theorem CellOk.mono {K : Frg} {B : BX} {G H : Hp} (s : Sub G H) : ∀ {c : Cell} {o : HO}, CellOk K B G c o → CellOk K B H c o
  | .lst xs, o, ⟨vs, e, r⟩ => ⟨vs, e, r.mono s⟩
  | .ins c fs, o, ⟨dx, ws, e, kc, fl, r⟩ => ⟨dx, ws, e, kc, fl, r.mono s⟩
  | .dK ks xs, o, ⟨vs, e, l, r⟩ => ⟨vs, e, l, r.mono s⟩
  | .dT ks xs, o, ⟨vs, e, l, r⟩ => ⟨vs, e, l, r.mono s⟩
def BoxAt (H : Hp) (b c : Addr) : Prop := b ≠ c ∧ ∃ (ns : List Int) (p st : Int), H b = some (.lst [.ref c, .int p, .int st]) ∧ H c = some (.lst (ns.map V.int)) ∧ 0 ≤ p ∧ 0 ≤ st ∧ st < 2147483647 ∧ ns.length ≤ 63
theorem BoxAt.some1 {H : Hp} {b c : Addr} (h : BoxAt H b c) : ∃ o, H b = some o := by obtain ⟨_, _, _, _, e, _⟩ := h; exact ⟨_, e⟩
theorem BoxAt.some2 {H : Hp} {b c : Addr} (h : BoxAt H b c) : ∃ o, H c = some o := by obtain ⟨_, _, _, _, _, e, _⟩ := h; exact ⟨_, e⟩
theorem BoxAt.same {H H' : Hp} {b c : Addr} (h : BoxAt H b c) (k : ∀ a o, H a = some o → (a = b ∨ a = c) → H' a = some o) : BoxAt H' b c := by
  obtain ⟨n, ns, p, st, e1, e2, r⟩ := h
  exact ⟨n, ns, p, st, k _ _ e1 (.inl rfl), k _ _ e2 (.inr rfl), r⟩
def LAM : List Str := ["_law_sets", "_law_grounds", "_law_fewest", "choices"]
/-- the code object of the def nm and its table, if K leaves the table out -/
def tabP (K : Frg) (nm : Str) : Option (Addr × Addr) := match K.lookup (He.ga K nm) with
  | some o => (match o.data with
    | .func fd => (match fd.code with
      | .ref c => (match K.lookup c with
        | some oc => (match oc.data with
          | .fields vs => (match (show Option Value from vs[11]?) with
            | some (.ref P) => (match K.lookup P with
              | none => some (c, P)
              | some _ => none)
            | _ => none)
          | _ => none)
        | none => none)
      | _ => none)
    | _ => none)
  | none => none
def Tbs (K : Frg) : List (Addr × Str) := LAM.filterMap fun nm => (tabP K nm).map fun p => (p.2, nm ++ ".<locals>.<lambda>")
/-- a table may grow; the code objects that it tells never change -/
def TabG (K : Frg) (G H : Hp) : Prop := ∀ p ∈ Tbs K, G p.1 = none ∧ ∃ ps : Array Value, H p.1 = some (.tbl ps) ∧ TriplesOk ps.toList ∧ ∀ (pos : Pos) (cv : Value), codeAmong pos ps.toList = some cv → ∃ c, cv = .ref c ∧ G c = some (LamX.CodeO c p.2)
theorem TabG.up {K : Frg} {G H G' H' : Hp} (t : TabG K G H) (s : Sub G G') (k : ∀ b ps, H b = some (.tbl ps) → G b = none → H' b = some (.tbl ps) ∧ G' b = none) : TabG K G' H' := fun p hp => by
  obtain ⟨g, ps, e, h1, h2⟩ := t p hp
  obtain ⟨k1, k2⟩ := k _ _ e g
  refine ⟨k2, ps, k1, h1, fun pos cv h => ?_⟩
  obtain ⟨c, rfl, e2⟩ := h2 pos cv h
  exact ⟨c, rfl, s c _ e2⟩
theorem TabG.nil {K : Frg} (h : Tbs K = []) (G H : Hp) : TabG K G H := fun p hp => by rw [h] at hp; cases hp
/-- no table -/
def NT (o : HO) : Prop := ∀ ps, o ≠ .tbl ps
theorem CellOk.nt {K : Frg} {B : BX} {G : Hp} {c : Cell} {o : HO} (h : CellOk K B G c o) : NT o := fun ps e => by
  subst e
  cases c with
  | lst xs => obtain ⟨vs, e, _⟩ := h; cases e
  | ins c fs => obtain ⟨dx, ws, e, _⟩ := h; cases e
  | dK ks xs => obtain ⟨vs, e, _⟩ := h; cases e
  | dT ks xs => obtain ⟨vs, e, _⟩ := h; cases e
structure Ok (K : Frg) (B : BX) (μ : Mu) (G H : Hp) : Prop where
  sub : Sub G H
  cell : ∀ a c, μ a = some c → G a = none ∧ ¬ isB B a ∧ ∃ o, H a = some o ∧ CellOk K B G c o
  box : ∀ b c, B = some (b, c) → BoxAt H b c ∧ G b = none ∧ G c = none
  tab : TabG K G H
/-- from one state to a later one -/
structure Stp (B : BX) (μ : Mu) (G H : Hp) (μ' : Mu) (G' H' : Hp) : Prop where
  gx : Sub G G'
  dom : ∀ a, H' a = none → H a = none
  keep : ∀ a o, H a = some o → ¬ isB B a → μ a = none → NT o → H' a = some o
  new : ∀ a o, G' a = some o → (∀ xs, o ≠ .tup xs) → G a = some o ∨ H a = none ∨ μ a ≠ none
  cel : ∀ a, μ' a ≠ none → μ a ≠ none ∨ H a = none
theorem Stp.refl {B : BX} {μ : Mu} {G H : Hp} : Stp B μ G H μ G H := ⟨.refl _, fun _ h => h, fun _ _ h _ _ _ => h, fun _ _ h _ => .inl h, fun _ h => .inl h⟩
theorem Stp.trans {B : BX} {μ μ1 μ2 : Mu} {G H G1 H1 G2 H2 : Hp} (x : Stp B μ G H μ1 G1 H1) (y : Stp B μ1 G1 H1 μ2 G2 H2) : Stp B μ G H μ2 G2 H2 where
  gx := x.gx.trans y.gx
  dom := fun a h => x.dom a (y.dom a h)
  keep := fun a o e nb n nt => y.keep a o (x.keep a o e nb n nt) nb (by
    cases q : μ1 a with
    | none => rfl
    | some c =>
      rcases x.cel a (by rw [q]; intro z; cases z) with z | z
      · exact absurd n z
      · rw [e] at z; cases z) nt
  new := fun a o e t => by
    rcases y.new a o e t with z | z | z
    · exact x.new a o z t
    · exact .inr (.inl (x.dom a z))
    · exact .inr ((x.cel a z).symm)
  cel := fun a h => by
    rcases y.cel a h with z | z
    · exact x.cel a z
    · exact .inr (x.dom a z)
structure Go (K : Frg) (B : BX) (μ : Mu) (G H : Hp) (μ' : Mu) (G' H' : Hp) : Prop where
  ok : Ok K B μ' G' H'
  st : Stp B μ G H μ' G' H'
section
variable {K : Frg} {B : BX} {μ μ1 μ2 : Mu} {G H G1 H1 G2 H2 : Hp}
theorem Go.refl (o : Ok K B μ G H) : Go K B μ G H μ G H := ⟨o, .refl⟩
theorem Go.gx (g : Go K B μ G H μ1 G1 H1) : Sub G G1 := g.st.gx
theorem Go.trans (x : Go K B μ G H μ1 G1 H1) (y : Go K B μ1 G1 H1 μ2 G2 H2) : Go K B μ G H μ2 G2 H2 := ⟨y.ok, x.st.trans y.st⟩
theorem Ok.isB_some (o : Ok K B μ G H) {a : Addr} (h : isB B a) : ∃ u, H a = some u := by
  obtain ⟨b, c, e, r⟩ := h
  obtain ⟨bt, _⟩ := o.box b c e
  rcases r with rfl | rfl
  · exact bt.some1
  · exact bt.some2
theorem Ok.notB (o : Ok K B μ G H) {a : Addr} (h : H a = none) : ¬ isB B a := fun z => by
  obtain ⟨u, e⟩ := o.isB_some z; rw [h] at e; cases e
theorem Ok.freeM (o : Ok K B μ G H) {a : Addr} (h : H a = none) : μ a = none := by
  cases q : μ a with
  | none => rfl
  | some c => obtain ⟨_, _, u, e, _⟩ := o.cell a c q; rw [h] at e; cases e
/-- a new object that never changes -/
theorem Ok.new1 (o : Ok K B μ G H) {p : Addr} {u : HO} (h : H p = none) : Go K B μ G H μ (upd G p u) (upd H p u) := by
  have hg : G p = none := o.sub.free h
  refine ⟨⟨o.sub.upd2 p u, fun a c e => ?_, fun b c e => ?_, o.tab.up (.upd hg) fun b ps e g => by rw [upd_ne (ne_of_none e h), upd_ne (ne_of_none e h)]; exact ⟨e, g⟩⟩, ⟨.upd hg, fun a e => ?_, fun a x e _ _ _ => ?_, fun a x e _ => ?_, fun a e => .inl e⟩⟩
  · obtain ⟨g1, nb, v, e1, r⟩ := o.cell a c e
    have n : a ≠ p := ne_of_none e1 h
    exact ⟨by rw [upd_ne n]; exact g1, nb, v, by rw [upd_ne n]; exact e1, r.mono (.upd hg)⟩
  · obtain ⟨bt, gb, gc⟩ := o.box b c e
    obtain ⟨u1, e1⟩ := bt.some1
    obtain ⟨u2, e2⟩ := bt.some2
    have n1 : b ≠ p := ne_of_none e1 h
    have n2 : c ≠ p := ne_of_none e2 h
    refine ⟨bt.same fun a x q r => ?_, ?_, ?_⟩
    · rw [upd_ne (ne_of_none q h)]; exact q
    · rw [upd_ne n1]; exact gb
    · rw [upd_ne n2]; exact gc
  · by_cases z : a = p
    · subst z; exact h
    · rw [upd_ne z] at e; exact e
  · rw [upd_ne (ne_of_none e h)]; exact e
  · by_cases z : a = p
    · subst z; exact .inr (.inl h)
    · rw [upd_ne z] at e; exact .inl e
/-- a new object that nobody is told of -/
theorem Ok.new2 (o : Ok K B μ G H) {p : Addr} {u : HO} (h : H p = none) : Go K B μ G H μ G (upd H p u) := by
  have hg : G p = none := o.sub.free h
  refine ⟨⟨fun a x e => ?_, fun a c e => ?_, fun b c e => ?_, o.tab.up (.refl _) fun b ps e g => by rw [upd_ne (ne_of_none e h)]; exact ⟨e, g⟩⟩, ⟨.refl _, fun a e => ?_, fun a x e _ _ _ => ?_, fun a x e _ => .inl e, fun a e => .inl e⟩⟩
  · rw [upd_ne (ne_of_none e hg)]; exact o.sub a x e
  · obtain ⟨g1, nb, v, e1, r⟩ := o.cell a c e
    exact ⟨g1, nb, v, by rw [upd_ne (ne_of_none e1 h)]; exact e1, r⟩
  · obtain ⟨bt, gb, gc⟩ := o.box b c e
    exact ⟨bt.same fun a x q r => by rw [upd_ne (ne_of_none q h)]; exact q, gb, gc⟩
  · by_cases z : a = p
    · subst z; exact h
    · rw [upd_ne z] at e; exact e
  · rw [upd_ne (ne_of_none e h)]; exact e
/-- what nobody was told of gets a cell -/
theorem Ok.take (o : Ok K B μ G H) {p : Addr} {u : HO} {c : Cell} (hp : H p = some u) (gp : G p = none) (nb : ¬ isB B p) (r : CellOk K B G c u) : Ok K B (μ.put p c) G H := by
  refine ⟨o.sub, fun a d e => ?_, o.box, o.tab⟩
  by_cases z : a = p
  · subst z
    rw [Mu.put_same] at e; cases e
    exact ⟨gp, nb, u, hp, r⟩
  · rw [Mu.put_ne _ _ z] at e; exact o.cell a d e
/-- what is no longer changed -/
theorem Ok.frz (o : Ok K B μ G H) {p : Addr} {u : HO} (hp : H p = some u) (gp : G p = none) (nb : ¬ isB B p) (nt : NT u) : Ok K B (μ.del p) (upd G p u) H := by
  refine ⟨fun a x e => ?_, fun a c e => ?_, fun b c e => ?_, o.tab.up (.upd gp) fun b ps e g => ⟨e, by rw [upd_ne fun z => by rw [z, hp] at e; cases e; exact nt ps rfl]; exact g⟩⟩
  · by_cases z : a = p
    · subst z; rw [upd_same] at e; rw [hp]; exact e
    · rw [upd_ne z] at e; exact o.sub a x e
  · by_cases z : a = p
    · subst z; rw [Mu.del_same] at e; cases e
    · rw [Mu.del_ne _ z] at e
      obtain ⟨g1, nb1, v, e1, r⟩ := o.cell a c e
      exact ⟨by rw [upd_ne z]; exact g1, nb1, v, e1, r.mono (.upd gp)⟩
  · obtain ⟨bt, gb, gc⟩ := o.box b c e
    exact ⟨bt, by rw [upd_ne fun z => nb ⟨b, c, e, .inl z.symm⟩]; exact gb, by rw [upd_ne fun z => nb ⟨b, c, e, .inr z.symm⟩]; exact gc⟩
/-- a new object with a cell -/
theorem Ok.newC (o : Ok K B μ G H) {p : Addr} {u : HO} {c : Cell} (h : H p = none) (r : CellOk K B G c u) : Go K B μ G H (μ.put p c) G (upd H p u) := by
  have g := o.new2 (u := u) h
  refine ⟨g.ok.take upd_same (o.sub.free h) (o.notB h) r, ⟨.refl _, g.st.dom, g.st.keep, g.st.new, fun a e => ?_⟩⟩
  by_cases z : a = p
  · subst z; exact .inr h
  · rw [Mu.put_ne _ _ z] at e; exact .inl e
/-- a step to what nobody was told of: it gets a cell -/
theorem Go.take (g : Go K B μ G H μ1 G1 H1) {p : Addr} {u : HO} {c : Cell} (h : H p = none) (hp : H1 p = some u) (gp : G1 p = none) (nb : ¬ isB B p) (r : CellOk K B G1 c u) : Go K B μ G H (μ1.put p c) G1 H1 :=
  ⟨g.ok.take hp gp nb r, ⟨g.st.gx, g.st.dom, g.st.keep, g.st.new, fun a e => by
    by_cases z : a = p
    · subst z; exact .inr h
    · rw [Mu.put_ne _ _ z] at e; exact g.st.cel a e⟩⟩
/-- .. or is never changed again -/
theorem Go.take1 (g : Go K B μ G H μ1 G1 H1) {p : Addr} {u : HO} (h : H p = none) (hp : H1 p = some u) (gp : G1 p = none) (mp : μ1 p = none) (nb : ¬ isB B p) (nt : NT u := by intro _ e; cases e) : Go K B μ G H μ1 (upd G1 p u) H1 := by
  have := g.ok.frz hp gp nb nt
  rw [Mu.del_none mp] at this
  exact ⟨this, ⟨g.st.gx.trans (.upd gp), g.st.dom, g.st.keep, fun a x e tx => by
    by_cases z : a = p
    · subst z; exact .inr (.inl h)
    · rw [upd_ne z] at e; exact g.st.new a x e tx, g.st.cel⟩⟩
/-- a cell is no longer changed -/
theorem Ok.goFrz (o : Ok K B μ G H) {p : Addr} {u : HO} (mp : μ p ≠ none) (hp : H p = some u) (gp : G p = none) (nb : ¬ isB B p) (nt : NT u := by intro _ e; cases e) : Go K B μ G H (μ.del p) (upd G p u) H :=
  ⟨o.frz hp gp nb nt, ⟨.upd gp, fun _ h => h, fun _ _ e _ _ _ => e, fun a x e _ => by
    by_cases z : a = p
    · subst z; exact .inr (.inr mp)
    · rw [upd_ne z] at e; exact .inl e, fun a e => by
    by_cases z : a = p
    · subst z; rw [Mu.del_same] at e; exact absurd rfl e
    · rw [Mu.del_ne _ z] at e; exact .inl e⟩⟩
/-- a dict's cell is no longer changed: it is locked too -/
theorem Ok.goFrzD (o : Ok K B μ G H) {p : Addr} {u : HO} (ob : Obj) (mp : μ p ≠ none) (hp : H p = some u) (gp : G p = none) (nb : ¬ isB B p) (nt : NT u) : Go K B μ G H (μ.del p) (upd G p (.frz ob u)) (upd H p (.frz ob u)) := by
  have np : ∀ b ps, H b = some (.tbl ps) → b ≠ p := fun b ps e z => by rw [z, hp] at e; cases e; exact nt ps rfl
  refine ⟨⟨o.sub.upd2 p _, fun a c e => ?_, fun b c e => ?_, o.tab.up (.upd gp) fun b ps e g => ⟨by rw [upd_ne (np b ps e)]; exact e, by rw [upd_ne (np b ps e)]; exact g⟩⟩, ⟨.upd gp, fun a e => ?_, fun a x e _ m _ => ?_, fun a x e _ => ?_, fun a e => ?_⟩⟩
  · by_cases z : a = p
    · subst z; rw [Mu.del_same] at e; cases e
    · rw [Mu.del_ne _ z] at e
      obtain ⟨g1, nb1, v, e1, r⟩ := o.cell a c e
      exact ⟨by rw [upd_ne z]; exact g1, nb1, v, by rw [upd_ne z]; exact e1, r.mono (.upd gp)⟩
  · obtain ⟨bt, gb, gc⟩ := o.box b c e
    have n1 : b ≠ p := fun z => nb ⟨b, c, e, .inl z.symm⟩
    have n2 : c ≠ p := fun z => nb ⟨b, c, e, .inr z.symm⟩
    refine ⟨bt.same fun a x q r => ?_, by rw [upd_ne n1]; exact gb, by rw [upd_ne n2]; exact gc⟩
    rw [upd_ne fun z => by rcases r with r | r; exact n1 (r.symm.trans z); exact n2 (r.symm.trans z)]; exact q
  · by_cases z : a = p
    · subst z; rw [upd_same] at e; cases e
    · rw [upd_ne z] at e; exact e
  · rw [upd_ne (fun z => by rw [z] at m; exact mp m)]; exact e
  · by_cases z : a = p
    · subst z; exact .inr (.inr mp)
    · rw [upd_ne z] at e; exact .inl e
  · by_cases z : a = p
    · subst z; rw [Mu.del_same] at e; exact absurd rfl e
    · rw [Mu.del_ne _ z] at e; exact .inl e
/-- a cell is forgotten -/
theorem Ok.goDel (o : Ok K B μ G H) (p : Addr) : Go K B μ G H (μ.del p) G H :=
  ⟨⟨o.sub, fun a c e => by
    by_cases z : a = p
    · subst z; rw [Mu.del_same] at e; cases e
    · rw [Mu.del_ne _ z] at e; exact o.cell a c e, o.box, o.tab⟩, ⟨.refl _, fun _ h => h, fun _ _ e _ _ _ => e, fun a x e _ => .inl e, fun a e => by
    by_cases z : a = p
    · subst z; rw [Mu.del_same] at e; exact absurd rfl e
    · rw [Mu.del_ne _ z] at e; exact .inl e⟩⟩
/-- a cell gets another content -/
theorem Ok.goPut (o : Ok K B μ G H) {p : Addr} {u : HO} {c d : Cell} (mp : μ p = some c) (r : CellOk K B G d u) : Go K B μ G H (μ.put p d) G (upd H p u) := by
  obtain ⟨gp, nb, v, e1, r1⟩ := o.cell p c mp
  refine ⟨⟨fun a x e => ?_, fun a d' e => ?_, fun b c' e => ?_, o.tab.up (.refl _) fun b ps e g => ⟨by rw [upd_ne fun z => by rw [z, e1] at e; cases e; exact r1.nt ps rfl]; exact e, g⟩⟩, ⟨.refl _, fun a e => ?_, fun a x e _ n _ => ?_, fun a x e _ => .inl e, fun a e => ?_⟩⟩
  · rw [upd_ne (ne_of_none e gp)]; exact o.sub a x e
  · by_cases z : a = p
    · subst z
      rw [Mu.put_same] at e; cases e
      exact ⟨gp, nb, u, upd_same, r⟩
    · rw [Mu.put_ne _ _ z] at e
      obtain ⟨g1, nb1, v1, e2, r2⟩ := o.cell a d' e
      exact ⟨g1, nb1, v1, by rw [upd_ne z]; exact e2, r2⟩
  · obtain ⟨bt, gb, gc⟩ := o.box b c' e
    exact ⟨bt.same fun a x q r' => by
      rw [upd_ne fun z => nb ⟨b, c', e, r'.elim (fun y => .inl (z.symm.trans y)) fun y => .inr (z.symm.trans y)⟩]; exact q, gb, gc⟩
  · by_cases z : a = p
    · subst z; rw [upd_same] at e; cases e
    · rw [upd_ne z] at e; exact e
  · rw [upd_ne fun z => by rw [z, mp] at n; cases n]; exact e
  · by_cases z : a = p
    · subst z; exact .inl (by rw [mp]; intro y; cases y)
    · rw [Mu.put_ne _ _ z] at e; exact .inl e
/-- a step that is not told of D leaves it alone -/
theorem Go.hid (g : Go K B μ G H μ1 G1 H1) {D : Addr} {u : HO} (n : G D = none) (m : μ D = none) (e : H D = some u) (nb : ¬ isB B D) (nt : NT u) (ntu : ∀ xs, u ≠ .tup xs) : G1 D = none ∧ μ1 D = none ∧ H1 D = some u := by
  have k := g.st.keep D _ e nb m nt
  refine ⟨?_, ?_, k⟩
  · cases qq : G1 D with
    | none => rfl
    | some v =>
      have hv := g.ok.sub D v qq
      rw [k] at hv
      cases hv
      rcases g.st.new D u qq ntu with z | z | z
      · rw [n] at z; cases z
      · rw [e] at z; cases z
      · exact absurd m z
  · cases qq : μ1 D with
    | none => rfl
    | some v =>
      rcases g.st.cel D (by rw [qq]; intro z; cases z) with z | z
      · exact absurd m z
      · rw [e] at z; cases z
/-- something that neither the store nor the frozen part knows is changed -/
theorem Ok.mut (o : Ok K B μ G H) {l : Addr} {u u' : HO} (hl : H l = some u) (gl : G l = none) (ml : μ l = none) (nb : ¬ isB B l) (nt : NT u := by intro _ e; cases e) : Ok K B μ G (upd H l u') := by
  refine ⟨fun a x e => ?_, fun a c e => ?_, fun b c e => ?_, o.tab.up (.refl _) fun b ps e g => ⟨by rw [upd_ne fun z => by rw [z, hl] at e; cases e; exact nt ps rfl]; exact e, g⟩⟩
  · rw [upd_ne (ne_of_none e gl)]; exact o.sub a x e
  · obtain ⟨g1, nb1, v, e1, r⟩ := o.cell a c e
    exact ⟨g1, nb1, v, by rw [upd_ne fun z => by rw [z, ml] at e; cases e]; exact e1, r⟩
  · obtain ⟨bt, gb, gc⟩ := o.box b c e
    exact ⟨bt.same fun a x q r => by
      rw [upd_ne fun z => nb ⟨b, c, e, r.elim (fun y => .inl (z.symm.trans y)) fun y => .inr (z.symm.trans y)⟩]; exact q, gb, gc⟩
end
abbrev En := List (Option PV)
def nth : En → Nat → Option PV
  | [], _ => none
  | x :: _, 0 => x
  | _ :: xs, n + 1 => nth xs n
theorem nth_some : ∀ {ρ : En} {i : Nat} {x : PV}, nth ρ i = some x → ρ[i]? = some (some x)
  | [], i, x, h => by cases h
  | y :: ys, 0, x, h => by
    have h : y = some x := h
    rw [h]; rfl
  | y :: ys, i + 1, x, h => by
    have := nth_some (ρ := ys) (i := i) h
    simpa using this
structure Rel (K : Frg) (B : BX) (ρ : En) (μ : Mu) (σ : L2.St) (G H : Hp) : Prop where
  ok : Ok K B μ G H
  len : σ.length = ρ.length
  at_ : ∀ (i : Nat) (x : PV), ρ[i]? = some (some x) → ∃ v, σ[i]? = some (some v) ∧ Rep K B G x v
section
variable {K : Frg} {B : BX} {ρ ρ' : En} {μ μ1 : Mu} {σ σ' : L2.St} {G H G1 H1 : Hp}
theorem Rel.go (r : Rel K B ρ μ σ G H) (g : Go K B μ G H μ1 G1 H1) : Rel K B ρ μ1 σ G1 H1 :=
  ⟨g.ok, r.len, fun i x e => by obtain ⟨v, e1, e2⟩ := r.at_ i x e; exact ⟨v, e1, e2.mono g.gx⟩⟩
theorem lt_of_some {α : Type} {l : List α} {i : Nat} {x : α} (h : l[i]? = some x) : i < l.length := (List.getElem?_eq_some_iff.mp h).1
theorem set_get {α : Type} {l : List α} {i j : Nat} {x y : α} (h : (l.set i x)[j]? = some y) : (i = j ∧ y = x) ∨ (i ≠ j ∧ l[j]? = some y) := by
  by_cases z : i = j
  · subst z
    have hl : i < l.length := by have := lt_of_some h; rwa [List.length_set] at this
    rw [List.getElem?_set_self hl] at h
    cases h
    exact .inl ⟨rfl, rfl⟩
  · rw [List.getElem?_set_ne z] at h
    exact .inr ⟨z, h⟩
theorem Rel.set {x : PV} {v : V} (i : Nat) (r : Rel K B ρ μ σ G H) (h : Rep K B G x v) : Rel K B (ρ.set i (some x)) μ (σ.set i (some v)) G H := by
  refine ⟨r.ok, by rw [List.length_set, List.length_set]; exact r.len, fun j y e => ?_⟩
  rcases set_get e with ⟨rfl, z⟩ | ⟨n, z⟩
  · cases z
    have hi : i < σ.length := by have := lt_of_some e; rw [List.length_set] at this; rw [r.len]; exact this
    exact ⟨v, List.getElem?_set_self hi, h⟩
  · rw [List.getElem?_set_ne n]
    exact r.at_ j y z
theorem Rel.weak (r : Rel K B ρ μ σ G H) (l : σ'.length = ρ'.length) (h : ∀ (i : Nat) (x : PV), ρ'[i]? = some (some x) → ρ[i]? = some (some x) ∧ σ'[i]? = σ[i]?) : Rel K B ρ' μ σ' G H :=
  ⟨r.ok, l, fun i x e => by obtain ⟨e1, e2⟩ := h i x e; rw [e2]; exact r.at_ i x e1⟩
end
end Px
namespace Px
open PySem PySem.Spec PyProof.Rows L2
def runV (K : Frg) : Value := .ref (ca K .InvalidRun)
def Zi (K : Frg) (cls : Value) (d : Option Addr) : Obj → Prop := fun o => o.cls = cls ∧ o.dict = d ∧ ((cls = runV K ∧ xcB K .InvalidRun = true) ∨ PXN.CtxN o)
section
variable {K : Frg} {cls : Value} {d : Option Addr} {o : Obj}
theorem Zi.steady : PXN.Steady1 (Zi K cls d) := fun o v h => ⟨PXN.steady_cls o v h.1, PXN.steady_dict o v h.2.1, h.2.2.imp id (PXN.steady_ctx o v)⟩
theorem Zi.of (h : L2N.Zn cls d o) : Zi K cls d o := ⟨h.1, h.2.1, .inr h.2.2⟩
theorem Zi.run (x : xcB K .InvalidRun = true) (h : Zc (runV K) d o) : Zi K (runV K) d o := ⟨h.1, h.2, .inl ⟨rfl, x⟩⟩
end
theorem heldZ_imp {B h : Heap} {l : List Env} {a L : Addr} {Z Z' : Obj → Prop} (z : ∀ o, Z o → Z' o) (x : HandSPX.HeldZ B l a Z L h) : HandSPX.HeldZ B l a Z' L h := ⟨x.1, x.2.1, x.2.2.1, L2H.tracedZ_imp z x.2.2.2⟩
theorem sky_imp {B h : Heap} {l : List Env} {a L : Addr} {Z Z' : Obj → Prop} (z : ∀ o, Z o → Z' o) (x : Sky B l a Z L h) : Sky B l a Z' L h := by
  rcases x with ⟨h1, h2, h3, oe, vs, h4, h5, h6, h7⟩ | x | x
  · exact .inl ⟨h1, h2, h3, oe, vs, h4, z _ h5, h6, h7⟩
  · exact .inr (.inl (L2H.flyingZ_imp z x))
  · exact .inr (.inr (heldZ_imp z x))
/-- the frame in which a block runs -/
def frL (X : Cx) : Addr := X.env.frame.getD X.env.locals
theorem frL_of {X : Cx} (h : X.env.frame = some X.env.locals) : frL X = X.env.locals := by
  unfold frL
  rw [h]
  rfl
/-- an error in the air of X: sI is the state without it -/
def XI (X : Cx) (W : WX) (u : Value) (s' : Shared) : Prop :=
  ∃ (a : Addr) (B : Heap) (sI : Shared) (pins : List (Addr × Obj)) (σ : L2.St) (H : Hp) (cls : Value) (d : Option Addr),
    u = .ref a ∧ Inv X pins σ H sI ∧ (∀ b o, sI.heap.get? b = some o → b ∉ frs X.stack → B.get? b = some o) ∧ sI.heap.UpToSlots s'.heap ∧
      Sky B X.stack a (Zi X.K cls d) (frL X) s'.heap ∧ H a = none ∧ s'.os = sI.os ∧ AllBare s'.gens ∧ W cls d σ H
def TkI (X : Cx) (W : WX) : Prop := ∀ u s', XI X W u s' → X.xe u s'
theorem XI.of {X : Cx} {W : WX} {u : Value} {s' : Shared} (hf : X.env.frame = some X.env.locals) (x : L2N.XE X W u s') : XI X W u s' := by
  obtain ⟨a, B, sI, pins, σ, H, cls, d, e, I, nb, up, sky, r⟩ := x
  exact ⟨a, B, sI, pins, σ, H, cls, d, e, I, nb, up, by rw [frL_of hf]; exact sky_imp (fun _ z => Zi.of z) sky, r⟩
theorem TkI.n {X : Cx} {W : WX} (t : TkI X W) (hf : X.env.frame = some X.env.locals) : L2N.Takes X W := fun u s' x => t u s' (.of hf x)
theorem TkI.imp {X : Cx} {W W' : WX} (t : TkI X W) (h : ∀ c d σ H, W' c d σ H → W c d σ H) : TkI X W' := fun u s' ⟨a, B, sI, pins, σ, H, cls, d, e, I, nb, up, sky, na, os, ag, w⟩ =>
  t u s' ⟨a, B, sI, pins, σ, H, cls, d, e, I, nb, up, sky, na, os, ag, h _ _ _ _ w⟩
/-- behind a call that let an error out -/
def CXI (K : Frg) (P : Program) (w : World) (outer : List Env) (H : Hp) (s : Shared) (E : XK) (u : Value) (s' : Shared) : Prop :=
  ∃ (a : Addr) (B : Heap) (H' : Hp) (cls : Value) (d : Option Addr), u = .ref a ∧ HandSPX.FlyingZ B outer a (Zi K cls d) s'.heap ∧ HOk P w H' B ∧ UB (frs outer) H H' s.heap B s'.heap ∧ H' a = none ∧ s'.os = s.os ∧ AllBare s'.gens ∧ E cls d H'
section
variable {X : Cx} {pins : List (Addr × Obj)} {σ : L2.St} {H : Hp} {sI s s' : Shared} {B : Heap} {W : WX} {E : XK}
/-- a call's error is in our air -/
theorem XI.of_call (I : Inv X pins σ H s) (hW : ∀ cls d H', E cls d H' → W cls d σ H') {u : Value} (c : CXI X.K X.prog X.w X.stack H s E u s') : XI X W u s' := by
  obtain ⟨a, B, H', cls, d, rfl, fl, hok, ub, na, os, ag, hE⟩ := c
  obtain ⟨G, g1, g2⟩ := restrict s'.heap fun b => (B.get? b).isSome || decide (b ∈ frs X.stack)
  have st : B.StaysIn s'.heap := fl.1
  have gB : ∀ b o, B.get? b = some o → G.get? b = some o := fun b o e => by
    rw [g1 b (by simp [e])]
    exact st b o e
  have gF : ∀ b, b ∈ frs X.stack → G.get? b = s'.heap.get? b := fun b hb => g1 b (by simp [hb])
  have og : ∀ b o, G.get? b = some o → s'.heap.get? b = some o ∧ ((B.get? b).isSome = true ∨ b ∈ frs X.stack) := fun b o e => by
    cases q : ((B.get? b).isSome || decide (b ∈ frs X.stack)) with
    | false => rw [g2 b q] at e; cases e
    | true =>
      rw [g1 b q] at e
      exact ⟨e, by simpa [Bool.or_eq_true] using q⟩
  refine ⟨a, B, { s with heap := G, gens := s'.gens, drawn := s'.drawn, toks := s'.toks }, pins, σ, H', cls, d, rfl, ?_, fun b o e hb => ?_, Heap.UpToSlots.of_keeps fun b o e => (og b o e).1, .inr (.inl fl), na, os, ag, hW _ _ _ hE⟩
  · refine I.call (ch := []) ⟨fun b o e n hb _ => gB b o (ub.keep b o e n hb), fun b o e n hb _ => ?_, fun b o e n _ => ub.free b o e n, fun b o e _ => ?_, ub.tups, ub.frzs, ub.tbls⟩ (hok.kept gB) ag (fun _ z => nomatch z)
    · obtain ⟨sl, q⟩ := ub.slot b o e hb
      exact ⟨sl, by rw [gF b hb]; exact q⟩
    · by_cases hb : b ∈ frs X.stack
      · obtain ⟨sl, q⟩ := ub.slot b o e hb
        exact ⟨_, by rw [gF b hb]; exact q⟩
      · obtain ⟨o', q⟩ := ub.there b o e hb
        exact ⟨o', gB b o' q⟩
  · obtain ⟨e', h⟩ := og b o e
    rcases h with h | h
    · obtain ⟨o', q⟩ := Option.isSome_iff_exists.mp h
      have z := st b o' q
      rw [e'] at z; cases z
      exact q
    · exact absurd h hb
/-- a new error is in our air -/
theorem XI.new {a : Addr} {oe : Obj} {vs : Array Value} {cls : Value} {d : Option Addr} (I : Inv X pins σ H sI) (k : ∀ b o, sI.heap.get? b = some o → s'.heap.get? b = some o) (hne : sI.heap.get? a = none) (he : s'.heap.get? a = some oe)
    (hz : Zi X.K cls d oe) (hd : oe.data = .fields vs) (h1 : vs[1]? = some .none) (na : H a = none) (os : s'.os = sI.os) (ag : AllBare s'.gens) (w : W cls d σ H) : XI X W (.ref a) s' := by
  refine ⟨a, PySem.W.hideAll sI.heap (frs X.stack), sI, pins, σ, H, cls, d, rfl, I, fun b o e hb => PySem.W.hideAll_get _ e hb, Heap.UpToSlots.of_keeps k,
    .inl ⟨fun b o e => k b o (PySem.W.of_hideAll _ e), ?_, ?_, oe, vs, he, hz, hd, h1⟩, na, os, ag, w⟩
  · cases q : (PySem.W.hideAll sI.heap (frs X.stack)).get? a with
    | none => rfl
    | some o =>
      have z := PySem.W.of_hideAll _ q
      rw [hne] at z; cases z
  · exact Heap.FunFrames.of_keeps (fun b o e _ => ⟨o, k b o e, rfl⟩) (funFrames_none I.stack fun b hb => PySem.W.hideAll_none _ hb)
/-- it leaves the def -/
theorem XI.leave (hs : X.stack = X.env :: X.outer) (hf : X.env.frame = some X.env.locals) (hex : X.ex = []) {E₁ : Value → Shared → Prop} (hW : ∀ cls d σ H, W cls d σ H → E cls d H) {u : Value} (x : XI X W u s') :
    wpAny (model X.prog X.w) X.A (leaving X.env u) (fun _ s'' => CXI X.K X.prog X.w X.outer X.H_0 X.s_0 E u s'') E₁ s' := by
  obtain ⟨a, B, sI, pins, σ, H, cls, d, rfl, I, nb, up, sky, na, os, ag, w⟩ := x
  rw [frL_of hf] at sky
  have hfr : X.A.frames = some (X.env :: X.outer) := by rw [I.ok.frames, hs]
  have nst : ∀ b o, X.s_0.heap.get? b = some o → b ∉ X.fs → b ∉ frs X.stack := fun b o e hb hm => by
    rcases List.mem_cons.mp (I.stkSub b hm) with z | z
    · have h1 := Heap.lt_size e
      have h2 := I.ok.above
      rw [z] at h1
      exact absurd (Nat.lt_of_lt_of_le h1 h2) (Nat.lt_irrefl _)
    · exact hb z
  have hex' : ∀ b, b ∉ X.ex := fun b hb => by rw [hex] at hb; cases hb
  have hokB := I.inGround nb
  have fin : ∀ h', HandSPX.FlyingZ B X.outer a (Zi X.K cls d) h' → s'.heap.UpToSlots h' → CXI X.K X.prog X.w X.outer X.H_0 X.s_0 E (.ref a) { s' with heap := h' } := fun h' fl up' => by
    refine ⟨a, B, H, cls, d, rfl, fl, hokB, ⟨fun b o e n hb => nb b o (I.base.keep b o e n hb (hex' b)) (nst b o e hb), fun b o e hb => ?_, fun b o e n => I.base.free b o e n (hex' b), fun b o e hb => ?_, I.base.tups, I.base.frzs, I.base.tbls⟩,
      na, os.trans I.os, ag, hW _ _ _ _ w⟩
    · obtain ⟨_, o₀, e₀, hnf⟩ := I.ok.funs.mem hb
      rw [e] at e₀; cases e₀
      obtain ⟨sl, e1⟩ := I.base.slot b o e (I.ok.frf b hb) hb (hex' b)
      obtain ⟨sl2, e2⟩ := up b _ e1 hnf
      obtain ⟨sl3, e3⟩ := up' b _ e2 hnf
      exact ⟨sl3, e3⟩
    · obtain ⟨o', e1⟩ := I.base.there b o e (hex' b)
      exact ⟨o', nb b o' e1 (nst b o e hb)⟩
  rw [hs] at sky
  rcases sky with ⟨hB, hn, hl, oe, vs, he, hz, hd, h1⟩ | fl | hd
  · exact PXN.leaving_firstZ Zi.steady hfr hl hf he hB hn hd h1 hz fin
  · exact PXN.leaves_onZ Zi.steady hfr hf fl fin
  · exact HandSPX.leaves_heldZ hf hd fin
/-- a def's wish about errors -/
theorem takesI_of (hs : X.stack = X.env :: X.outer) (hf : X.env.frame = some X.env.locals) (hex : X.ex = []) {E₁ : Value → Shared → Prop}
    (hx : X.xe = fun e s' => wpAny (model X.prog X.w) X.A (leaving X.env e) (fun _ s'' => CXI X.K X.prog X.w X.outer X.H_0 X.s_0 E e s'') E₁ s') : TkI X (fun cls d _ H => E cls d H) := fun u s' x => by
  rw [hx]
  exact XI.leave (W := fun cls d _ H => E cls d H) (E := E) hs hf hex (fun _ _ _ _ h => h) x
end
end Px
namespace Px
open PySem PySem.Spec PyProof.Rows L2
structure Rm (k : Nat) (A : Around) : Prop where
  dp : A.depth + 3 * k + 5 < recursionLimit
  un : A.units + 16 * k + 200 < cLine
  gd : A.guards = some []
theorem Rm.h {k : Nat} {A : Around} (r : Rm k A) : L2H.RoomH k A := ⟨r.dp, r.un⟩
theorem Rm.mono {j k : Nat} {A : Around} (r : Rm k A) (h : j ≤ k) : Rm j A := ⟨by have := r.dp; omega, by have := r.un; omega, r.gd⟩
theorem gd_deeper {A : Around} {env : Env} (h : A.guards = some []) : (A.deeper env).guards = some [] := by
  first | exact h | simpa [Around.deeper, pushGuards] using h
theorem Rm.deeper {k : Nat} {A : Around} (r : Rm (k + 1) A) (env : Env) : Rm k (A.deeper env) :=
  ⟨(r.h.deeper env).dp, (r.h.deeper env).un, gd_deeper r.gd⟩
theorem Rm.depth {k : Nat} {A : Around} (r : Rm k A) : A.depth < recursionLimit := r.h.depth
structure RoomG (k : Nat) (A : Around) : Prop where
  hd : A.handled = none
  dp : A.depth + 3 * k + 5 < recursionLimit
  un : A.units + 16 * k + 200 < cLine
  gd : A.guards = some []
theorem RoomG.r {k : Nat} {A : Around} (r : RoomG k A) : Room k A := ⟨r.hd, r.dp, r.un⟩
theorem RoomG.deeper {k : Nat} {A : Around} (r : RoomG (k + 1) A) (env : Env) : RoomG k (A.deeper env) :=
  ⟨(r.r.deeper env).hd, (r.r.deeper env).dp, (r.r.deeper env).un, gd_deeper r.gd⟩
theorem RoomG.depth {k : Nat} {A : Around} (r : RoomG k A) : A.depth < recursionLimit := r.r.depth
theorem rm_of {k : Nat} {A : Around} (r : RoomG k A) : Rm k A := ⟨r.dp, r.un, r.gd⟩
structure FnOkG (P : Program) (w : World) (K : PySem.W.Frag) (mg : Str → Option Value) (base : Heap) (CX : CXT) (k : Nat) (f : Addr) (fd : FuncData) (ps : List Str) (sp : Sp) : Prop where
  len : ∀ vs H Q E, sp vs H Q E → vs.length = ps.length
  run : ∀ (A : Around) (outer : List Env) (s : Shared) (H : Hp) (args : Args) (us : List Value) (vs : List V) (Q : VK) (E : XK), RoomG k A → Env0 P w K mg base A outer s H → BindsTo s fd args (ps.zip us) → Vals vs us → sp vs H Q E →
    codeAny (model P w) A (.call (.ref f) args) (CR CX outer P w H s Q E) s
theorem fn_ofG {CX : CXT} {P : Program} {w : World} {K : PySem.W.Frag} {mg : Str → Option Value} {base : Heap} {k : Nat} {f : Addr} {name qual : Str} {params : Arguments} {body : List Stmt} {scope : Scope} {dV kV doc pm cdv ct oc : Value} {an od : Option Addr}
    {osl : Array (Option Value)} {N ps : List Str} {sp : Sp} (lk : K.lookup f = some ⟨oc, od, .func (PySem.W.fnOf name qual params body scope dV kV doc pm an cdv ct), osl⟩) (hcd : PySem.W.codeIn K cdv qual = true) (S : FnScope N ps scope)
    (len : ∀ vs H Q E, sp vs H Q E → vs.length = ps.length)
    (hbody : ∀ (A : Around) (outer : List Env) (s : Shared) (H : Hp) (vs : List V) (Q : VK) (E : XK), RoomG k (A.deeper (envOfC qual scope s.heap.objs.size f cdv)) → sp vs H Q E →
      ∃ t, PSs (cxOf CX P w K mg base N qual scope f cdv A outer s H E) body t ∧ t { nx := fun _ H' => Q .non H', rt := Q } (start N vs) H) :
    FnOkG P w K mg base CX (k + 1) f (PySem.W.fnOf name qual params body scope dV kV doc pm an cdv ct) ps sp := by
  refine ⟨len, fun A outer s H args us vs Q E hr e0 hb r hsp => ?_⟩
  have hl := len _ _ _ _ hsp
  have KX : K.In s.heap := e0.mod.kin.keeps fun b o e => (e0.bs b o e).1
  have lim : s.heap.NoLimit := e0.mod.nolimit.keeps fun b o e => (e0.bs b o e).1
  have hkind : ∀ y ∈ ps.zip us, scope.names.lookup y.1 = some .local ∨ (scope.names.lookup y.1 = some .cell ∧ ((cellsFrom (s.heap.objs.size + 1) scope.names []).lookup y.1).isSome = true) := fun ⟨n, v⟩ hy => by
    rcases S.par n (List.of_mem_zip hy).1 with q | q
    · exact .inl q
    · exact .inr ⟨q, PySem.W.cellsFrom_some _ _ _ (.inl q)⟩
  refine codeAny_call_function hr.depth (KX _ _ lk) rfl S.co S.gen rfl (PySem.W.codeRec_of KX hcd) (hb _ _ _ _ ?_)
  refine wpAny_newFunctionEnv_cells S.kind hkind fun env he s1 x => ?_
  subst he
  refine ⟨lim.keeps x.toInCall.keep, codeAny_func ?_⟩
  obtain ⟨t, ht, hq⟩ := hbody A outer s H vs Q E (hr.deeper _) hsp
  have I : Inv (cxOf CX P w K mg base N qual scope f cdv A outer s H E) [] (start N vs) H s1 := inv_start S hr.hd e0 hl r x
  refine wpAny_mono (ht.run [] s1 (start N vs) H _ I hq) (fun fl s' hs => ?_) fun e s' hs => hs
  have fin : ∀ {σ' : L2.St} {H' : Hp} {v : V} {u : Value}, Inv (cxOf CX P w K mg base N qual scope f cdv A outer s H E) [] σ' H' s' → RelV v u → Q v H' → CE outer P w H s Q u s' :=
    fun {σ' H' v u} J rv q => ⟨v, H', J.os, J.bare, J.base, J.hok, rv, q⟩
  cases fl with
  | ret u =>
    obtain ⟨v, σ', H', J, rv, q⟩ := hs
    exact fin J rv q
  | next =>
    obtain ⟨σ', H', J, q⟩ := hs
    exact fin (v := V.non) (u := Value.none) J rfl q
  | brk =>
    obtain ⟨_, _, _, q⟩ := hs
    exact False.elim q
  | cont =>
    obtain ⟨_, _, _, q⟩ := hs
    exact False.elim q
structure FnHG (P : Program) (w : World) (K : PySem.W.Frag) (mg : Str → Option Value) (base : Heap) (CX : CXT) (k : Nat) (f : Addr) (fd : FuncData) (ps : List Str) (sp : Sp) : Prop where
  len : ∀ vs H Q E, sp vs H Q E → vs.length = ps.length
  run : ∀ (A : Around) (outer : List Env) (s : Shared) (H : Hp) (args : Args) (us : List Value) (vs : List V) (Q : VK) (E : XK) (p : Addr × Obj), Rm k A → L2H.Hot1 A p → L2H.PinOk outer H s p → Env0 P w K mg base A outer s H → BindsTo s fd args (ps.zip us) → Vals vs us → sp vs H Q E →
    codeAny (model P w) A (.call (.ref f) args) (CR CX outer P w H s Q E) s
theorem fn_ofHG {CX : CXT} {P : Program} {w : World} {K : PySem.W.Frag} {mg : Str → Option Value} {base : Heap} {k : Nat} {f : Addr} {name qual : Str} {params : Arguments} {body : List Stmt} {scope : Scope} {dV kV doc pm cdv ct oc : Value} {an od : Option Addr}
    {osl : Array (Option Value)} {N ps : List Str} {sp : Sp} (lk : K.lookup f = some ⟨oc, od, .func (PySem.W.fnOf name qual params body scope dV kV doc pm an cdv ct), osl⟩) (hcd : PySem.W.codeIn K cdv qual = true) (S : FnScope N ps scope)
    (len : ∀ vs H Q E, sp vs H Q E → vs.length = ps.length)
    (hbody : ∀ (A : Around) (outer : List Env) (s : Shared) (H : Hp) (vs : List V) (Q : VK) (E : XK) (p : Addr × Obj), L2H.Hot1 A p → Rm k (A.deeper (envOfC qual scope s.heap.objs.size f cdv)) → sp vs H Q E →
      ∃ t, PSs (L2H.cxH CX P w K mg base N qual scope f cdv A outer s H E p) body t ∧ t { nx := fun _ H' => Q .non H', rt := Q } (L2.start N vs) H) :
    FnHG P w K mg base CX (k + 1) f (PySem.W.fnOf name qual params body scope dV kV doc pm an cdv ct) ps sp := by
  refine ⟨len, fun A outer s H args us vs Q E p hr hot hpin e0 hb r hsp => ?_⟩
  have hl := len _ _ _ _ hsp
  have KX : K.In s.heap := e0.mod.kin.keeps fun b o e => (e0.bs b o e).1
  have lim : s.heap.NoLimit := e0.mod.nolimit.keeps fun b o e => (e0.bs b o e).1
  have hkind : ∀ y ∈ ps.zip us, scope.names.lookup y.1 = some .local ∨ (scope.names.lookup y.1 = some .cell ∧ ((cellsFrom (s.heap.objs.size + 1) scope.names []).lookup y.1).isSome = true) := fun ⟨n, v⟩ hy => by
    rcases S.par n (List.of_mem_zip hy).1 with q | q
    · exact .inl q
    · exact .inr ⟨q, PySem.W.cellsFrom_some _ _ _ (.inl q)⟩
  refine codeAny_call_function hr.depth (KX _ _ lk) rfl S.co S.gen rfl (PySem.W.codeRec_of KX hcd) (hb _ _ _ _ ?_)
  refine wpAny_newFunctionEnv_cells S.kind hkind fun env he s1 x => ?_
  subst he
  refine ⟨lim.keeps x.toInCall.keep, codeAny_func ?_⟩
  obtain ⟨t, ht, hq⟩ := hbody A outer s H vs Q E p hot (hr.deeper _) hsp
  have I : Inv (L2H.cxH CX P w K mg base N qual scope f cdv A outer s H E p) [] (L2.start N vs) H s1 := L2H.inv_startH S hpin e0 hl r x
  refine wpAny_mono (ht.run [] s1 (L2.start N vs) H _ I hq) (fun fl s' hs => ?_) fun e s' hs => hs
  have fin : ∀ {σ' : L2.St} {H' : Hp} {v : V} {u : Value}, Inv (L2H.cxH CX P w K mg base N qual scope f cdv A outer s H E p) [] σ' H' s' → RelV v u → Q v H' → CE outer P w H s Q u s' :=
    fun {σ' H' v u} J rv q => ⟨v, H', J.os, J.bare, J.base, J.hok, rv, q⟩
  cases fl with
  | ret u =>
    obtain ⟨v, σ', H', J, rv, q⟩ := hs
    exact fin J rv q
  | next =>
    obtain ⟨σ', H', J, q⟩ := hs
    exact fin (v := V.non) (u := Value.none) J rfl q
  | brk =>
    obtain ⟨_, _, _, q⟩ := hs
    exact False.elim q
  | cont =>
    obtain ⟨_, _, _, q⟩ := hs
    exact False.elim q
def FnRG (P : Program) (w : World) (K : PySem.W.Frag) (mg : Str → Option Value) (base : Heap) (CX : CXT) (k : Nat) (f : Addr) (sp : Sp) : Prop :=
  ∀ (A : Around) (outer : List Env) (s : Shared) (H : Hp) (us : List Value) (vs : List V) (Q : VK) (E : XK), RoomG k A → Env0 P w K mg base A outer s H → Vals vs us → sp vs H Q E → codeAny (model P w) A (.call (.ref f) ⟨us, []⟩) (CR CX outer P w H s Q E) s
theorem FnRG.imp {P : Program} {w : World} {K : PySem.W.Frag} {mg : Str → Option Value} {base : Heap} {CX : CXT} {k : Nat} {f : Addr} {sp sp' : Sp} (F : FnRG P w K mg base CX k f sp) (h : ∀ vs H Q E, sp' vs H Q E → sp vs H Q E) : FnRG P w K mg base CX k f sp' :=
  fun A outer s H us vs Q E hr e0 r q => F A outer s H us vs Q E hr e0 r (h _ _ _ _ q)
section
variable {CX : CXT} {P : Program} {w : World} {K : PySem.W.Frag} {mg : Str → Option Value} {base : Heap} {k : Nat} {f : Addr} {name qual : Str} {params : Arguments} {body : List Stmt} {scope : Scope} {dV kV doc pm cdv ct oc : Value} {an od : Option Addr}
  {osl : Array (Option Value)} {N ps : List Str} {sp : Sp}
theorem fn_starG {pv : Str} (lk : K.lookup f = some ⟨oc, od, .func (PySem.W.fnOf name qual params body scope dV kV doc pm an cdv ct), osl⟩) (hcd : PySem.W.codeIn K cdv qual = true) (S : FnScope N (ps ++ [pv]) scope) (hCX : StX.CXUp CX)
    (hb : ∀ us rest : List Value, us.length = ps.length → bindArgs (PySem.W.fnOf name qual params body scope dV kV doc pm an cdv ct) ⟨us ++ rest, []⟩ = (newTuple rest >>= fun t => pure (ps.zip us ++ [(pv, t)])))
    (hbody : ∀ (A : Around) (outer : List Env) (s : Shared) (H : Hp) (vs : List V) (Q : VK) (E : XK), RoomG k (A.deeper (envOfC qual scope s.heap.objs.size f cdv)) → sp vs H Q E →
      ∃ t, PSs (cxOf CX P w K mg base N qual scope f cdv A outer s H E) body t ∧ t { nx := fun _ H' => Q .non H', rt := Q } (start N vs) H) :
    FnRG P w K mg base CX (k + 1) f (fun vs H Q E => ∃ ws rest, vs = ws ++ rest ∧ ws.length = ps.length ∧ rest.length ≤ sizeLine ∧ ∀ p, H p = Option.none → sp (ws ++ [V.ref p]) (upd H p (.tup rest)) Q E) := by
  intro A outer s H us vs Q E hr e0 r hsp
  obtain ⟨ws, rest, ev, hl, hz, hq⟩ := hsp
  subst ev
  obtain ⟨u1, u2, eu, r1, r2⟩ := StX.vals_split r
  subst eu
  have hn : H s.heap.objs.size = Option.none := e0.hok.fresh (Nat.le_refl _)
  have hl1 : u1.length = ps.length := by rw [← r1.length]; exact hl
  have hl2 : u2.length ≤ sizeLine := by rw [← r2.length]; exact hz
  refine StX.run_bnd lk hcd S hr.r e0 (G := fun xs H2 => ∃ p, H p = Option.none ∧ xs = ws ++ [V.ref p] ∧ H2 = upd H p (.tup rest)) (fun A' Ex Q' h => ?_) fun s2 H2 xs ⟨p, hp, ex, eH⟩ _ => ?_
  · rw [hb u1 u2 hl1]
    refine wpAny_bind (wpAny_newTuple (wpAny_pure ?_) hl2)
    have new : ObjOk P w (upd H s.heap.objs.size (.tup rest)) (s.heap.push ({ cls := .type "tuple", data := .seq u2.toArray } : Obj)) s.heap.objs.size (.tup rest) := ⟨hz, u2, r2, ⟨_, Heap.get?_push_size _ rfl, rfl, _, rfl⟩⟩
    have un := StX.un_laid (fs := frs outer) (s := s) (o := ({ cls := .type "tuple", data := .seq u2.toArray } : Obj)) (u := .tup rest) hn
    have z := h _ _ (ws ++ [V.ref s.heap.objs.size]) (u1 ++ [Value.ref s.heap.objs.size]) (StX.env0_laid e0 new) un rfl (fun e s' => hCX outer s H _ _ E e s' un (fun b o q => Heap.get?_push_of_some _ q) rfl) (r1.append (.cons rfl .nil))
      (by rw [List.length_append, List.length_append, hl] <;> rfl) ⟨_, hn, rfl, rfl⟩
    rw [List.zip_append hl1.symm] at z
    exact z
  · subst ex eH
    exact hbody A outer s2 _ _ Q E (hr.deeper _) (hq p hp)
end
theorem law_callTsG {P : Program} {w : World} {K : PySem.W.Frag} {mg mb : Str → Option Value} {CX : CXT} {k : Nat} {fa a : Addr} {cs : List (Addr × Addr)} {fd : FuncData} {x : Str} {sp : Sp} {s₁ : Shared} {vs : List Value} {ns : List Int}
    (KX : K.In s₁.heap) (hns : s₁.heap.Ns mainGlobals mg) (hb : s₁.heap.Ns builtinsNs mb) (hbb : ∀ x : Str, x ≠ "__name__" → mb x = bootBuiltins x) (hlim : s₁.heap.NoLimit) (hg : s₁.gens = #[])
    (hT : ∀ p ∈ cs, s₁.heap.get? p.2 = some { cls := .none, data := .fields #[] }) (nT : ∀ p ∈ cs, K.lookup p.2 = none) (C : ∀ p ∈ cs, PySem.W.CodeHd s₁.heap p.1 p.2)
    (hbm : ∃ (bm : Addr) (ob : Obj), mg "__builtins__" = some (.ref bm) ∧ bm ≠ builtinsNs ∧ s₁.heap.get? bm = some ob ∧ ob.cls = .type "module" ∧ ob.dict = some builtinsNs ∧ ob.data = .plain)
    (ha : s₁.heap.get? a = some { cls := .type "list", data := .seq vs.toArray }) (hi : IntsAre vs ns) (hl : ns.length ≤ sizeLine) (hr : RoomG k callerA)
    (F : ∀ base : Heap, K.In base → base.Ns mainGlobals mg → (∀ p ∈ cs, LamX.TabB base mg p.1 p.2) → FnOkG P w K mg base CX k fa fd [x] sp) (hbind : ∀ (s : Shared) (u : Value), BindsTo s fd ⟨[u], []⟩ [(x, u)])
    (hsp : ∀ H : Hp, (∀ p ∈ cs, H p.2 = some (.tbl #[])) → SqL K H a (ns.map V.int) → sp [.ref a] H (fun v _ => v = .bl true) fun _ _ _ => False)
    (hCX : ∀ H e s', CX [] H s₁ (fun _ _ _ => False) e s' → False) :
    codeAny (model P w) callerA (.call (.ref fa) ⟨[.ref a], []⟩) (fun r s' => r = .ok (.ret (.bool true)) ∧ OldK s₁.heap s'.heap ∧ s'.os = s₁.os ∧ AllBare s'.gens) s₁ := by
  have rv := vals_ints hi
  have lenV := hi.length
  have isT : ∀ b : Addr, b ∈ cs.map (·.2) → s₁.heap.get? b = some { cls := .none, data := .fields #[] } := fun b hb => by
    obtain ⟨p, hp, e⟩ := List.mem_map.mp hb
    rw [← e]
    exact hT p hp
  have aT : a ∉ cs.map (·.2) := fun z => by
    have q := isT a z
    rw [ha] at q
    have z' : Data.seq vs.toArray _ = Data.fields #[] := congrArg Obj.data (Option.some.inj q)
    cases z'
  have memT : ∀ p ∈ cs, p.2 ∈ cs.map (·.2) := fun p hp => List.mem_map.mpr ⟨p, hp, rfl⟩
  -- from an abstract heap in which nothing but the script and the tables may be tracked
  have core : ∀ H : Hp, (∀ p ∈ cs, H p.2 = some (.tbl #[])) → (∀ b, H b = none ∨ b ∈ cs.map (·.2) ∨ ∃ o xs, H b = some (.frz o (.lst xs))) → SqL K H a (ns.map V.int) → HOk P w H s₁.heap → (∀ b, H b ≠ none → b = a ∨ b ∈ cs.map (·.2)) → (H a ≠ none → K.lookup a = none) →
      codeAny (model P w) callerA (.call (.ref fa) ⟨[.ref a], []⟩) (fun r s' => r = .ok (.ret (.bool true)) ∧ OldK s₁.heap s'.heap ∧ s'.os = s₁.os ∧ AllBare s'.gens) s₁ := by
    intro H hH hO hS hok hA hK
    have base_of : ∀ {b : Addr} {o : Obj}, s₁.heap.get? b = some o → H b = none → (hidT s₁.heap H).get? b = some o := fun e n => hidT_get e n
    have noD : ∀ {b : Addr} {o : Obj}, s₁.heap.get? b = some o → (∀ vs n, o.data ≠ .seq vs n) → o.data ≠ .fields #[] → H b = none := fun {b o} e h1 h2 => by
      cases q : H b with
      | none => rfl
      | some u =>
        rcases hA b (by rw [q]; simp) with e' | e'
        · rw [e', ha] at e
          cases e
          exact (h1 _ _ rfl).elim
        · rw [isT b e'] at e
          cases e
          exact (h2 rfl).elim
    have noA : ∀ {b : Addr} {o : Obj} {es : Array DictEntry} {ep : Nat}, s₁.heap.get? b = some o → o.data = .dict es ep → H b = none := fun {b o es ep} e d => by
      refine noD e (fun vs n z => ?_) fun z => ?_
      · rw [d] at z
        cases z
      · rw [d] at z
        cases z
    have nsK : ∀ {b : Addr} {m : Str → Option Value}, s₁.heap.Ns b m → (hidT s₁.heap H).Ns b m := fun {b m} ⟨o, es, ep, e, d, r⟩ => ⟨o, es, ep, base_of e (noA e d), d, r⟩
    have hKb : K.In (hidT s₁.heap H) := fun b o e => base_of (KX b o e) (by
      cases q : H b with
      | none => rfl
      | some u =>
        rcases hA b (by rw [q]; simp) with e' | e'
        · rw [e'] at e q
          rw [hK (by rw [q]; simp)] at e
          cases e
        · obtain ⟨p, hp, ep⟩ := List.mem_map.mp e'
          rw [← ep, nT p hp] at e
          cases e)
    have hM : L2.Mod K mg (hidT s₁.heap H) := ⟨hKb, nsK hns, ⟨mb, nsK hb, hbb⟩, let ⟨mc, h1, h2⟩ := hlim; ⟨mc, nsK h1, h2⟩⟩
    have TB : ∀ p ∈ cs, LamX.TabB (hidT s₁.heap H) mg p.1 p.2 := fun p hp => by
      have hTp := hT p hp
      refine ⟨?_, ?_, fun z => ?_⟩
      · obtain ⟨o, us, file, tf, flags, tg, inF, text, tt, e1, r1, r2, r3, r4, r5, r6, r7, r8, hne⟩ := C p hp
        refine ⟨o, us, file, tf, flags, tg, inF, text, tt, base_of e1 (noD e1 (fun vs n z => ?_) fun z => ?_), r1, r2, r3, r4, r5, r6, r7, r8, hne⟩
        · rw [r2] at z
          cases z
        · rw [r2] at z
          cases z
          simp at r3
      · obtain ⟨bm, ob, b1, b2, b3, b4, b5, b6⟩ := hbm
        have nG : bm ≠ mainGlobals := fun q => by
          obtain ⟨o, es, ep, e, hd, _⟩ := hns
          rw [q, e] at b3
          cases b3
          rw [hd] at b6
          cases b6
        have nP : bm ≠ p.2 := fun q => by
          rw [q, hTp] at b3
          cases b3
          cases b6
        refine ⟨bm, ob, b1, b2, nG, nP, base_of b3 (noD b3 (fun vs n z => ?_) fun z => ?_), b4, b5, b6⟩
        · rw [b6] at z
          cases z
        · rw [b6] at z
          cases z
      · obtain ⟨o, es, ep, e, hd, _⟩ := hns
        rw [z, hTp] at e
        cases e
        cases hd
    have e0 : Env0 P w K mg (hidT s₁.heap H) callerA [] s₁ H := ⟨rfl, hM, fun b o e => of_hidT e, Nat.le_of_eq (hidT_size _ _), trivial, fun b hb => absurd (show b ∈ ([] : List Addr) from hb) (by simp), hok, .of_eq hg⟩
    refine codeAny_mono ((F _ hKb (nsK hns) TB).run callerA [] s₁ H ⟨[.ref a], []⟩ [.ref a] [.ref a] _ _ hr e0 (hbind s₁ (.ref a)) (.cons rfl .nil) (hsp H hH hS)) fun r s' h => ?_
    cases r with
    | error e => exact (hCX H e s' h).elim
    | ok fl =>
      cases fl with
      | next => exact False.elim h
      | brk => exact False.elim h
      | cont => exact False.elim h
      | ret u =>
        obtain ⟨v, H', os, bare, un, hok', r', q⟩ := h
        have q' : v = .bl true := q
        subst q'
        obtain rfl : u = Value.bool true := r'
        have key : ∀ b o, b ∉ cs.map (·.2) → s₁.heap.get? b = some o → s'.heap.get? b = some o := fun b o nb e => by
          cases q : H b with
          | none => exact un.keep b o e q (by intro z; exact absurd (show b ∈ ([] : List Addr) from z) (by simp)) (by simp)
          | some u =>
            rcases hO b with z | z | ⟨ob, xs, z⟩
            · rw [q] at z; cases z
            · exact absurd z nb
            · have z2 := un.frzs b ob _ z
              obtain ⟨e1, _⟩ := hok b _ z
              obtain ⟨e2, _⟩ := hok' b _ z2
              rw [e] at e1; cases e1
              exact e2
        have grown : ∀ p ∈ cs, ∃ more : Array Value, s'.heap.get? p.2 = some { cls := .none, data := .fields more } := fun p hp => by
          obtain ⟨more, z⟩ := un.tbls p.2 #[] (hH p hp)
          exact ⟨_, hok' p.2 _ z⟩
        refine ⟨rfl, ⟨fun b o e => ?_, fun b o e => ?_⟩, os, bare⟩
        · by_cases hb : b ∈ cs.map (·.2)
          · obtain ⟨p, hp, ep⟩ := List.mem_map.mp hb
            obtain ⟨more, hm⟩ := grown p hp
            rw [← ep] at e ⊢
            rw [hT p hp] at e
            cases e
            exact .inr (.inl ⟨((C p hp).tab (hT p hp)).isCodeTable, rfl, #[], more, rfl, by rw [Array.empty_append]; exact hm⟩)
          · exact .inl (key b o hb e)
        · by_cases hb : b ∈ cs.map (·.2)
          · obtain ⟨p, hp, ep⟩ := List.mem_map.mp hb
            obtain ⟨more, hm⟩ := grown p hp
            rw [← ep]
            exact ⟨_, hm⟩
          · exact ⟨o, key b o hb e⟩
  cases hk : K.lookup a with
  | some o =>
    have e := KX a o hk
    rw [ha] at e
    cases e
    refine core (fun b => if b ∈ cs.map (·.2) then some (.tbl #[]) else none) (fun p hp => if_pos (memT p hp)) (fun b => ?_) (.inr ⟨_, vs.toArray, _, hk, rfl, rfl, rfl, by rw [List.size_toArray, lenV]; exact hl, by simpa using rv⟩) (fun b u z => ?_) (fun b z => ?_) fun z => absurd (show (if a ∈ cs.map (·.2) then some (HO.tbl #[]) else none) = none from if_neg aT) z
    · by_cases hb : b ∈ cs.map (·.2)
      · exact .inr (.inl hb)
      · exact .inl (if_neg hb)
    · by_cases hb : b ∈ cs.map (·.2)
      · have z' := (if_pos hb).symm.trans z
        cases z'
        exact isT b hb
      · have z' := (if_neg hb).symm.trans z
        cases z'
    · by_cases hb : b ∈ cs.map (·.2)
      · exact .inr hb
      · exact absurd (if_neg hb) z
  | none =>
    refine core (fun b => if b = a then some (.frz { cls := .type "list", data := .seq vs.toArray } (.lst (ns.map V.int))) else if b ∈ cs.map (·.2) then some (.tbl #[]) else none) (fun p hp => (if_neg (show ¬ p.2 = a from fun z => aT (by rw [← z]; exact memT p hp))).trans (if_pos (memT p hp))) (fun b => ?_)
      (.inl (.inr ⟨{ cls := .type "list", data := .seq vs.toArray }, if_pos rfl⟩)) (fun b u z => ?_) (fun b z => ?_) fun _ => hk
    · by_cases hb : b = a
      · exact .inr (.inr ⟨_, _, if_pos hb⟩)
      · by_cases hb2 : b ∈ cs.map (·.2)
        · exact .inr (.inl hb2)
        · exact .inl ((if_neg hb).trans (if_neg hb2))
    · by_cases hb : b = a
      · have z' := (if_pos hb).symm.trans z
        cases z'
        rw [hb]
        exact ⟨ha, by rw [List.length_map]; exact hl, vs, _, rv, ha⟩
      · have z1 := (if_neg hb).symm.trans z
        by_cases hb2 : b ∈ cs.map (·.2)
        · have z' := (if_pos hb2).symm.trans z1
          cases z'
          exact isT b hb2
        · have z' := (if_neg hb2).symm.trans z1
          cases z'
    · by_cases hb : b = a
      · exact .inl hb
      · by_cases hb2 : b ∈ cs.map (·.2)
        · exact .inr hb2
        · exact absurd ((if_neg hb).trans (if_neg hb2)) z
end Px
namespace Px
open PySem PySem.Spec PyProof.Rows L2
abbrev XV := Cl × List PV
abbrev QV := PV → Mu → Prop
abbrev QX := XV → Mu → Prop
abbrev DE := En → Mu → QV → QX → Prop
abbrev DA := En → Mu → (List PV → Mu → Prop) → QX → Prop
abbrev DT := En → Mu → (Bool → Mu → Prop) → QX → Prop
/-- what a def promises: arguments, store, the wishes -/
abbrev Ct := List PV → Mu → QV → QX → Prop
structure br (b : Bool) (A B : Prop) : Prop where
  t : b = true → A
  f : b = false → B
/-- a lock: what is within is not looked into -/
structure Lk (A : Prop) : Prop where
  un : A
theorem br_of {b : Bool} {A B : Prop} (h1 : b = true → A) (h2 : b = false → B) : br b A B := ⟨h1, h2⟩
def XRep (K : Frg) (B : BX) (G : Hp) (xv : XV) (d : Option Addr) : Prop :=
  xcB K xv.1 = true ∧ ((xv.1.flds = [] ∧ xv.2 = [] ∧ d = none) ∨ ∃ dd vs, d = some dd ∧ G dd = some (.xd (xv.1.flds.zip vs)) ∧ vs.length = xv.1.flds.length ∧ Reps K B G xv.2 vs)
def GoodV (K : Frg) (B : BX) (μ : Mu) (G H : Hp) (q : QV) (Q : VK) : Prop := ∀ p v μ' G' H', q p μ' → Go K B μ G H μ' G' H' → Rep K B G' p v → Q v H'
def GoodX (K : Frg) (W : WX) (B : BX) (μ : Mu) (G H : Hp) (σ : L2.St) (x : QX) : Prop := ∀ xv d μ' G' H', x xv μ' → Go K B μ G H μ' G' H' → XRep K B G' xv d → W (.ref (ca K xv.1)) d σ H'
def GoodB (K : Frg) (B : BX) (μ : Mu) (G H : Hp) (q : Bool → Mu → Prop) (Q : Bool → Hp → Prop) : Prop := ∀ b μ' G' H', q b μ' → Go K B μ G H μ' G' H' → Q b H'
def GoodA (K : Frg) (B : BX) (μ : Mu) (G H : Hp) (q : List PV → Mu → Prop) (Q : List V → Hp → Prop) : Prop := ∀ ps vs μ' G' H', q ps μ' → Go K B μ G H μ' G' H' → Reps K B G' ps vs → Q vs H'
section
variable {K : Frg} {W : WX} {B : BX} {μ μ1 : Mu} {G H G1 H1 : Hp} {σ : L2.St}
theorem GoodV.go {q : QV} {Q : VK} (h : GoodV K B μ G H q Q) (g : Go K B μ G H μ1 G1 H1) : GoodV K B μ1 G1 H1 q Q := fun p v μ' G' H' hp g' r => h p v μ' G' H' hp (g.trans g') r
theorem GoodX.go {x : QX} (h : GoodX K W B μ G H σ x) (g : Go K B μ G H μ1 G1 H1) : GoodX K W B μ1 G1 H1 σ x := fun p v μ' G' H' hp g' r => h p v μ' G' H' hp (g.trans g') r
theorem GoodB.go {q : Bool → Mu → Prop} {Q : Bool → Hp → Prop} (h : GoodB K B μ G H q Q) (g : Go K B μ G H μ1 G1 H1) : GoodB K B μ1 G1 H1 q Q := fun b μ' G' H' hb g' => h b μ' G' H' hb (g.trans g')
theorem GoodA.go {q : List PV → Mu → Prop} {Q : List V → Hp → Prop} (h : GoodA K B μ G H q Q) (g : Go K B μ G H μ1 G1 H1) : GoodA K B μ1 G1 H1 q Q := fun p v μ' G' H' hp g' r => h p v μ' G' H' hp (g.trans g') r
end
def tE (K : Frg) (W : WX) (d : DE) : TE := fun σ H Q => ∃ (B : BX) (ρ : En) (μ : Mu) (G : Hp) (q : QV) (x : QX), Rel K B ρ μ σ G H ∧ d ρ μ q x ∧ GoodV K B μ G H q Q ∧ GoodX K W B μ G H σ x
def tA (K : Frg) (W : WX) (d : DA) : TA := fun σ H Q => ∃ (B : BX) (ρ : En) (μ : Mu) (G : Hp) (q : List PV → Mu → Prop) (x : QX), Rel K B ρ μ σ G H ∧ d ρ μ q x ∧ GoodA K B μ G H q Q ∧ GoodX K W B μ G H σ x
def tT (K : Frg) (W : WX) (d : DT) : TT := fun σ H Q => ∃ (B : BX) (ρ : En) (μ : Mu) (G : Hp) (q : Bool → Mu → Prop) (x : QX), Rel K B ρ μ σ G H ∧ d ρ μ q x ∧ GoodB K B μ G H q Q ∧ GoodX K W B μ G H σ x
abbrev EJ (X : Cx) (W : WX) (e : Expr) (d : DE) : Prop := PE X e (tE X.K W d)
abbrev AJ (X : Cx) (W : WX) (es : List Expr) (d : DA) : Prop := PA X es (tA X.K W d)
abbrev TJ (X : Cx) (W : WX) (e : Expr) (d : DT) : Prop := PT X e (tT X.K W d)
abbrev WJ (X : Cx) (W : WX) (e : Expr) (d : DT) : Prop := PW X e (tT X.K W d)
theorem pe_imp {X : Cx} {e : Expr} {t t' : TE} (h : PE X e t) (i : ∀ σ H Q, t' σ H Q → t σ H Q) : PE X e t' := ⟨fun pins s σ H Q J z => h.run pins s σ H Q J (i σ H Q z)⟩
theorem pt_imp {X : Cx} {e : Expr} {t t' : TT} (h : PT X e t) (i : ∀ σ H Q, t' σ H Q → t σ H Q) : PT X e t' := ⟨fun pins s σ H Q J z => h.run pins s σ H Q J (i σ H Q z)⟩
theorem pw_imp {X : Cx} {e : Expr} {t t' : TT} (h : PW X e t) (i : ∀ σ H Q, t' σ H Q → t σ H Q) : PW X e t' := ⟨fun wh pins s σ H Q J z => h.run wh pins s σ H Q J (i σ H Q z)⟩
theorem pa_imp {X : Cx} {es : List Expr} {t t' : TA} (h : PA X es t) (i : ∀ σ H Q, t' σ H Q → t σ H Q) : PA X es t' := ⟨fun pos pins s σ H Q J z => h.run pos pins s σ H Q J (i σ H Q z)⟩
def dVar (i : Nat) : DE := fun ρ μ q _ => match nth ρ i with
  | some p => q p μ
  | none => False
theorem dVar_inv {i : Nat} {ρ : En} {μ : Mu} {q : QV} {x : QX} (h : dVar i ρ μ q x) : ∃ p, ρ[i]? = some (some p) ∧ q p μ := by
  unfold dVar at h
  cases e : nth ρ i with
  | none => rw [e] at h; exact h.elim
  | some p => rw [e] at h; exact ⟨p, nth_some e, h⟩
def dC (p : PV) : DE := fun _ μ q _ => q p μ
section
variable {X : Cx} {W : WX} {pos : Pos}
theorem e_var (i : Nat) {x : Str} (hN : X.N[i]? = some x := by rfl) (hv : Vis X.env.scope x := by first | exact Or.inl rfl | exact Or.inr (Or.inl rfl) | exact Or.inr (Or.inr rfl)) (h1 : (x == ("__debug__" : Str)) = false := by decide) (h2 : (x == ("__classdict__" : Str)) = false := by decide) :
    EJ X W (.Name x pos) (dVar i) := pe_imp (pe_var hN hv h1 h2) fun σ H Q ⟨B, ρ, μ, G, q, z, R, h, gv, gx⟩ => by
  obtain ⟨p, e, hp⟩ := dVar_inv h
  obtain ⟨v, e1, r⟩ := R.at_ i _ e
  exact ⟨v, e1, gv p v μ G H hp (.refl R.ok) r⟩
theorem e_c {e : Expr} {v : V} {p : PV} (h : PE X e (tC v)) (r : ∀ B G, Rep X.K B G p v) : EJ X W e (dC p) := pe_imp h fun σ H Q ⟨B, ρ, μ, G, q, z, R, hp, gv, gx⟩ => gv p v μ G H hp (.refl R.ok) (r _ _)
theorem e_int {i : Int} {j : Nat} : EJ X W (.Constant (.int i) j pos) (dC (.int i)) := e_c pe_int fun _ _ => rep_int i
theorem e_bl {i : Bool} {j : Nat} : EJ X W (.Constant (.bool i) j pos) (dC (.bl i)) := e_c pe_bl fun _ _ => rep_bl i
theorem e_non {j : Nat} : EJ X W (.Constant .none j pos) (dC .non) := e_c pe_non fun _ _ => rep_non
theorem e_str {i : Str} {j : Nat} : EJ X W (.Constant (.str i) j pos) (dC (.str i)) := e_c pe_str fun _ _ => rep_str i
/-- a class of the module, as a value -/
theorem e_cls (c : Cl) (kn : knB X.K c = true) (hm : X.mg c.name = some (.ref (ca X.K c))) (hg : Gl X c.name := by rfl) (h1 : (c.name == ("__debug__" : Str)) = false := by decide) : EJ X W (.Name c.name pos) (dC (.cls c)) := e_c (pe_glob hg hm (show RelV (.ref (ca X.K c)) _ from rfl) h1) fun _ _ => rep_cls c kn
end
abbrev F2 := Mu → PV → PV → (PV → Prop) → Prop
abbrev FO := PV → PV → Mu → QV → QX → Prop
def OpJ (X : Cx) (W : WX) (op : Value → Value → Sem Value) (f : FO) : Prop :=
  ∀ (pins : List (Addr × Obj)) (s : Shared) (σ : L2.St) (H : Hp) (B : BX) (ρ : En) (μ : Mu) (G : Hp) (a b : PV) (va vb : V) (u w : Value) (q : QV) (x : QX) (Q : VK), Inv X pins σ H s → Rel X.K B ρ μ σ G H → Rep X.K B G a va → Rep X.K B G b vb → RelV va u → RelV vb w →
    f a b μ q x → GoodV X.K B μ G H q Q → GoodX X.K W B μ G H σ x → wpAny (model X.prog X.w) X.A (op u w) (EP X pins σ Q) X.xe s
def dBin (f : FO) (da db : DE) : DE := fun ρ μ q x => da ρ μ (fun a μ1 => db ρ μ1 (fun b μ2 => f a b μ2 q x) x) x
/-- f tells what the reading r asks -/
def POp (K : Frg) (r : R2) (f : F2) : Prop := ∀ (B : BX) (μ : Mu) (G H : Hp) (a b : PV) (va vb : V) (q : PV → Prop) (Q : VK), Ok K B μ G H → Rep K B G a va → Rep K B G b vb → f μ a b q → (∀ p v G' H', q p → Go K B μ G H μ G' H' → Rep K B G' p v → Q v H') → r va vb H Q
def fo (f : F2) : FO := fun a b μ q _ => f μ a b (fun p => q p μ)
section
variable {X : Cx} {W : WX} {pos : Pos} {a b : Expr} {da db : DE} {r : R2}
theorem OpJ.of {op : Value → Value → Sem Value} {f : F2} (ho : OpR X op r) (hp : POp X.K r f) : OpJ X W op (fo f) := fun pins s σ H B ρ μ G a b va vb u w q x Q J R ra rb ru rw' h gv gx =>
  ho pins s σ H va vb u w Q J ru rw' (hp B μ G H a b va vb _ Q R.ok ra rb h fun p v G' H' hq g rp => gv p v μ G' H' hq g rp)
theorem OpJ.or {op : Value → Value → Sem Value} {f g h : FO} (hf : OpJ X W op f) (hg : OpJ X W op g) (i : ∀ a b μ q x, h a b μ q x → f a b μ q x ∨ g a b μ q x) : OpJ X W op h := fun pins s σ H B ρ μ G a b va vb u w q x Q J R ra rb ru rw' z gv gx =>
  (i a b μ q x z).elim (fun z => hf pins s σ H B ρ μ G a b va vb u w q x Q J R ra rb ru rw' z gv gx) fun z => hg pins s σ H B ρ μ G a b va vb u w q x Q J R ra rb ru rw' z gv gx
theorem OpJ.imp {op : Value → Value → Sem Value} {f h : FO} (hf : OpJ X W op f) (i : ∀ a b μ q x, h a b μ q x → f a b μ q x) : OpJ X W op h := hf.or hf fun a b μ q x z => .inl (i a b μ q x z)
/-- b's reading, a's value known -/
def rB (K : Frg) (W : WX) (f : FO) (db : DE) (Q : VK) (σ : L2.St) (va : V) (H1 : Hp) : Prop := ∃ (B : BX) (ρ : En) (μ : Mu) (G : Hp) (a : PV) (q : QV) (z : QX), Rel K B ρ μ σ G H1 ∧ Rep K B G a va ∧ db ρ μ (fun b μ2 => f a b μ2 q z) z ∧ GoodV K B μ G H1 q Q ∧ GoodX K W B μ G H1 σ z
theorem rB_of {K : Frg} {W : WX} {f : FO} {da db : DE} {σ : L2.St} {H : Hp} {Q : VK} (h : tE K W (dBin f da db) σ H Q) : tE K W da σ H (rB K W f db Q σ) := by
  obtain ⟨B, ρ, μ, G, q, x, R, h, gv, gx⟩ := h
  exact ⟨B, ρ, μ, G, _, x, R, h, fun p v μ1 G1 H1 h1 g1 r1 => ⟨B, ρ, μ1, G1, p, q, x, R.go g1, r1, h1, gv.go g1, gx.go g1⟩, gx⟩
/-- both known: what is left is the sign -/
def rAB (K : Frg) (W : WX) (f : FO) (Q : VK) (σ : L2.St) (va vb : V) (H1 : Hp) : Prop := ∃ (B : BX) (ρ : En) (μ : Mu) (G : Hp) (a b : PV) (q : QV) (z : QX), Rel K B ρ μ σ G H1 ∧ Rep K B G a va ∧ Rep K B G b vb ∧ f a b μ q z ∧ GoodV K B μ G H1 q Q ∧ GoodX K W B μ G H1 σ z
theorem rAB_of {K : Frg} {W : WX} {f : FO} {db : DE} {σ : L2.St} {H : Hp} {Q : VK} {va : V} (h : rB K W f db Q σ va H) : tE K W db σ H (rAB K W f Q σ va) := by
  obtain ⟨B, ρ, μ, G, a, q, x, R, ra, h, gv, gx⟩ := h
  exact ⟨B, ρ, μ, G, _, x, R, h, fun p v μ1 G1 H1 h1 g1 r1 => ⟨B, ρ, μ1, G1, a, p, q, x, R.go g1, ra.mono g1.gx, r1, h1, gv.go g1, gx.go g1⟩, gx⟩
theorem OpJ.run {f : FO} {op : Value → Value → Sem Value} (ho : OpJ X W op f) {pins : List (Addr × Obj)} {s : Shared} {σ : L2.St} {H : Hp} {Q : VK} {va vb : V} {u w : Value} (J : Inv X pins σ H s) (ru : RelV va u) (rw' : RelV vb w) (h : rAB X.K W f Q σ va vb H) : wpAny (model X.prog X.w) X.A (op u w) (EP X pins σ Q) X.xe s := by
  obtain ⟨B, ρ, μ, G, a, b, q, x, R, ra, rb, h, gv, gx⟩ := h
  exact ho pins s σ H B ρ μ G a b va vb u w q x Q J R ra rb ru rw' h gv gx
theorem e_bin {op : Operator} {f : FO} (ho : OpJ X W (binaryOp op) f) (ha : EJ X W a da) (hb : EJ X W b db) : EJ X W (.BinOp a op b pos) (dBin f da db) := by
  refine ⟨fun pins s σ H Q J h => ?_⟩
  exact wpAny_BinOp (thn (ha.run pins s σ H _ J (rB_of h)) fun u s1 ⟨va, H1, J1, ru, h1⟩ => thn (hb.run pins s1 σ H1 _ J1 (rAB_of h1)) fun w s2 ⟨vb, H2, J2, rw', h2⟩ => ho.run J2 ru rw' h2)
end
end Px
namespace Px
open PySem PySem.Spec PyProof.Rows L2
def qB (q : Bool → Mu → Prop) : QV := fun p μ => match p with
  | .bl b => q b μ
  | _ => False
theorem qB_inv {q : Bool → Mu → Prop} {p : PV} {μ : Mu} (h : qB q p μ) : ∃ b, p = .bl b ∧ q b μ := by
  cases p <;> first | exact h.elim | exact ⟨_, rfl, h⟩
/-- a value that is True or False, as a test -/
def dB (d : DE) : DT := fun ρ μ q x => d ρ μ (qB q) x
theorem tb_of {K : Frg} {W : WX} {t : TE} {d : DE} {σ : L2.St} {H : Hp} {Q : Bool → Hp → Prop} (ht : ∀ σ H Q, tE K W d σ H Q → t σ H Q) (h : tT K W (dB d) σ H Q) : t σ H fun x H' => ∃ k, x = .bl k ∧ Q k H' := by
  obtain ⟨B, ρ, μ, G, q, x, R, h, gv, gx⟩ := h
  refine ht _ _ _ ⟨B, ρ, μ, G, _, x, R, h, fun p v μ1 G1 H1 h1 g1 r1 => ?_, gx⟩
  obtain ⟨b, rfl, hb⟩ := qB_inv h1
  exact ⟨b, r1.bl_inv, gv b μ1 G1 H1 hb g1⟩
section
variable {X : Cx} {W : WX} {pos : Pos} {a b c : Expr} {da db dc : DE}
theorem e_cmp {op : CmpOp} {f : FO} (ho : OpJ X W (compareOp op) f) (ha : EJ X W a da) (hb : EJ X W b db) (hm : behindInMarks op b = false) : EJ X W (.Compare a [op] [b] pos) (dBin f da db) := by
  refine ⟨fun pins s σ H Q J h => ?_⟩
  exact wpAny_Compare1 (thn (ha.run pins s σ H _ J (rB_of h)) fun u s1 ⟨va, H1, J1, ru, h1⟩ => thn (hb.run pins s1 σ H1 _ J1 (rAB_of h1)) fun w s2 ⟨vb, H2, J2, rw', h2⟩ => ho.run J2 ru rw' h2) hm
theorem t_cmp {op : CmpOp} {f : FO} (ho : OpJ X W (compareOp op) f) (ha : EJ X W a da) (hb : EJ X W b db) (hm : behindInMarks op b = false) : TJ X W (.Compare a [op] [b] pos) (dB (dBin f da db)) := by
  refine ⟨fun pins s σ H Q J h => ?_⟩
  have h' : tE X.K W (dBin f da db) σ H fun x H' => ∃ k, x = .bl k ∧ Q k H' := tb_of (fun _ _ _ z => z) h
  refine wpAny_isTrue_Compare1 (thn (ha.run pins s σ H _ J (rB_of h')) fun u s1 ⟨va, H1, J1, ru, h1⟩ => thn (hb.run pins s1 σ H1 _ J1 (rAB_of h1)) fun w s2 ⟨vb, H2, J2, rw', h2⟩ =>
    thn (ho.run J2 ru rw' h2) fun c s3 ⟨z, H3, J3, r3, k, e, q3⟩ => ?_) hm
  subst e
  cases r3
  exact wpAny_truthy_bool ⟨H3, J3, q3⟩
/-- truth of a value -/
abbrev FT := PV → Mu → (Bool → Mu → Prop) → QX → Prop
def TrJ (X : Cx) (W : WX) (f : FT) : Prop := ∀ (pins : List (Addr × Obj)) (s : Shared) (σ : L2.St) (H : Hp) (B : BX) (ρ : En) (μ : Mu) (G : Hp) (a : PV) (va : V) (u : Value) (q : Bool → Mu → Prop) (x : QX) (Q : Bool → Hp → Prop), Inv X pins σ H s → Rel X.K B ρ μ σ G H → Rep X.K B G a va → RelV va u →
    f a μ q x → GoodB X.K B μ G H q Q → GoodX X.K W B μ G H σ x → wpAny (model X.prog X.w) X.A (truthy u) (TP X pins σ Q) X.xe s
def dTr (f : FT) (d : DE) : DT := fun ρ μ q x => d ρ μ (fun p μ1 => f p μ1 q x) x
theorem t_tr {f : FT} (tr : TrJ X W f) (ha : EJ X W a da) (he : ∀ whole, isTrue a X.env whole = (do let v ← whole; standAt a.pos; holding [v] (truthy v)) := by intro _; rfl) : TJ X W a (dTr f da) := by
  refine ⟨fun pins s σ H Q J ⟨B, ρ, μ, G, q, z, R, h, gv, gx⟩ => ?_⟩
  refine isTrue_plain (thn (ha.run pins s σ H (fun v H1 => ∃ μ1 G1 p, Go X.K B μ G H μ1 G1 H1 ∧ Rep X.K B G1 p v ∧ f p μ1 q z) J
    ⟨B, ρ, μ, G, _, z, R, h, fun p v μ1 G1 H1 h1 g1 r1 => ⟨μ1, G1, p, g1, r1, h1⟩, gx⟩) fun u s1 ⟨v, H1, J1, rv, μ1, G1, p, g1, rp, hf⟩ => ?_) (he _)
  exact tr pins s1 σ H1 B ρ μ1 G1 p v u q z Q J1 (R.go g1) rp rv hf (gv.go g1) (gx.go g1)
def dAnd (t u : DT) : DT := fun ρ μ q x => t ρ μ (fun b μ1 => br b (u ρ μ1 q x) (q false μ1)) x
def dOr (t u : DT) : DT := fun ρ μ q x => t ρ μ (fun b μ1 => br b (q true μ1) (u ρ μ1 q x)) x
def dNot (t : DT) : DT := fun ρ μ q x => t ρ μ (fun b μ1 => q (!b) μ1) x
variable {ta tb : DT} {rest : List Expr}
theorem w_and1 (ha : TJ X W a ta) : WJ X W (.BoolOp .And [a] pos) ta := pw_and1 ha
theorem w_or1 (ha : TJ X W a ta) : WJ X W (.BoolOp .Or [a] pos) ta := pw_or1 ha
theorem w_and (ha : TJ X W a ta) (hb : WJ X W (.BoolOp .And (b :: rest) pos) tb) : WJ X W (.BoolOp .And (a :: b :: rest) pos) (dAnd ta tb) := pw_imp (pw_and ha hb) fun σ H Q ⟨B, ρ, μ, G, q, x, R, h, gv, gx⟩ =>
  ⟨B, ρ, μ, G, _, x, R, h, fun c μ1 G1 H1 h1 g1 => by
    cases c with
    | true => exact ⟨B, ρ, μ1, G1, q, x, R.go g1, (h1.t rfl), gv.go g1, gx.go g1⟩
    | false => exact gv _ _ _ _ (h1.f rfl) g1, gx⟩
theorem w_or (ha : TJ X W a ta) (hb : WJ X W (.BoolOp .Or (b :: rest) pos) tb) : WJ X W (.BoolOp .Or (a :: b :: rest) pos) (dOr ta tb) := pw_imp (pw_or ha hb) fun σ H Q ⟨B, ρ, μ, G, q, x, R, h, gv, gx⟩ =>
  ⟨B, ρ, μ, G, _, x, R, h, fun c μ1 G1 H1 h1 g1 => by
    cases c with
    | true => exact gv _ _ _ _ (h1.t rfl) g1
    | false => exact ⟨B, ρ, μ1, G1, q, x, R.go g1, (h1.f rfl), gv.go g1, gx.go g1⟩, gx⟩
theorem t_w (h : WJ X W a ta) : TJ X W a ta := h.pt
theorem t_not (ha : TJ X W a ta) : TJ X W (.UnaryOp .Not a pos) (dNot ta) := pt_imp (pt_not ha) fun σ H Q ⟨B, ρ, μ, G, q, x, R, h, gv, gx⟩ => ⟨B, ρ, μ, G, _, x, R, h, fun c μ1 G1 H1 h1 g1 => gv _ _ _ _ h1 g1, gx⟩
def dAndV (da db : DE) : DE := fun ρ μ q x => da ρ μ (qB fun b μ1 => br b (db ρ μ1 q x) (q (.bl false) μ1)) x
def dNotV (da : DE) : DE := fun ρ μ q x => da ρ μ (qB fun b μ1 => q (.bl (!b)) μ1) x
theorem e_one {op : BoolOp} (h : EJ X W a da) : EJ X W (.BoolOp op [a] pos) da := pe_one h
theorem e_and (ha : EJ X W a da) (hb : EJ X W (.BoolOp .And (b :: rest) pos) db) : EJ X W (.BoolOp .And (a :: b :: rest) pos) (dAndV da db) := pe_imp (pe_and ha hb) fun σ H Q ⟨B, ρ, μ, G, q, x, R, h, gv, gx⟩ =>
  ⟨B, ρ, μ, G, _, x, R, h, fun p v μ1 G1 H1 h0 g1 r1 => by
    obtain ⟨c, rfl, h1⟩ := qB_inv h0
    refine ⟨c, r1.bl_inv, ?_⟩
    cases c with
    | true => exact ⟨B, ρ, μ1, G1, q, x, R.go g1, (h1.t rfl), gv.go g1, gx.go g1⟩
    | false => exact gv _ _ _ _ _ (h1.f rfl) g1 (rep_bl _), gx⟩
theorem e_not (ha : EJ X W a da) : EJ X W (.UnaryOp .Not a pos) (dNotV da) := pe_imp (pe_not ha) fun σ H Q ⟨B, ρ, μ, G, q, x, R, h, gv, gx⟩ =>
  ⟨B, ρ, μ, G, _, x, R, h, fun p v μ1 G1 H1 h0 g1 r1 => by
    obtain ⟨c, rfl, h1⟩ := qB_inv h0
    exact ⟨c, r1.bl_inv, gv _ _ _ _ _ h1 g1 (rep_bl _)⟩, gx⟩
/-- a < b < c -/
def dChain (f g : FO) (da db dc : DE) : DE := fun ρ μ q x => da ρ μ (fun a μ1 => db ρ μ1 (fun b μ2 => f a b μ2 (qB fun k μ3 => br k (dc ρ μ3 (fun c μ4 => g b c μ4 q x) x) (q (.bl false) μ3)) x) x) x
theorem t_chain {op op' : CmpOp} {f g : FO} (ho : OpJ X W (compareOp op) f) (ho' : OpJ X W (compareOp op') g) (ha : EJ X W a da) (hb : EJ X W b db) (hc : EJ X W c dc)
    (hm : lastMarks [op, op'] [b, c] = false := by with_unfolding_all rfl) : TJ X W (.Compare a [op, op'] [b, c] pos) (dB (dChain f g da db dc)) := by
  refine ⟨fun pins s σ H Q J ⟨B, ρ, μ, G, q, x, R, h, gv, gx⟩ => ?_⟩
  refine isTrue_chain (thn (ha.run pins s σ H (fun v H1 => ∃ μ1 G1 p, Go X.K B μ G H μ1 G1 H1 ∧ Rep X.K B G1 p v ∧ db ρ μ1 (fun b μ2 => f p b μ2 (qB fun k μ3 => br k (dc ρ μ3 (fun c μ4 => g b c μ4 (qB q) x) x) (qB q (.bl false) μ3)) x) x) J
    ⟨B, ρ, μ, G, _, x, R, h, fun p v μ1 G1 H1 h1 g1 r1 => ⟨μ1, G1, p, g1, r1, h1⟩, gx⟩) fun u s1 ⟨v, H1, J1, rv, μ1, G1, p, g1, rp, h1⟩ => test_link (thn (hb.run pins s1 σ H1 (fun v2 H2 => ∃ μ2 G2 p2, Go X.K B μ G H μ2 G2 H2 ∧ Rep X.K B G2 p v ∧ Rep X.K B G2 p2 v2 ∧ f p p2 μ2 (qB fun k μ3 => br k (dc ρ μ3 (fun c μ4 => g p2 c μ4 (qB q) x) x) (qB q (.bl false) μ3)) x) J1
    ⟨B, ρ, μ1, G1, _, x, R.go g1, h1, fun p2 v2 μ2 G2 H2 h2 g2 r2 => ⟨μ2, G2, p2, g1.trans g2, rp.mono g2.gx, r2, h2⟩, gx.go g1⟩) fun u2 s2 ⟨v2, H2, J2, rv2, μ2, G2, p2, g2, rp', rp2, h2⟩ =>
    thn (ho pins s2 σ H2 B ρ μ2 G2 p p2 v v2 u u2 _ x (fun z H3 => ∃ k μ3 G3, z = .bl k ∧ Go X.K B μ G H μ3 G3 H3 ∧ Rep X.K B G3 p2 v2 ∧ br k (dc ρ μ3 (fun c μ4 => g p2 c μ4 (qB q) x) x) (qB q (.bl false) μ3)) J2 (R.go g2) rp' rp2 rv rv2 h2
      (fun p3 v3 μ3 G3 H3 h3 g3 r3 => by
        obtain ⟨k, rfl, hk⟩ := qB_inv h3
        exact ⟨k, μ3, G3, r3.bl_inv, g2.trans g3, rp2.mono g3.gx, hk⟩) (gx.go g2)) fun d s3 ⟨z, H3, J3, r3, k, μ3, G3, e, g3, rp3, q3⟩ => ?_)) hm
  subst e
  cases r3
  refine wpAny_truthy_bool ?_
  cases k with
  | false => exact ite_ff ⟨H3, J3, gv _ _ _ _ (q3.f rfl) g3⟩
  | true =>
    refine ite_tt (test_last (thn (hc.run pins s3 σ H3 (fun v4 H4 => ∃ μ4 G4 p4, Go X.K B μ G H μ4 G4 H4 ∧ Rep X.K B G4 p2 v2 ∧ Rep X.K B G4 p4 v4 ∧ g p2 p4 μ4 (qB q) x) J3
      ⟨B, ρ, μ3, G3, _, x, R.go g3, q3.t rfl, fun p4 v4 μ4 G4 H4 h4 g4 r4 => ⟨μ4, G4, p4, g3.trans g4, rp3.mono g4.gx, r4, h4⟩, gx.go g3⟩) fun w s4 ⟨v4, H4, J4, r4, μ4, G4, p4, g4, ra, rb, h4⟩ =>
      thn (ho' pins s4 σ H4 B ρ μ4 G4 p2 p4 v2 v4 u2 w (qB q) x (fun z H5 => ∃ k, z = .bl k ∧ Q k H5) J4 (R.go g4) ra rb rv2 r4 h4 (fun p5 v5 μ5 G5 H5 h5 g5 r5 => by
        obtain ⟨k, rfl, hk⟩ := qB_inv h5
        exact ⟨k, r5.bl_inv, gv k μ5 G5 H5 hk (g4.trans g5)⟩) (gx.go g4)) fun c5 s5 ⟨z5, H5, J5, r5, k5, e5, q5⟩ => ?_))
    subst e5
    cases r5
    exact wpAny_truthy_bool ⟨H5, J5, q5⟩
abbrev FU := PV → Mu → QV → QX → Prop
def UnJ (X : Cx) (W : WX) (op : Value → Sem Value) (f : FU) : Prop := ∀ (pins : List (Addr × Obj)) (s : Shared) (σ : L2.St) (H : Hp) (B : BX) (ρ : En) (μ : Mu) (G : Hp) (a : PV) (va : V) (u : Value) (q : QV) (x : QX) (Q : VK), Inv X pins σ H s → Rel X.K B ρ μ σ G H → Rep X.K B G a va → RelV va u →
    f a μ q x → GoodV X.K B μ G H q Q → GoodX X.K W B μ G H σ x → wpAny (model X.prog X.w) X.A (op u) (EP X pins σ Q) X.xe s
def dUn (f : FU) (d : DE) : DE := fun ρ μ q x => d ρ μ (fun p μ1 => f p μ1 q x) x
end
def seqOf (μ : Mu) : PV → Option (Bool × List PV)
  | .lst xs => some (false, xs)
  | .tup xs => some (true, xs)
  | .cell a => match μ a with
    | some (.lst xs) => some (false, xs)
    | _ => none
  | _ => none
theorem seq_ok {K : Frg} {B : BX} {μ : Mu} {G H : Hp} {p : PV} {v : V} {t : Bool} {xs : List PV} (o : Ok K B μ G H) (r : Rep K B G p v) (h : seqOf μ p = some (t, xs)) :
    ∃ a vs, v = .ref a ∧ Reps K B G xs vs ∧ ((t = false ∧ H a = some (.lst vs)) ∨ (t = true ∧ SqT K H a vs)) := by
  cases p with
  | lst ys =>
    cases h
    obtain ⟨a, vs, e, g, rs⟩ := r.lst_inv
    exact ⟨a, vs, e, rs, .inl ⟨rfl, o.sub _ _ g⟩⟩
  | tup ys =>
    cases h
    obtain ⟨a, vs, e, g, rs⟩ := r.tup_inv
    exact ⟨a, vs, e, rs, .inr ⟨rfl, o.sub.t g⟩⟩
  | cell a =>
    have h : (match μ a with | some (.lst xs) => some (false, xs) | _ => none) = some (t, xs) := h
    cases e : μ a with
    | none => rw [e] at h; cases h
    | some c =>
      rw [e] at h
      cases c with
      | lst ys =>
        cases h
        obtain ⟨_, _, u, e1, vs, rfl, rs⟩ := o.cell a _ e
        exact ⟨a, vs, r.cell_inv, rs, .inl ⟨rfl, e1⟩⟩
      | _ => cases h
  | _ => cases h
def onI (f : Int → Int → (PV → Prop) → Prop) : F2 := fun _ a b q => match a with
  | .int i => (match b with
    | .int j => f i j q
    | _ => False)
  | _ => False
theorem onI_inv {f : Int → Int → (PV → Prop) → Prop} {μ : Mu} {a b : PV} {q : PV → Prop} (h : onI f μ a b q) : ∃ i j, a = .int i ∧ b = .int j ∧ f i j q := by
  cases a <;> try exact False.elim h
  cases b <;> first | exact ⟨_, _, rfl, rfl, h⟩ | exact False.elim h
theorem pop_I {K : Frg} (g : Int → Int → Int) : POp K (rI0 fun i j => .int (g i j)) (onI fun i j q => q (.int (g i j))) := fun B μ G H a b va vb q Q o ra rb h gv => by
  obtain ⟨i, j, rfl, rfl, hq⟩ := onI_inv h
  exact ⟨i, j, ra.int_inv, rb.int_inv, gv _ _ _ _ hq (.refl o) (rep_int _)⟩
theorem pop_IC {K : Frg} {C : Int → Int → Prop} (g : Int → Int → Int) : POp K (rI C fun i j => .int (g i j)) (onI fun i j q => C i j ∧ q (.int (g i j))) := fun B μ G H a b va vb q Q o ra rb h gv => by
  obtain ⟨i, j, rfl, rfl, hc, hq⟩ := onI_inv h
  exact ⟨i, j, ra.int_inv, rb.int_inv, hc, gv _ _ _ _ hq (.refl o) (rep_int _)⟩
theorem pop_IB {K : Frg} (g : Int → Int → Bool) : POp K (rI0 fun i j => .bl (g i j)) (onI fun i j q => q (.bl (g i j))) := fun B μ G H a b va vb q Q o ra rb h gv => by
  obtain ⟨i, j, rfl, rfl, hq⟩ := onI_inv h
  exact ⟨i, j, ra.int_inv, rb.int_inv, gv _ _ _ _ hq (.refl o) (rep_bl _)⟩
abbrev subP : F2 := onI fun i j q => q (.int (i - j))
abbrev andP : F2 := onI fun i j q => q (.int (Builtin.bitAnd i j))
abbrev orP : F2 := onI fun i j q => q (.int (Builtin.bitOr i j))
abbrev xorP : F2 := onI fun i j q => q (.int (Builtin.bitXor i j))
abbrev modP : F2 := onI fun i j q => 0 < j ∧ q (.int (i % j))
abbrev divP : F2 := onI fun i j q => CDiv i j ∧ q (.int (i / j))
abbrev powP : F2 := onI fun i j q => CPow i j ∧ q (.int (i ^ j.toNat))
abbrev shlP : F2 := onI fun i j q => CPow i j ∧ q (.int (i * 2 ^ j.toNat))
abbrev shrP : F2 := onI fun i j q => 0 ≤ j ∧ q (.int (i / 2 ^ j.toNat))
abbrev ltI : F2 := onI fun i j q => q (.bl (decide (i < j)))
abbrev leI : F2 := onI fun i j q => q (.bl (decide (i ≤ j)))
abbrev gtI : F2 := onI fun i j q => q (.bl (decide (j < i)))
abbrev geI : F2 := onI fun i j q => q (.bl (decide (j ≤ i)))
/-- xs + ys -/
def catP : F2 := fun μ a b q => match seqOf μ a with
  | some (t, xs) => (match seqOf μ b with
    | some (u, ys) => t = u ∧ xs.length + ys.length ≤ sizeLine ∧ q (if t then .tup (xs ++ ys) else .lst (xs ++ ys))
    | none => False)
  | none => False
theorem catP_inv {μ : Mu} {a b : PV} {q : PV → Prop} (h : catP μ a b q) : ∃ t xs ys, seqOf μ a = some (t, xs) ∧ seqOf μ b = some (t, ys) ∧ xs.length + ys.length ≤ sizeLine ∧ q (if t then .tup (xs ++ ys) else .lst (xs ++ ys)) := by
  unfold catP at h
  cases e : seqOf μ a with
  | none => rw [e] at h; exact h.elim
  | some z =>
    obtain ⟨t, xs⟩ := z
    rw [e] at h
    cases e2 : seqOf μ b with
    | none => simp only [e2] at h
    | some z2 =>
      obtain ⟨u, ys⟩ := z2
      simp only [e2] at h
      obtain ⟨rfl, h1, h2⟩ := h
      exact ⟨t, xs, ys, rfl, rfl, h1, h2⟩
def addP : F2 := fun μ a b q => match a with
  | .int i => (match b with
    | .int j => q (.int (i + j))
    | _ => False)
  | .str i => (match b with
    | .str j => i.length + j.length ≤ sizeLine ∧ q (.str (i ++ j))
    | _ => False)
  | a => catP μ a b q
def onS (f : Str → Str → (PV → Prop) → Prop) : F2 := fun _ a b q => match a with
  | .str i => (match b with
    | .str j => f i j q
    | _ => False)
  | _ => False
theorem onS_inv {f : Str → Str → (PV → Prop) → Prop} {μ : Mu} {a b : PV} {q : PV → Prop} (h : onS f μ a b q) : ∃ i j, a = .str i ∧ b = .str j ∧ f i j q := by
  cases a <;> try exact False.elim h
  cases b <;> first | exact ⟨_, _, rfl, rfl, h⟩ | exact False.elim h
theorem pop_addS {K : Frg} : POp K (fun x y H Q => ∃ i j, x = .str i ∧ y = .str j ∧ i.length + j.length ≤ sizeLine ∧ Q (.str (i ++ j)) H) (onS fun i j q => i.length + j.length ≤ sizeLine ∧ q (.str (i ++ j))) := fun B μ G H a b va vb q Q o ra rb h gv => by
  obtain ⟨i, j, rfl, rfl, h1, hq⟩ := onS_inv h
  exact ⟨i, j, ra.str_inv, rb.str_inv, h1, gv _ _ _ _ hq (.refl o) (rep_str _)⟩
section
variable {X : Cx} {W : WX}
theorem pop_catL {K : Frg} : POp K rCat (fun μ a b q => ∃ xs ys, seqOf μ a = some (false, xs) ∧ seqOf μ b = some (false, ys) ∧ xs.length + ys.length ≤ sizeLine ∧ q (.lst (xs ++ ys))) := fun B μ G H a b va vb q Q o ra rb ⟨xs, ys, e1, e2, hl, hq⟩ gv => by
  obtain ⟨p1, vs, rfl, rs, h1⟩ := seq_ok o ra e1
  obtain ⟨p2, ws, rfl, rs2, h2⟩ := seq_ok o rb e2
  have h1 : H p1 = some (.lst vs) := by rcases h1 with h | h; exact h.2; cases h.1
  have h2 : H p2 = some (.lst ws) := by rcases h2 with h | h; exact h.2; cases h.1
  refine ⟨p1, p2, vs, ws, rfl, rfl, h1, h2, by rw [rs.length, rs2.length]; exact hl, fun p hp => ?_⟩
  have g := o.new1 (u := .lst (vs ++ ws)) hp
  exact gv _ _ _ _ hq g (rep_lst upd_same ((rs.append rs2).mono g.gx))
theorem pop_catT {K : Frg} : POp K (rCatA K) (fun μ a b q => ∃ xs ys, seqOf μ a = some (true, xs) ∧ seqOf μ b = some (true, ys) ∧ xs.length + ys.length ≤ sizeLine ∧ q (.tup (xs ++ ys))) := fun B μ G H a b va vb q Q o ra rb ⟨xs, ys, e1, e2, hl, hq⟩ gv => by
  cases a with
  | tup xs' =>
    cases b with
    | tup ys' =>
      cases e1
      cases e2
      obtain ⟨p1, vs, rfl, h1, rs⟩ := ra.tup_inv
      obtain ⟨p2, ws, rfl, h2, rs2⟩ := rb.tup_inv
      refine ⟨p1, p2, vs, ws, rfl, rfl, o.sub.t h1, o.sub.t h2, by rw [rs.length, rs2.length]; exact hl, fun e => ?_, fun n e => ?_, fun n m p hp => ?_⟩
      · subst e
        have l := rs.length
        have : xs = [] := List.eq_nil_of_length_eq_zero l.symm
        subst this
        exact gv _ _ _ _ hq (.refl o) rb
      · subst e
        have l := rs2.length
        have : ys = [] := List.eq_nil_of_length_eq_zero l.symm
        subst this
        rw [List.append_nil] at hq
        exact gv _ _ _ _ hq (.refl o) ra
      · have g := o.new1 (u := .tup (vs ++ ws)) hp
        exact gv _ _ _ _ hq g (rep_tup upd_same ((rs.append rs2).mono g.gx))
    | cell c =>
      have e2 : (match μ c with | some (.lst xs) => some (false, xs) | _ => none) = some (true, ys) := e2
      split at e2 <;> cases e2
    | _ => cases e2
  | cell c =>
    have e1 : (match μ c with | some (.lst xs) => some (false, xs) | _ => none) = some (true, xs) := e1
    split at e1 <;> cases e1
  | _ => cases e1
theorem oj_add : OpJ X W (binaryOp .Add) (fo addP) := by
  refine OpJ.or (OpJ.of op_add (pop_I _)) (OpJ.or (OpJ.of op_add_str pop_addS) (OpJ.or (OpJ.of op_cat pop_catL) (OpJ.of op_catA pop_catT) (h := fo catP) fun a b μ q x h => ?_) (h := fun a b μ q x => fo (onS fun i j q => i.length + j.length ≤ sizeLine ∧ q (.str (i ++ j))) a b μ q x ∨ fo catP a b μ q x) fun a b μ q x h => h) fun a b μ q x h => ?_
  · obtain ⟨t, xs, ys, e1, e2, h1, h2⟩ := catP_inv h
    cases t
    · exact .inl ⟨xs, ys, e1, e2, h1, h2⟩
    · exact .inr ⟨xs, ys, e1, e2, h1, h2⟩
  · cases a with
    | int i => exact .inl h
    | str i => exact .inr (.inl h)
    | _ => exact .inr (.inr h)
theorem oj_sub : OpJ X W (binaryOp .Sub) (fo subP) := .of op_sub (pop_I _)
theorem oj_mod : OpJ X W (binaryOp .Mod) (fo modP) := .of op_mod (pop_IC _)
theorem oj_div : OpJ X W (binaryOp .FloorDiv) (fo divP) := .of op_fdiv (pop_IC _)
theorem oj_pow : OpJ X W (binaryOp .Pow) (fo powP) := .of op_pow (pop_IC _)
theorem oj_shl : OpJ X W (binaryOp .LShift) (fo shlP) := .of op_shl (pop_IC _)
theorem oj_shr : OpJ X W (binaryOp .RShift) (fo shrP) := .of op_shr (pop_IC _)
theorem oj_and : OpJ X W (binaryOp .BitAnd) (fo andP) := .of op_and (pop_I _)
theorem oj_or : OpJ X W (binaryOp .BitOr) (fo orP) := .of op_or (pop_I _)
theorem oj_xor : OpJ X W (binaryOp .BitXor) (fo xorP) := .of op_xor (pop_I _)
/-- a * b: ints; a list repeated -/
def mulP : F2 := fun μ a b q => match b with
  | .int j => (match a with
    | .int i => CMul i j ∧ q (.int (i * j))
    | a => (match seqOf μ a with
      | some (false, xs) => 0 ≤ j ∧ j < 2 ^ 63 ∧ xs.length * j.toNat ≤ sizeLine ∧ q (.lst (List.replicate j.toNat xs).flatten)
      | _ => False))
  | _ => False
theorem Reps.flat {K : Frg} {B : BX} {G : Hp} {xs : List PV} {vs : List V} (r : Reps K B G xs vs) : ∀ n : Nat, Reps K B G (List.replicate n xs).flatten (List.replicate n vs).flatten
  | 0 => .nil
  | n + 1 => by rw [List.replicate_succ, List.replicate_succ, List.flatten_cons, List.flatten_cons]; exact r.append (r.flat n)
theorem pop_rep {K : Frg} : POp K rRep (fun μ a b q => ∃ xs j, b = .int j ∧ seqOf μ a = some (false, xs) ∧ 0 ≤ j ∧ j < 2 ^ 63 ∧ xs.length * j.toNat ≤ sizeLine ∧ q (.lst (List.replicate j.toNat xs).flatten)) := fun B μ G H a b va vb q Q o ra rb ⟨xs, j, e, e1, j0, j1, hl, hq⟩ gv => by
  subst e
  obtain ⟨p1, vs, rfl, rs, h1⟩ := seq_ok o ra e1
  have h1 : H p1 = some (.lst vs) := by rcases h1 with h | h; exact h.2; cases h.1
  refine ⟨p1, j, vs, rfl, rb.int_inv, h1, by omega, j1, by rw [rs.length]; exact hl, fun p hp => ?_⟩
  have g := o.new1 (u := .lst (List.replicate j.toNat vs).flatten) hp
  exact gv _ _ _ _ hq g (rep_lst upd_same ((rs.flat _).mono g.gx))
theorem oj_mul : OpJ X W (binaryOp .Mult) (fo mulP) := by
  refine OpJ.or (OpJ.of op_mul (pop_IC _)) (OpJ.of op_rep pop_rep) fun a b μ q x h => ?_
  cases b with
  | int j =>
    have rest : ∀ a : PV, (match seqOf μ a with | some (false, xs) => 0 ≤ j ∧ j < 2 ^ 63 ∧ xs.length * j.toNat ≤ sizeLine ∧ q (.lst (List.replicate j.toNat xs).flatten) μ | _ => False) → ∃ xs j', PV.int j = .int j' ∧ seqOf μ a = some (false, xs) ∧ 0 ≤ j' ∧ j' < 2 ^ 63 ∧ xs.length * j'.toNat ≤ sizeLine ∧ q (.lst (List.replicate j'.toNat xs).flatten) μ := fun a h => by
      cases e : seqOf μ a with
      | none => rw [e] at h; exact h.elim
      | some z =>
        obtain ⟨t, xs⟩ := z
        rw [e] at h
        cases t
        · exact ⟨xs, j, rfl, rfl, h⟩
        · exact h.elim
    cases a with
    | int i => exact .inl h
    | _ => exact .inr (rest _ h)
  | _ => exact h.elim
theorem oj_le : OpJ X W (compareOp .LtE) (fo leI) := .of op_le (pop_IB _)
theorem oj_ge : OpJ X W (compareOp .GtE) (fo geI) := .of op_ge (pop_IB _)
theorem oj_gt : OpJ X W (compareOp .Gt) (fo gtI) := .of op_gt (pop_IB _)
/-- a < b: ints, texts -/
def ltP : F2 := fun μ a b q => match a with
  | .str i => (match b with
    | .str j => q (.bl (decide (i.cps.toList < j.cps.toList)))
    | _ => False)
  | a => ltI μ a b q
theorem pop_ltS {K : Frg} : POp K (fun x y H Q => ∃ i j : Str, x = .str i ∧ y = .str j ∧ Q (.bl (decide (i.cps.toList < j.cps.toList))) H) (onS fun i j q => q (.bl (decide (i.cps.toList < j.cps.toList)))) := fun B μ G H a b va vb q Q o ra rb h gv => by
  obtain ⟨i, j, rfl, rfl, hq⟩ := onS_inv h
  exact ⟨i, j, ra.str_inv, rb.str_inv, gv _ _ _ _ hq (.refl o) (rep_bl _)⟩
theorem oj_lt : OpJ X W (compareOp .Lt) (fo ltP) := by
  refine OpJ.or (OpJ.of op_lt (pop_IB _)) (OpJ.of op_lt_str pop_ltS) fun a b μ q x h => ?_
  cases a with
  | str i => exact .inr h
  | _ => exact .inl h
end
end Px
namespace Px
open PySem PySem.Spec PyProof.Rows L2
def dNil : DA := fun _ μ q _ => q [] μ
def dCons (d : DE) (ds : DA) : DA := fun ρ μ q x => d ρ μ (fun p μ1 => ds ρ μ1 (fun ps μ2 => q (p :: ps) μ2) x) x
def dStar (d : DE) (ds : DA) : DA := fun ρ μ q x => d ρ μ (fun p μ1 => match seqOf μ1 p with
  | some (_, xs) => ds ρ μ1 (fun ps μ2 => q (xs ++ ps) μ2) x
  | none => False) x
def dTup (ds : DA) : DE := fun ρ μ q x => ds ρ μ (fun ps μ1 => ps.length ≤ sizeLine ∧ q (.tup ps) μ1) x
/-- an expression that gives a new list, held by nobody -/
abbrev DL := En → Mu → (List PV → Mu → Prop) → QX → Prop
def GoodL (K : Frg) (B : BX) (μ : Mu) (G H : Hp) (q : List PV → Mu → Prop) (Q : VK) : Prop := ∀ ps l vs μ' G' H', q ps μ' → Go K B μ G H μ' G' H' → H l = none → G' l = none → μ' l = none → H' l = some (.lst vs) → Reps K B G' ps vs → Q (.ref l) H'
def tL (K : Frg) (W : WX) (d : DL) : TE := fun σ H Q => ∃ (B : BX) (ρ : En) (μ : Mu) (G : Hp) (q : List PV → Mu → Prop) (x : QX), Rel K B ρ μ σ G H ∧ d ρ μ q x ∧ GoodL K B μ G H q Q ∧ GoodX K W B μ G H σ x
abbrev LJ (X : Cx) (W : WX) (e : Expr) (d : DL) : Prop := PE X e (tL X.K W d)
/-- it is never changed -/
def dLst (d : DL) : DE := fun ρ μ q x => d ρ μ (fun ps μ1 => q (.lst ps) μ1) x
/-- it gets a cell -/
def dNew (d : DL) : DE := fun ρ μ q x => d ρ μ (fun ps μ1 => ∀ a, μ1 a = none → q (.cell a) (μ1.put a (.lst ps))) x
def lDisp (ds : DA) : DL := fun ρ μ q x => ds ρ μ (fun ps μ1 => ps.length ≤ sizeLine ∧ q ps μ1) x
section
variable {X : Cx} {W : WX} {pos : Pos} {e : Expr} {es : List Expr} {d : DE} {ds : DA} {dl : DL}
theorem a_nil : AJ X W [] dNil := pa_imp pa_nil fun σ H Q ⟨B, ρ, μ, G, q, x, R, h, gv, gx⟩ => gv [] [] μ G H h (.refl R.ok) .nil
theorem a_cons (he : EJ X W e d) (hs : AJ X W es ds) (h1 : starEach (e :: es) X.env = (false, eval e X.env) :: starEach es X.env := by rfl) : AJ X W (e :: es) (dCons d ds) := pa_imp (pa_cons he hs h1) fun σ H Q ⟨B, ρ, μ, G, q, x, R, h, gv, gx⟩ =>
  ⟨B, ρ, μ, G, _, x, R, h, fun p v μ1 G1 H1 h1 g1 r1 => ⟨B, ρ, μ1, G1, _, x, R.go g1, h1, fun ps vs μ2 G2 H2 h2 g2 r2 => gv (p :: ps) (v :: vs) μ2 G2 H2 h2 (g1.trans g2) (.cons (r1.mono g2.gx) r2), gx.go g1⟩, gx⟩
theorem e_tup {n : Nat} (hs : AJ X W es ds) : EJ X W (.Tuple es n pos) (dTup ds) := pe_imp (pe_tup hs) fun σ H Q ⟨B, ρ, μ, G, q, x, R, h, gv, gx⟩ =>
  ⟨B, ρ, μ, G, _, x, R, h, fun ps vs μ1 G1 H1 ⟨l1, h1⟩ g1 r1 => ⟨by rw [r1.length]; exact l1, fun p hp => by
    have g2 := g1.ok.new1 (u := .tup vs) hp
    exact gv _ _ _ _ _ h1 (g1.trans g2) (rep_tup upd_same (r1.mono g2.gx))⟩, gx⟩
theorem l_disp (hs : AJ X W es ds) : LJ X W (.List es pos) (lDisp ds) := pe_imp (pe_lst hs) fun σ H Q ⟨B, ρ, μ, G, q, x, R, h, gv, gx⟩ =>
  ⟨B, ρ, μ, G, _, x, R, h, fun ps vs μ1 G1 H1 ⟨l1, h1⟩ g1 r1 => ⟨by rw [r1.length]; exact l1, fun p hp => by
    have g2 := g1.ok.new2 (u := .lst vs) hp
    exact gv ps p vs μ1 G1 _ h1 (g1.trans g2) (g1.st.dom p hp) (g1.ok.sub.free hp) (g1.ok.freeM hp) upd_same r1⟩, gx⟩
/-- a new list that is never changed -/
theorem e_new (h : LJ X W e dl) : EJ X W e (dLst dl) := pe_imp h fun σ H Q ⟨B, ρ, μ, G, q, x, R, h, gv, gx⟩ =>
  ⟨B, ρ, μ, G, _, x, R, h, fun ps l vs μ1 G1 H1 h1 g1 hl gl ml h2 r1 => gv _ _ _ _ _ h1 (g1.take1 hl h2 gl ml (R.ok.notB hl)) (rep_lst upd_same (r1.mono (.upd gl))), gx⟩
/-- a new list that may be changed -/
theorem e_newC (h : LJ X W e dl) : EJ X W e (dNew dl) := pe_imp h fun σ H Q ⟨B, ρ, μ, G, q, x, R, h, gv, gx⟩ =>
  ⟨B, ρ, μ, G, _, x, R, h, fun ps l vs μ1 G1 H1 h1 g1 hl gl ml h2 r1 => gv _ _ _ _ _ (h1 l ml) (g1.take hl h2 gl (R.ok.notB hl) ⟨vs, rfl, r1⟩) (rep_cell l), gx⟩
/-- a list's cell is no longer changed -/
def frzP (p : PV) (μ : Mu) (q : QV) : Prop := match p with
  | .cell a => (match μ a with
    | some (.lst xs) => q (.lst xs) (μ.del a)
    | some (.dK ks xs) => q (.dK ks xs) (μ.del a)
    | some (.dT ks xs) => q (.dT ks xs) (μ.del a)
    | _ => False)
  | _ => False
def dFrz (d : DE) : DE := fun ρ μ q x => d ρ μ (fun p μ1 => frzP p μ1 q) x
theorem rep_dK {K : Frg} {B : BX} {G : Hp} {a : Addr} {ks : List Key} {xs : List PV} {vs : List V} {o : Obj} (h : G a = some (.frz o (.dK (ks.zip vs)))) (l : vs.length = ks.length) (r : Reps K B G xs vs) : Rep K B G (.dK ks xs) (.ref a) := by
  simp only [Rep]; exact ⟨a, vs, o, rfl, h, l, r⟩
theorem rep_dT {K : Frg} {B : BX} {G : Hp} {a : Addr} {ks : List (List Key)} {xs : List PV} {vs : List V} {o : Obj} (h : G a = some (.frz o (.dT (ks.zip vs)))) (l : vs.length = ks.length) (r : Reps K B G xs vs) : Rep K B G (.dT ks xs) (.ref a) := by
  simp only [Rep]; exact ⟨a, vs, o, rfl, h, l, r⟩
theorem e_frz (h : EJ X W e d) : EJ X W e (dFrz d) := by
  refine ⟨fun pins s σ H Q J ⟨B, ρ, μ, G, q, x, R, h0, gv, gx⟩ => ?_⟩
  refine thn (h.run pins s σ H (fun v H1 => ∃ μ1 G1 p, Go X.K B μ G H μ1 G1 H1 ∧ Rep X.K B G1 p v ∧ frzP p μ1 q) J ⟨B, ρ, μ, G, _, x, R, h0, fun p v μ1 G1 H1 h1 g1 r1 => ⟨μ1, G1, p, g1, r1, h1⟩, gx⟩) fun u s1 ⟨v, H1, J1, rv, μ1, G1, p, g1, r1, h1⟩ => ?_
  cases p with
  | cell a =>
    unfold frzP at h1
    cases e : μ1 a with
    | none => simp only [e] at h1
    | some c =>
      simp only [e] at h1
      obtain ⟨ga, nb, u, ha, ck⟩ := g1.ok.cell a c e
      have mp : μ1 a ≠ none := by rw [e]; intro z; cases z
      have hv := r1.cell_inv
      subst hv
      cases c with
      | lst xs =>
        have gf := g1.ok.goFrz mp ha ga nb ck.nt
        obtain ⟨vs, rfl, rs⟩ := ck
        exact ⟨_, H1, J1, rv, gv _ _ _ _ _ h1 (g1.trans gf) (rep_lst upd_same (rs.mono gf.gx))⟩
      | ins c fs => exact h1.elim
      | dK ks xs =>
        have nt := ck.nt
        obtain ⟨vs, rfl, l, rs⟩ := ck
        obtain ⟨ob, J2⟩ := J1.lock ha trivial
        have gf := g1.ok.goFrzD ob mp ha ga nb nt
        exact ⟨_, _, J2, rv, gv _ _ _ _ _ h1 (g1.trans gf) (rep_dK upd_same l (rs.mono gf.gx))⟩
      | dT ks xs =>
        have nt := ck.nt
        obtain ⟨vs, rfl, l, rs⟩ := ck
        obtain ⟨ob, J2⟩ := J1.lock ha trivial
        have gf := g1.ok.goFrzD ob mp ha ga nb nt
        exact ⟨_, _, J2, rv, gv _ _ _ _ _ h1 (g1.trans gf) (rep_dT upd_same l (rs.mono gf.gx))⟩
  | _ => exact h1.elim
end
/-- arguments ps; q: wanted of the value, x: wanted of what is raised -/
def spP (K : Frg) (c : Ct) : Sp := fun vs H Q E => ∃ (B : BX) (μ : Mu) (G : Hp) (ps : List PV) (q : QV) (x : QX), Ok K B μ G H ∧ Reps K B G ps vs ∧ c ps μ q x ∧ GoodV K B μ G H q Q ∧
  (∀ xv d μ' G' H', x xv μ' → Go K B μ G H μ' G' H' → XRep K B G' xv d → E (.ref (ca K xv.1)) d H')
/-- the def at f, called with keywords ks (their values behind the others): hot: also while an exception is handled -/
def FnS (hot : Bool) (P : Program) (w : World) (K : Frg) (mg : Str → Option Value) (base : Heap) (k : Nat) (f : Addr) (ks : List Str) (sp : Sp) : Prop :=
  ∀ (A : Around) (outer : List Env) (s : Shared) (H : Hp) (us ws : List Value) (vs : List V) (Q : VK) (E : XK), (A.handled = none ∨ (hot = true ∧ ∃ p, L2H.Hot1 A p ∧ L2H.PinOk outer H s p)) → Rm k A → Env0 P w K mg base A outer s H →
    ws.length = ks.length → Vals vs (us ++ ws) → sp vs H Q E → codeAny (model P w) A (.call (.ref f) ⟨us, ks.zip ws⟩) (CR (CXI K P w) outer P w H s Q E) s
theorem FnS.up {hot : Bool} {P : Program} {w : World} {K : Frg} {mg : Str → Option Value} {base : Heap} {k j : Nat} {f : Addr} {ks : List Str} {sp : Sp} (F : FnS hot P w K mg base k f ks sp) (h : k ≤ j) : FnS hot P w K mg base j f ks sp :=
  fun A outer s H us ws vs Q E hm hr => F A outer s H us ws vs Q E hm (hr.mono h)
/-- how one stands: nothing is being handled, or it is known -/
def Md (X : Cx) (hot : Bool) : Prop := X.calm = true ∨ (hot = true ∧ L2H.HotC X)
section
variable {X : Cx} {W : WX} {hot : Bool} {k : Nat} {f : Addr} {ks : List Str} {sp : Sp} {c : Ct}
theorem run_s {pins : List (Addr × Obj)} {σ : L2.St} {H : Hp} {s : Shared} {Q : VK} {us ws : List Value} {vs : List V} (Fn : FnS hot X.prog X.w X.K X.mg X.base k f ks sp) (md : Md X hot) (hr : Rm k X.A) (tk : TkI X W) (J : Inv X pins σ H s)
    (hl : ws.length = ks.length) (r : Vals vs (us ++ ws)) (h : sp vs H Q (fun cls d H' => W cls d σ H')) : wpAny (model X.prog X.w) X.A (call (.ref f) us (ks.zip ws)) (EP X pins σ Q) X.xe s := by
  have hm : X.A.handled = none ∨ (hot = true ∧ ∃ p, L2H.Hot1 X.A p ∧ L2H.PinOk X.stack H s p) := by
    rcases md with z | ⟨z, p, hp, mem⟩
    · exact .inl (J.ok.hd z)
    · have P1 := J.pin p (List.mem_append_left _ mem)
      exact .inr ⟨z, p, hp, ⟨P1.1, P1.2.1, fun hq => (List.mem_cons.mp (J.stkSub p.1 hq)).elim P1.2.2.1 P1.2.2.2.1, P1.2.2.2.2⟩⟩
  refine wpAny_call (codeAny_mono (Fn X.A X.stack s H us ws vs Q _ hm hr J.env0 hl r h) fun rr s' hq => ?_)
  cases rr with
  | error er => exact tk er s' (XI.of_call J (fun _ _ _ z => z) hq)
  | ok fl =>
    cases fl with
    | ret u => exact J.after hq
    | next => exact False.elim hq
    | brk => exact False.elim hq
    | cont => exact False.elim hq
/-- the promise, from the caller's state -/
theorem spP_of {K : Frg} {B : BX} {ρ : En} {σ : L2.St} {μ : Mu} {G H : Hp} {ps : List PV} {vs : List V} {q : QV} {x : QX} {Q : VK} (R : Rel K B ρ μ σ G H) (r : Reps K B G ps vs) (h : c ps μ q x) (gv : GoodV K B μ G H q Q) (gx : GoodX K W B μ G H σ x) :
    spP K c vs H Q (fun cls d H' => W cls d σ H') := ⟨B, μ, G, ps, q, x, R.ok, r, h, gv, fun xv d μ' G' H' hp g rr => gx xv d μ' G' H' hp g rr⟩
end
def dCall (c : Ct) (ds : DA) : DE := fun ρ μ q x => ds ρ μ (fun ps μ1 => c ps μ1 q x) x
section
variable {X : Cx} {W : WX} {hot : Bool} {k : Nat} {f : Addr} {ks : List Str} {c : Ct} {x : Str} {p0 pos : Pos} {e : Expr} {es : List Expr} {kws : List Keyword} {ds dk : DA}
abbrev KJ (X : Cx) (W : WX) (kws : List Keyword) (d : DA) : Prop := PK X kws (tA X.K W d)
theorem pk_imp {t t' : TA} (h : PK X kws t) (i : ∀ σ H Q, t' σ H Q → t σ H Q) : PK X kws t' := ⟨fun pos pins s σ H Q J z => h.run pos pins s σ H Q J (i σ H Q z)⟩
theorem k_nil : KJ X W [] dNil := pk_imp pk_nil fun σ H Q ⟨B, ρ, μ, G, q, x, R, h, gv, gx⟩ => gv [] [] μ G H h (.refl R.ok) .nil
theorem k_cons {nm : Option Str} {kp : Pos} {d : DE} (he : EJ X W e d) (hs : KJ X W kws dk) : KJ X W (⟨nm, e, kp⟩ :: kws) (dCons d dk) := pk_imp (pk_cons he hs) fun σ H Q ⟨B, ρ, μ, G, q, x, R, h, gv, gx⟩ =>
  ⟨B, ρ, μ, G, _, x, R, h, fun p v μ1 G1 H1 h1 g1 r1 => ⟨B, ρ, μ1, G1, _, x, R.go g1, h1, fun ps vs μ2 G2 H2 h2 g2 r2 => gv (p :: ps) (v :: vs) μ2 G2 H2 h2 (g1.trans g2) (.cons (r1.mono g2.gx) r2), gx.go g1⟩, gx⟩
theorem e_call (Fn : FnS hot X.prog X.w X.K X.mg X.base k f [] (spP X.K c)) (md : Md X hot) (hr : Rm k X.A) (tk : TkI X W) (hm : X.mg x = some (.ref f)) (hk : PySem.W.keepIn X.K (.ref f) = true) (ha : AJ X W (e :: es) ds) (hg : Gl X x := by rfl)
    (h1 : (x == ("__debug__" : Str)) = false := by decide) (h2 : starEach (e :: es) X.env = (false, eval e X.env) :: starEach es X.env := by rfl) (h3 : (backTo pos (starEach es X.env)).any (·.1) = false := by rfl) : EJ X W (.Call (.Name x p0) (e :: es) [] pos) (dCall c ds) := by
  refine ⟨fun pins s σ H Q J ⟨B, ρ, μ, G, q, z, R, h, gv, gx⟩ => ?_⟩
  refine wpAny_Call_Name_kw (ld_glob J hg hm ?_ h1)
  refine PySem.W.callWith_K (h₀ := X.base) J.ok.mod.kin hk (thn (ha.run pos pins s σ H (fun vs H1 => spP X.K c vs H1 Q fun cls d H' => W cls d σ H') J ⟨B, ρ, μ, G, _, z, R, h, fun ps vs μ1 G1 H1 h1 g1 r1 => spP_of (R.go g1) r1 h1 (gv.go g1) (gx.go g1), gx⟩) fun us s1 ⟨vs, H1, J1, r, q1⟩ => ⟨J1.kIn, ?_⟩) h2 h3
  exact run_s (ws := []) Fn md hr tk J1 rfl (by rw [List.append_nil]; exact r) q1
end
end Px
namespace Px
open PySem PySem.Spec PyProof.Rows L2
structure DEn where
  nx : En → Mu → Prop
  rt : QV
  bk : En → Mu → Prop := fun _ _ => False
  ct : En → Mu → Prop := fun _ _ => False
  xc : XV → En → Mu → Prop := fun _ _ _ => False
abbrev DS := DEn → En → Mu → Prop
structure EndsOk (K : Frg) (W : WX) (B : BX) (μ : Mu) (G H : Hp) (P : DEn) (D : Ends) : Prop where
  nx : ∀ ρ σ μ' G' H', P.nx ρ μ' → Rel K B ρ μ' σ G' H' → Go K B μ G H μ' G' H' → D.nx σ H'
  rt : ∀ p v μ' G' H', P.rt p μ' → Go K B μ G H μ' G' H' → Rep K B G' p v → D.rt v H'
  bk : ∀ ρ σ μ' G' H', P.bk ρ μ' → Rel K B ρ μ' σ G' H' → Go K B μ G H μ' G' H' → D.bk σ H'
  ct : ∀ ρ σ μ' G' H', P.ct ρ μ' → Rel K B ρ μ' σ G' H' → Go K B μ G H μ' G' H' → D.ct σ H'
  xc : ∀ xv d ρ σ μ' G' H', P.xc xv ρ μ' → Rel K B ρ μ' σ G' H' → Go K B μ G H μ' G' H' → XRep K B G' xv d → W (.ref (ca K xv.1)) d σ H'
theorem EndsOk.go {K : Frg} {W : WX} {B : BX} {μ μ1 : Mu} {G H G1 H1 : Hp} {P : DEn} {D : Ends} (e : EndsOk K W B μ G H P D) (g : Go K B μ G H μ1 G1 H1) : EndsOk K W B μ1 G1 H1 P D :=
  ⟨fun ρ σ μ' G' H' h R z => e.nx ρ σ μ' G' H' h R (g.trans z), fun p v μ' G' H' h z r => e.rt p v μ' G' H' h (g.trans z) r, fun ρ σ μ' G' H' h R z => e.bk ρ σ μ' G' H' h R (g.trans z), fun ρ σ μ' G' H' h R z => e.ct ρ σ μ' G' H' h R (g.trans z), fun xv d ρ σ μ' G' H' h R z r => e.xc xv d ρ σ μ' G' H' h R (g.trans z) r⟩
def tS (K : Frg) (W : WX) (d : DS) : TS := fun D σ H => ∃ (B : BX) (ρ : En) (μ : Mu) (G : Hp) (P : DEn), Rel K B ρ μ σ G H ∧ d P ρ μ ∧ EndsOk K W B μ G H P D
abbrev SJ (X : Cx) (W : WX) (st : Stmt) (d : DS) : Prop := PS X st (tS X.K W d)
abbrev BJ (X : Cx) (W : WX) (sts : List Stmt) (d : DS) : Prop := PSs X sts (tS X.K W d)
theorem ps_imp {X : Cx} {st : Stmt} {t t' : TS} (h : PS X st t) (i : ∀ D σ H, t' D σ H → t D σ H) : PS X st t' := ⟨fun pins s σ H D J z => h.run pins s σ H D J (i D σ H z)⟩
theorem pss_imp {X : Cx} {st : List Stmt} {t t' : TS} (h : PSs X st t) (i : ∀ D σ H, t' D σ H → t D σ H) : PSs X st t' := ⟨fun pins s σ H D J z => h.run pins s σ H D J (i D σ H z)⟩
theorem EndsOk.gx {K : Frg} {W : WX} {B : BX} {P : DEn} {D : Ends} {ρ : En} {μ : Mu} {σ : L2.St} {G H : Hp} (eo : EndsOk K W B μ G H P D) (R : Rel K B ρ μ σ G H) : GoodX K W B μ G H σ (fun xv μ' => P.xc xv ρ μ') := fun xv d μ' G' H' hx g r => eo.xc xv d ρ σ μ' G' H' hx (R.go g) g r
def dSeq (d e : DS) : DS := fun P ρ μ => d { P with nx := fun ρ' μ' => e P ρ' μ' } ρ μ
def dNext : DS := fun P ρ μ => P.nx ρ μ
def dSet (i : Nat) (d : DE) : DS := fun P ρ μ => d ρ μ (fun p μ' => P.nx (ρ.set i (some p)) μ') (fun xv μ' => P.xc xv ρ μ')
def dRet (d : DE) : DS := fun P ρ μ => d ρ μ P.rt (fun xv μ' => P.xc xv ρ μ')
def dDrop (d : DE) : DS := fun P ρ μ => d ρ μ (fun _ μ' => P.nx ρ μ') (fun xv μ' => P.xc xv ρ μ')
def dIfS (t : DT) (d e : DS) : DS := fun P ρ μ => t ρ μ (fun b μ' => br b (d P ρ μ') (e P ρ μ')) (fun xv μ' => P.xc xv ρ μ')
section
variable {X : Cx} {W : WX} {pos : Pos} {st : Stmt} {sts : List Stmt} {d e : DS}
theorem b_nil : BJ X W [] dNext := pss_imp pss_nil fun D σ H ⟨B, ρ, μ, G, P, R, h, eo⟩ => eo.nx ρ σ μ G H h R (.refl R.ok)
theorem b_cons (h1 : SJ X W st d) (h2 : BJ X W sts e) : BJ X W (st :: sts) (dSeq d e) := pss_imp (pss_cons h1 h2) fun D σ H ⟨B, ρ, μ, G, P, R, h, eo⟩ =>
  ⟨B, ρ, μ, G, _, R, h, ⟨fun ρ' σ' μ' G' H' h' R' g => ⟨B, ρ', μ', G', P, R', h', eo.go g⟩, eo.rt, eo.bk, eo.ct, eo.xc⟩⟩
theorem b_one (h1 : SJ X W st d) : BJ X W [st] d := pss_one h1
variable {ex : Expr} {de : DE}
theorem s_ret (h : EJ X W ex de) : SJ X W (.Return (some ex) pos) (dRet de) := ps_imp (ps_ret h) fun D σ H ⟨B, ρ, μ, G, P, R, h, eo⟩ => ⟨B, ρ, μ, G, _, _, R, h, fun p v μ' G' H' hp g r => eo.rt p v μ' G' H' hp g r, eo.gx R⟩
theorem s_expr (h : EJ X W ex de) (hs : swapsWith ex none pos.line X.env = pure false := by rfl) : SJ X W (.Expr ex pos) (dDrop de) := ps_imp (ps_expr h hs) fun D σ H ⟨B, ρ, μ, G, P, R, h, eo⟩ => ⟨B, ρ, μ, G, _, _, R, h, fun p v μ' G' H' hp g r => eo.nx ρ σ μ' G' H' hp (R.go g) g, eo.gx R⟩
theorem s_set (i : Nat) {x : Str} {p0 : Pos} (h : EJ X W ex de) (nd : X.N.Nodup) (hi : X.N[i]? = some x := by rfl) (hx : Loc X.env.scope x := by first | exact Or.inl rfl | exact Or.inr rfl) (hs : swapsWith ex (some (.Name x p0)) pos.line X.env = pure false := by rfl)
    (hf : X.fn x = true ∨ X.env.scope.names.lookup x = some .local := by first | exact .inl rfl | exact .inr rfl | assumption) : SJ X W (.Assign [.Name x p0] ex pos) (dSet i de) := ps_imp (ps_set (i := i) nd hi hx h hs hf) fun D σ H ⟨B, ρ, μ, G, P, R, h, eo⟩ =>
  ⟨B, ρ, μ, G, _, _, R, h, fun p v μ' G' H' hp g r => eo.nx _ _ μ' G' H' hp ((R.go g).set i r) g, eo.gx R⟩
variable {c : Expr} {a b : List Stmt} {tc : DT}
theorem s_if (hc : TJ X W c tc) (ha : BJ X W a d) (hb : BJ X W b e) : SJ X W (.If c a b pos) (dIfS tc d e) := ps_imp (ps_if hc ha hb) fun D σ H ⟨B, ρ, μ, G, P, R, h, eo⟩ =>
  ⟨B, ρ, μ, G, _, _, R, h, fun k μ' G' H' hp g => by
    cases k with
    | true => exact ⟨B, ρ, μ', G', P, R.go g, hp.t rfl, eo.go g⟩
    | false => exact ⟨B, ρ, μ', G', P, R.go g, hp.f rfl, eo.go g⟩, eo.gx R⟩
end
def startE (n : Nat) (ps : List PV) : En := ps.map some ++ List.replicate (n - ps.length) none
def endsOf (q : QV) (x : QX) : DEn := { nx := fun _ μ => q .non μ, rt := q, xc := fun xv _ μ => x xv μ }
theorem rel_start {K : Frg} {B : BX} {μ : Mu} {G H : Hp} {N : List Str} {ps : List PV} {vs : List V} (o : Ok K B μ G H) (r : Reps K B G ps vs) : Rel K B (startE N.length ps) μ (L2.start N vs) G H := by
  have hl := r.length
  refine ⟨o, ?_, fun i s e => ?_⟩
  · unfold startE L2.start
    simp only [List.length_append, List.length_map, List.length_replicate, hl]
  · unfold startE at e
    by_cases hi : i < ps.length
    · rw [List.getElem?_append_left (by simpa using hi), List.getElem?_map] at e
      have ex : ps[i]? = some ps[i] := List.getElem?_eq_getElem hi
      rw [ex] at e
      cases e
      obtain ⟨v, e1, e2⟩ := r.get ex
      refine ⟨v, ?_, e2⟩
      unfold L2.start
      rw [List.getElem?_append_left (by simpa [hl] using hi), List.getElem?_map, e1]
      rfl
    · rw [List.getElem?_append_right (by simpa using hi), List.getElem?_replicate] at e
      split at e <;> cases e
theorem body_of {K : Frg} {c : Ct} {d : DS} {N : List Str} {vs : List V} {H : Hp} {Q : VK} {E : XK} (hd : ∀ ps μ q x, c ps μ q x → d (endsOf q x) (startE N.length ps) μ) (h : spP K c vs H Q E) :
    tS K (fun cls dd _ H' => E cls dd H') d { nx := fun _ H' => Q .non H', rt := Q } (L2.start N vs) H := by
  obtain ⟨B, μ, G, ps, q, x, o, r, hc, hq, hx⟩ := h
  exact ⟨B, _, μ, G, endsOf q x, rel_start o r, hd ps μ q x hc, ⟨fun ρ σ μ' G' H' z R g => hq _ _ μ' G' H' z g rep_non, fun p v μ' G' H' z g rr => hq p v μ' G' H' z g rr, fun _ _ _ _ _ z => z.elim, fun _ _ _ _ _ z => z.elim, fun xv dd ρ σ μ' G' H' z R g rr => hx xv dd μ' G' H' z g rr⟩⟩
/-- the context of a def's body, calm or not -/
abbrev cxG (cm : Bool) (pn : List (Addr × Obj)) (P : Program) (w : World) (K : Frg) (mg : Str → Option Value) (base : Heap) (N : List Str) (qual : Str) (scope : Scope) (f : Addr) (cd : Value) (A : Around) (outer : List Env) (s : Shared) (H : Hp) (E : XK) : Cx :=
  { cxOf (CXI K P w) P w K mg base N qual scope f cd A outer s H E with calm := cm, pn := pn }
/-- the promise of a def over its bound parameters -/
structure FnO (hot : Bool) (P : Program) (w : World) (K : Frg) (mg : Str → Option Value) (base : Heap) (k : Nat) (f : Addr) (fd : FuncData) (ps : List Str) (sp : Sp) : Prop where
  calm : FnOkG P w K mg base (CXI K P w) k f fd ps sp
  hot : hot = true → FnHG P w K mg base (CXI K P w) k f fd ps sp
/-- what a body's derivation may use: W, how it stands, room for k calls, what is raised is taken -/
structure Here (hot : Bool) (X : Cx) (W : WX) (k : Nat) : Prop where
  md : Md X hot
  rm : Rm k X.A
  tk : TkI X W
  own : PassesOwn (model X.prog X.w) X.A X.env X.xe
section
variable {P : Program} {w : World} {K : Frg} {mg : Str → Option Value} {base : Heap} {x qual : Str} {params : Arguments} {body : List Stmt} {scope : Scope} {dvs : List V} {kws : List (Str × V)} {f : Addr} {fd : FuncData} {N ps : List Str} {k : Nat} {sp : Sp}
theorem here_of {hot : Bool} {cm : Bool} {pn : List (Addr × Obj)} {cd : Value} {A : Around} {outer : List Env} {s : Shared} {H : Hp} {E : XK} (hr : Rm k (A.deeper (envOfC qual scope s.heap.objs.size f cd))) (md : Md (cxG cm pn P w K mg base N qual scope f cd A outer s H E) hot) :
    Here hot (cxG cm pn P w K mg base N qual scope f cd A outer s H E) (fun cls dd _ H' => E cls dd H') k :=
  ⟨md, hr, takesI_of rfl rfl rfl rfl, L2.passes_of rfl⟩
/-- a def whose body is derived wherever it may stand -/
theorem fn_o (hot : Bool) (Fn : FunD K x qual params body scope dvs kws f fd) (S : FnScope N ps scope) (len : ∀ vs H Q E, sp vs H Q E → vs.length = ps.length)
    (h : ∀ (cm : Bool) (pn : List (Addr × Obj)) (cd : Value) (A : Around) (outer : List Env) (s : Shared) (H : Hp) (vs : List V) (Q : VK) (E : XK), (hot = false → cm = true) → Here hot (cxG cm pn P w K mg base N qual scope f cd A outer s H E) (fun cls dd _ H' => E cls dd H') k → sp vs H Q E →
      ∃ t, PSs (cxG cm pn P w K mg base N qual scope f cd A outer s H E) body t ∧ t { nx := fun _ H' => Q .non H', rt := Q } (L2.start N vs) H) : FnO hot P w K mg base (k + 1) f fd ps sp := by
  obtain ⟨oc, od, dV, kV, doc, pm, an, cdv, ct, osl, rfl, lk, hcd, _, _⟩ := Fn.ex
  refine ⟨fn_ofG lk hcd S len fun A outer s H vs Q E hr hs => h true [] cdv A outer s H vs Q E (fun _ => rfl) (here_of (rm_of hr) (.inl rfl)) hs, fun hh => ?_⟩
  refine fn_ofHG lk hcd S len fun A outer s H vs Q E p hot1 hr hs => ?_
  exact h false [p] cdv A outer s H vs Q E (fun z => by rw [hh] at z; cases z) (here_of hr (.inr ⟨hh, p, hot1, by exact List.mem_cons_self⟩)) hs
/-- the pure form -/
theorem fn_p (hot : Bool) (Fn : FunD K x qual params body scope dvs kws f fd) (S : FnScope N ps scope) (c : Ct) (d : DS) (len : ∀ as μ q z, c as μ q z → as.length = ps.length)
    (der : ∀ (cm : Bool) (pn : List (Addr × Obj)) (cd : Value) (A : Around) (outer : List Env) (s : Shared) (H : Hp) (E : XK), (hot = false → cm = true) → Here hot (cxG cm pn P w K mg base N qual scope f cd A outer s H E) (fun cls dd _ H' => E cls dd H') k →
      BJ (cxG cm pn P w K mg base N qual scope f cd A outer s H E) (fun cls dd _ H' => E cls dd H') body d)
    (pure_ : ∀ as μ q z, c as μ q z → d (endsOf q z) (startE N.length as) μ) : FnO hot P w K mg base (k + 1) f fd ps (spP K c) :=
  fn_o hot Fn S (fun vs H Q E ⟨B, μ, G, as, q, z, _, r, hc, _⟩ => by rw [r.length]; exact len as μ q z hc) fun cm pn cd A outer s H vs Q E hcm he hs => ⟨_, der cm pn cd A outer s H E hcm he, body_of pure_ hs⟩
/-- called with all its parameters by place -/
theorem FnO.s {hot : Bool} (Fn : FnO hot P w K mg base k f fd ps sp) (b : Binds K fd ps []) : FnS hot P w K mg base k f [] sp := fun A outer s H us ws vs Q E hm hr e0 hl r h => by
  have hw : ws = [] := List.eq_nil_of_length_eq_zero hl
  subst hw
  rw [List.append_nil] at r
  have KX : K.In s.heap := e0.mod.kin.keeps fun b o e => (e0.bs b o e).1
  have bb := b s us KX (by rw [List.append_nil, ← r.length]; exact Fn.calm.len _ _ _ _ h)
  rw [List.append_nil] at bb
  rcases hm with z | ⟨z, p, h1, h2⟩
  · exact Fn.calm.run A outer s H ⟨us, []⟩ us vs Q E ⟨z, hr.dp, hr.un, hr.gd⟩ e0 bb r h
  · exact (Fn.hot z).run A outer s H ⟨us, []⟩ us vs Q E p hr h1 h2 e0 bb r h
end
end Px
namespace Px
open PySem PySem.Spec PyProof.Rows L2
abbrev DI := En → Mu → (List PV → Mu → Prop) → QX → Prop
structure ItOk (K : Frg) (B : BX) (G0 : Hp) (J : It) (xs : List PV) : Prop where
  go : ∀ (i : Nat) μ G H, Sub G0 G → Ok K B μ G H → i < xs.length → J.go i H
  yld : ∀ (i : Nat) μ G H v H' x, Sub G0 G → Ok K B μ G H → xs[i]? = some x → J.yld i H v H' → ∃ G', Go K B μ G H μ G' H' ∧ Rep K B G' x v
  stop : ∀ (i : Nat) μ G H, Sub G0 G → Ok K B μ G H → xs.length ≤ i → J.stop i H
def tI (K : Frg) (W : WX) (d : DI) : TI := fun σ H R => ∃ (B : BX) (ρ : En) (μ : Mu) (G : Hp) (q : List PV → Mu → Prop) (x : QX), Rel K B ρ μ σ G H ∧ d ρ μ q x ∧ (∀ xs J μ' G' H', q xs μ' → Go K B μ G H μ' G' H' → ItOk K B G' J xs → R J H') ∧ GoodX K W B μ G H σ x
abbrev IJ (X : Cx) (W : WX) (tg iter : Expr) (d : DI) : Prop := PI X tg iter (tI X.K W d)
theorem pi_imp {X : Cx} {tg it : Expr} {t t' : TI} (h : PI X tg it t) (i : ∀ σ H Q, t' σ H Q → t σ H Q) : PI X tg it t' := ⟨fun pins s σ H Q J z => h.run pins s σ H Q J (i σ H Q z)⟩
theorem itok_list {K : Frg} {B : BX} {G : Hp} {a : Addr} {xs : List PV} {vs : List V} (sq : SqL K G a vs) (rs : Reps K B G xs vs) : ItOk K B G (Itl K a) xs := by
  have hl := rs.length
  refine ⟨fun i μ G' H s o hi => ?_, fun i μ G' H v H' x s o e y => ?_, fun i μ G' H s o hi => ⟨vs, o.sub.l (s.l sq), by omega⟩⟩
  · have hi' : i < vs.length := by omega
    exact ⟨vs, vs[i], o.sub.l (s.l sq), by simp [hi']⟩
  · obtain ⟨rfl, hy⟩ := y
    have e1 := hy vs (o.sub.l (s.l sq))
    obtain ⟨u, e2, r⟩ := rs.get e
    rw [e1] at e2
    cases e2
    exact ⟨G', .refl o, r.mono s⟩
theorem itok_tup {K : Frg} {B : BX} {G : Hp} {a : Addr} {xs : List PV} {vs : List V} (sq : SqT K G a vs) (rs : Reps K B G xs vs) : ItOk K B G (Itt K a) xs := by
  have hl := rs.length
  refine ⟨fun i μ G' H s o hi => ?_, fun i μ G' H v H' x s o e y => ?_, fun i μ G' H s o hi => ⟨vs, o.sub.t (s.t sq), by omega⟩⟩
  · have hi' : i < vs.length := by omega
    exact ⟨vs, vs[i], o.sub.t (s.t sq), by simp [hi']⟩
  · obtain ⟨rfl, hy⟩ := y
    have e1 := hy vs (o.sub.t (s.t sq))
    obtain ⟨u, e2, r⟩ := rs.get e
    rw [e1] at e2
    cases e2
    exact ⟨G', .refl o, r.mono s⟩
/-- the ints lo, lo + 1, .. -/
def rangeP (lo : Int) (n : Nat) : List PV := (List.range n).map fun i => .int (lo + (i : Nat))
theorem rangeP_get {lo : Int} {n i : Nat} {x : PV} (h : (rangeP lo n)[i]? = some x) : i < n ∧ x = .int (lo + (i : Nat)) := by
  unfold rangeP at h
  rw [List.getElem?_map] at h
  by_cases hi : i < n
  · rw [List.getElem?_range hi] at h
    exact ⟨hi, (Option.some.inj h).symm⟩
  · rw [List.getElem?_eq_none (by simpa using hi)] at h; cases h
theorem rangeP_len (lo : Int) (n : Nat) : (rangeP lo n).length = n := by unfold rangeP; simp
theorem itok_range {K : Frg} {B : BX} {G : Hp} (lo : Int) (n : Nat) : ItOk K B G (Itr lo n) (rangeP lo n) := by
  refine ⟨fun i μ G' H s o hi => by rw [rangeP_len] at hi; exact hi, fun i μ G' H v H' x s o e y => ?_, fun i μ G' H s o hi => by rw [rangeP_len] at hi; exact hi⟩
  obtain ⟨hi, rfl⟩ := rangeP_get e
  obtain ⟨rfl, rfl⟩ := y
  exact ⟨G', .refl o, rep_int _⟩
/-- over a list or a tuple that stands still -/
def itP (p : PV) (q : List PV → Prop) : Prop := match p with
  | .lst xs => q xs
  | .tup xs => q xs
  | _ => False
def iSeq (d : DE) : DI := fun ρ μ q x => d ρ μ (fun p μ1 => itP p fun xs => q xs μ1) x
def r1P (ps : List PV) (q : List PV → Prop) : Prop := match ps with
  | [.int n] => -(2 ^ 62) ≤ n ∧ n < 2 ^ 62 ∧ q (rangeP 0 n.toNat)
  | _ => False
theorem r1P_inv {ps : List PV} {q : List PV → Prop} (h : r1P ps q) : ∃ n : Int, ps = [.int n] ∧ -(2 ^ 62) ≤ n ∧ n < 2 ^ 62 ∧ q (rangeP 0 n.toNat) := by
  unfold r1P at h
  split at h
  · exact ⟨_, rfl, h⟩
  · exact h.elim
def iR1 (d : DA) : DI := fun ρ μ q x => d ρ μ (fun ps μ1 => r1P ps fun xs => q xs μ1) x
section
variable {X : Cx} {W : WX} {tg e : Expr} {es : List Expr} {pos p0 : Pos} {d : DE} {ds : DA}
/-- a list or a tuple, walked -/
theorem pi_seq {tl : TE} (hl : PE X e tl) : PI X tg e (fun σ H R => tl σ H fun x H1 => ∃ a, x = .ref a ∧ (((∃ xs, SqL X.K H1 a xs) ∧ R (Itl X.K a) H1) ∨ ((∃ xs, SqT X.K H1 a xs) ∧ R (Itt X.K a) H1))) := by
  refine ⟨fun pins s σ H R I h => ?_⟩
  refine thn (hl.run pins s σ H _ I h) fun v s1 ⟨x, H1, I1, r1, q1⟩ => ?_
  obtain ⟨a, e, ⟨⟨xs, hq⟩, q⟩ | ⟨⟨xs, hq⟩, q⟩⟩ := q1
  · subst e
    cases r1
    obtain ⟨its, rv, p, hz⟩ := I1.list hq
    refine wpAny_pyIter_list p.isList ?_
    refine ⟨s1.heap.objs.size, [s1.heap.objs.size], _, _, H1, rfl, I1.kept (t' := s1.toks) fun b o e => Heap.get?_push_of_some _ e, turn_list a _, ⟨_, Heap.get?_push_size _ rfl, rfl, rfl⟩, fun b hb => ?_, q⟩
    have e : b = s1.heap.objs.size := by simpa using hb
    subst e
    exact I1.fpOk (Nat.le_refl _) (I1.hok.fresh (Nat.le_refl _))
  · subst e
    cases r1
    obtain ⟨its, rv, p, hz⟩ := I1.tuple hq
    refine wpAny_pyIter_tuple (show s1.heap.IsTuple a its.toArray from p) ?_
    refine ⟨s1.heap.objs.size, [s1.heap.objs.size], _, _, H1, rfl, I1.kept (t' := s1.toks) fun b o e => Heap.get?_push_of_some _ e, turn_tuple a _, ⟨_, Heap.get?_push_size _ rfl, rfl, rfl⟩, fun b hb => ?_, q⟩
    have e : b = s1.heap.objs.size := by simpa using hb
    subst e
    exact I1.fpOk (Nat.le_refl _) (I1.hok.fresh (Nat.le_refl _))
theorem i_seq (h : EJ X W e d) : IJ X W tg e (iSeq d) := pi_imp (pi_seq h) fun σ H R ⟨B, ρ, μ, G, q, x, Rl, h, gv, gx⟩ =>
  ⟨B, ρ, μ, G, _, x, Rl, h, fun p v μ1 G1 H1 h1 g1 r1 => by
    cases p with
    | lst xs =>
      obtain ⟨a, vs, rfl, sq, rs⟩ := r1.lst_inv
      exact ⟨a, rfl, .inl ⟨⟨vs, .inl (.inl (g1.ok.sub _ _ sq))⟩, gv xs _ μ1 G1 H1 h1 g1 (itok_list (.inl (.inl sq)) rs)⟩⟩
    | tup xs =>
      obtain ⟨a, vs, rfl, sq, rs⟩ := r1.tup_inv
      exact ⟨a, rfl, .inr ⟨⟨vs, g1.ok.sub.t sq⟩, gv xs _ μ1 G1 H1 h1 g1 (itok_tup sq rs)⟩⟩
    | _ => exact h1.elim, gx⟩
theorem Reps.int1 {K : Frg} {B : BX} {G : Hp} {n : Int} {vs : List V} (h : Reps K B G [.int n] vs) : vs = [.int n] := by
  obtain ⟨v, ws, rfl, r, rs⟩ := h.cons_inv
  rw [r.int_inv, rs.nil_inv]
theorem i_range1 (hm : X.mg "range" = none) (ha : AJ X W [e] ds) (hg : Gl X "range" := by rfl) (h1 : starEach [e] X.env = [(false, eval e X.env)] := by rfl) : IJ X W tg (.Call (.Name "range" p0) [e] [] pos) (iR1 ds) := pi_imp (pi_range1 hg hm ha h1) fun σ H R ⟨B, ρ, μ, G, q, x, Rl, h, gv, gx⟩ =>
  ⟨B, ρ, μ, G, _, x, Rl, h, fun ps vs μ1 G1 H1 h0 g1 r1 => by
    obtain ⟨n, rfl, b1, b2, h1⟩ := r1P_inv h0
    exact ⟨n, r1.int1, b1, b2, gv _ _ μ1 G1 H1 h1 g1 (itok_range 0 _)⟩, gx⟩
end
inductive Tg where
  | one (i : Nat)
  | many (is : List Nat)
  | nest (i : Nat) (is : List Nat)
def Tg.idx : Tg → List Nat
  | .one i => [i]
  | .many is => is
  | .nest i is => i :: is
def setAll : List Nat → List PV → En → En
  | i :: is, p :: ps, ρ => setAll is ps (ρ.set i (some p))
  | _, _, ρ => ρ
def setT (t : Tg) (p : PV) (ρ : En) (k : En → Prop) : Prop := match t with
  | .one i => k (ρ.set i (some p))
  | .many is => (match p with
    | .tup xs => xs.length = is.length ∧ k (setAll is xs ρ)
    | _ => False)
  | .nest i is => (match p with
    | .tup [a, .tup xs] => xs.length = is.length ∧ k (setAll is xs (ρ.set i (some a)))
    | _ => False)
def gNs : List Nat → TGs
  | [] => gNil
  | i :: is => gCons (gName i) (gNs is)
def tgOf (K : Frg) : Tg → TG
  | .one i => gName i
  | .many is => gTup K is.length (gNs is)
  | .nest i is => gTup K 2 (gCons (gName i) (gCons (gTup K is.length (gNs is)) gNil))
/-- what the slots are behind the target -/
def setVs : List Nat → List V → L2.St → L2.St
  | i :: is, v :: vs, σ => setVs is vs (σ.set i (some v))
  | _, _, σ => σ
theorem gNs_ok {Q : L2.St → Hp → Prop} {H : Hp} : ∀ {is : List Nat} {vs : List V} {σ : L2.St}, vs.length = is.length → Q (setVs is vs σ) H → gNs is vs σ H Q
  | [], [], σ, _, h => ⟨rfl, h⟩
  | i :: is, v :: vs, σ, hl, h => ⟨v, vs, rfl, gNs_ok (is := is) (vs := vs) (by simpa using hl) h⟩
theorem Rel.setAll {K : Frg} {B : BX} {μ : Mu} {G H : Hp} : ∀ {is : List Nat} {xs : List PV} {vs : List V} {ρ : En} {σ : L2.St}, Rel K B ρ μ σ G H → Reps K B G xs vs → Rel K B (Px.setAll is xs ρ) μ (setVs is vs σ) G H
  | [], xs, vs, ρ, σ, R, r => by
    cases xs <;> cases vs <;> exact R
  | i :: is, [], vs, ρ, σ, R, r => by rw [r.nil_inv]; exact R
  | i :: is, x :: xs, vs, ρ, σ, R, r => by
    obtain ⟨v, ws, rfl, r1, r2⟩ := r.cons_inv
    exact Rel.setAll (is := is) (R.set i r1) r2
theorem wipe_get {σ : L2.St} {vs : List Nat} {i : Nat} (h : i ∈ vs) (hi : i < σ.length) : (wipe σ vs)[i]? = some none := by
  induction vs with
  | nil => cases h
  | cons v vs ih =>
    unfold wipe
    by_cases z : v = i
    · subst z
      rw [List.getElem?_set_self (by rw [wipe_length]; exact hi)]
    · rw [List.getElem?_set_ne z]
      exact ih ((List.mem_cons.mp h).resolve_left fun e => z e.symm)
theorem wipe_get2 {σ : L2.St} {vs : List Nat} {i : Nat} (h : i ∉ vs) : (wipe σ vs)[i]? = σ[i]? := by
  induction vs with
  | nil => rfl
  | cons v vs ih =>
    unfold wipe
    rw [List.getElem?_set_ne (fun z => h (by rw [z]; exact List.mem_cons_self))]
    exact ih fun z => h (List.mem_cons_of_mem _ z)
theorem wipe_ext {σ τ : L2.St} {vs : List Nat} (hl : σ.length = τ.length) (h : ∀ i, i ∉ vs → σ[i]? = τ[i]?) : wipe σ vs = wipe τ vs := by
  apply List.ext_getElem?
  intro i
  by_cases hi : i ∈ vs
  · by_cases hb : i < σ.length
    · rw [wipe_get hi hb, wipe_get hi (by omega)]
    · rw [List.getElem?_eq_none (by rw [wipe_length]; omega), List.getElem?_eq_none (by rw [wipe_length]; omega)]
  · rw [wipe_get2 hi, wipe_get2 hi]
    exact h i hi
theorem setVs_len : ∀ (is : List Nat) (vs : List V) (σ : L2.St), (setVs is vs σ).length = σ.length
  | [], vs, σ => by cases vs <;> rfl
  | i :: is, [], σ => rfl
  | i :: is, v :: vs, σ => by unfold setVs; rw [setVs_len is vs, List.length_set]
theorem setVs_out : ∀ (is : List Nat) (vs : List V) (σ : L2.St) {j : Nat}, j ∉ is → (setVs is vs σ)[j]? = σ[j]?
  | [], vs, σ, j, h => by cases vs <;> rfl
  | i :: is, [], σ, j, h => rfl
  | i :: is, v :: vs, σ, j, h => by
    unfold setVs
    rw [setVs_out is vs _ fun z => h (List.mem_cons_of_mem _ z), List.getElem?_set_ne fun z => h (by rw [z]; exact List.mem_cons_self)]
/-- the target takes a value -/
theorem tg_ok {K : Frg} {B : BX} {ρ : En} {μ : Mu} {σ : L2.St} {G H : Hp} {t : Tg} {p : PV} {v : V} {k : En → Prop} {Q : L2.St → Hp → Prop} {own : List Nat} (hw : ∀ i ∈ t.idx, i ∈ own) (R : Rel K B ρ μ σ G H) (r : Rep K B G p v) (h : setT t p ρ k)
    (hq : ∀ ρ' σ', k ρ' → Rel K B ρ' μ σ' G H → wipe σ' own = wipe σ own → Q σ' H) : tgOf K t v σ H Q := by
  cases t with
  | one i => exact hq _ _ h (R.set i r) (wipe_ext (by rw [List.length_set]) fun j hj => List.getElem?_set_ne fun z => hj (by rw [← z]; exact hw i (by unfold Tg.idx; exact List.mem_cons_self)))
  | many is =>
    cases p with
    | tup xs =>
      obtain ⟨hl, hk⟩ := h
      obtain ⟨a, vs, rfl, sq, rs⟩ := r.tup_inv
      have hv := rs.length
      exact ⟨a, vs, rfl, R.ok.sub.t sq, by omega, gNs_ok (by omega) (hq _ _ hk (R.setAll rs) (wipe_ext (setVs_len _ _ _) fun j hj => setVs_out _ _ _ fun z => hj (hw j z)))⟩
    | _ => exact h.elim
  | nest i is =>
    unfold setT at h
    dsimp only at h
    split at h
    · rename_i a xs
      obtain ⟨hl, hk⟩ := h
      obtain ⟨a0, vs, rfl, sq, rs⟩ := r.tup_inv
      obtain ⟨v1, w1, rfl, r1, rs⟩ := rs.cons_inv
      obtain ⟨v2, w2, rfl, r2, rs⟩ := rs.cons_inv
      obtain rfl := rs.nil_inv
      obtain ⟨a2, vs2, rfl, sq2, rs2⟩ := r2.tup_inv
      have hv := rs2.length
      refine ⟨a0, _, rfl, R.ok.sub.t sq, rfl, v1, _, rfl, V.ref a2, [], rfl, a2, vs2, rfl, R.ok.sub.t sq2, by omega, gNs_ok (by omega) ⟨rfl, ?_⟩⟩
      refine hq _ _ hk ((R.set i r1).setAll rs2) (wipe_ext (by rw [setVs_len, List.length_set]) fun j hj => ?_)
      rw [setVs_out _ _ _ fun z => hj (hw j (List.mem_cons_of_mem _ z))]
      exact List.getElem?_set_ne fun z => hj (by rw [← z]; exact hw i List.mem_cons_self)
    · exact h.elim
section
variable {X : Cx} {pos : Pos}
theorem g_one (i : Nat) {x : Str} (nd : X.N.Nodup) (hi : X.N[i]? = some x := by rfl) (hx : Loc X.env.scope x := by first | exact Or.inl rfl | exact Or.inr rfl) (hf : X.fn x = true ∨ X.env.scope.names.lookup x = some .local := by first | exact .inl rfl | exact .inr rfl | assumption) : PG X (.Name x pos) (tgOf X.K (.one i)) := pg_name nd hi hx hf
/-- the names of a tuple target -/
inductive GJ (X : Cx) : List Expr → List Nat → Prop where
  | nil : GJ X [] []
  | cons {x : Str} {p : Pos} {i : Nat} {es : List Expr} {is : List Nat} (h : PG X (.Name x p) (gName i)) (t : GJ X es is) : GJ X (.Name x p :: es) (i :: is)
theorem GJ.pg : ∀ {es : List Expr} {is : List Nat}, GJ X es is → PGs X es (gNs is)
  | _, _, .nil => pgs_nil
  | _, _, .cons h t => pgs_cons h t.pg
theorem GJ.len : ∀ {es : List Expr} {is : List Nat}, GJ X es is → es.length = is.length
  | _, _, .nil => rfl
  | _, _, .cons h t => by simp [t.len]
end
def forD (t : Tg) (db : DS) : List PV → DS
  | [], P, ρ, μ => P.nx ρ μ
  | x :: xs, P, ρ, μ => setT t x ρ fun ρ' => db { P with nx := fun ρ'' μ'' => Lk (forD t db xs P ρ'' μ''), ct := fun ρ'' μ'' => Lk (forD t db xs P ρ'' μ''), bk := P.nx } ρ' μ
def dFor (t : Tg) (di : DI) (db : DS) : DS := fun P ρ μ => di ρ μ (fun xs μ' => Lk (forD t db xs P ρ μ')) (fun xv μ' => P.xc xv ρ μ')
theorem drop_get {α : Type} {xs : List α} {i : Nat} (h : i < xs.length) : xs.drop i = xs[i] :: xs.drop (i + 1) := List.drop_eq_getElem_cons h
theorem s_for {X : Cx} {W : WX} {tg iter : Expr} {body : List Stmt} {pos : Pos} {di : DI} {db : DS} {t : Tg} (hp : PassesOwn (model X.prog X.w) X.A X.env X.xe) (hc : X.calm = true) (hi : IJ X W tg iter di) (hg : PG X tg (tgOf X.K t)) (hb : BJ X W body db)
    (hs : ∀ x, foldedSetIterable iter X.env x = pure x := by intro _; rfl) : SJ X W (.For tg iter body [] pos) (dFor t di db) := ps_imp (ps_for hp hc hi hg hb hs) fun D σ H ⟨B, ρ, μ, G, P, R, h, eo⟩ => by
  refine ⟨B, ρ, μ, G, _, _, R, h, fun xs J μ1 G1 H1 hf g1 io => ?_, eo.gx R⟩
  have eo1 := eo.go g1
  refine ⟨fun i m σ' H' => m = xs.length - i ∧ i ≤ xs.length ∧ ∃ ρ' μ' G', Rel X.K B ρ' μ' σ' G' H' ∧ Go X.K B μ1 G1 H1 μ' G' H' ∧ forD t db (xs.drop i) P ρ' μ', ⟨xs.length, by omega, Nat.zero_le _, ρ, μ1, G1, R.go g1, .refl g1.ok, hf.un⟩, ?_⟩
  rintro i m σ' H' ⟨rfl, hle, ρ', μ', G', R', g', hf'⟩
  by_cases hlt : i < xs.length
  · rw [drop_get hlt] at hf'
    refine .inr ⟨io.go i μ' G' H' g'.gx R'.ok hlt, fun σ2 H2 => ∃ ρ2 μ2 G2, Rel X.K B ρ2 μ2 σ2 G2 H2 ∧ Go X.K B μ1 G1 H1 μ2 G2 H2 ∧ forD t db (xs.drop (i + 1)) P ρ2 μ2, fun σ2 H2 ⟨ρ2, μ2, G2, R2, g2, h2⟩ => ⟨xs.length - (i + 1), by omega, rfl, hlt, ρ2, μ2, G2, R2, g2, h2⟩, fun v H2 y => ?_⟩
    obtain ⟨G2, g2, r2⟩ := io.yld i μ' G' H' v H2 xs[i] g'.gx R'.ok (List.getElem?_eq_getElem hlt) y
    have g12 := g'.trans g2
    refine tg_ok (own := t.idx) (fun _ z => z) (R'.go g2) r2 hf' fun ρ3 σ3 h3 R3 _ => ?_
    have eo2 := eo1.go g12
    exact ⟨B, ρ3, μ', G2, _, R3, h3, ⟨fun ρ4 σ4 μ4 G4 H4 h4 R4 g4 => ⟨ρ4, μ4, G4, R4, g12.trans g4, h4.un⟩, eo2.rt, eo2.nx, fun ρ4 σ4 μ4 G4 H4 h4 R4 g4 => ⟨ρ4, μ4, G4, R4, g12.trans g4, h4.un⟩, eo2.xc⟩⟩
  · have e : i = xs.length := by omega
    subst e
    rw [List.drop_length] at hf'
    exact .inl ⟨io.stop _ μ' G' H' g'.gx R'.ok (Nat.le_refl _), eo1.nx _ _ _ _ _ hf' R' g'⟩
def wipeE (ρ : En) : List Nat → En
  | [] => ρ
  | v :: vs => (wipeE ρ vs).set v none
theorem wipeE_len (ρ : En) : ∀ vs : List Nat, (wipeE ρ vs).length = ρ.length
  | [] => rfl
  | v :: vs => by unfold wipeE; rw [List.length_set, wipeE_len ρ vs]
theorem wipeE_some {ρ : En} {i : Nat} {s : PV} : ∀ {vs : List Nat}, (wipeE ρ vs)[i]? = some (some s) → ρ[i]? = some (some s) ∧ i ∉ vs
  | [], h => ⟨h, by simp⟩
  | v :: vs, h => by
    unfold wipeE at h
    rcases set_get h with ⟨_, z⟩ | ⟨n, z⟩
    · cases z
    · obtain ⟨h1, h2⟩ := wipeE_some z
      exact ⟨h1, by simp only [List.mem_cons, not_or]; exact ⟨fun e => n e.symm, h2⟩⟩
theorem Rel.wipe {K : Frg} {B : BX} {ρ : En} {μ : Mu} {σ : L2.St} {G H : Hp} (R : Rel K B ρ μ σ G H) (vs : List Nat) : Rel K B (wipeE ρ vs) μ (L2.wipe σ vs) G H :=
  R.weak (by rw [wipe_length, wipeE_len]; exact R.len) fun i s e => by
    obtain ⟨h1, h2⟩ := wipeE_some e
    exact ⟨h1, wipe_get2 h2⟩
def noX : QX := fun _ _ => False
def lcD (t : Tg) (own : List Nat) (dt : DT) (de : DE) (ρ : En) (q : List PV → Mu → Prop) : List PV → List PV → Mu → Prop
  | [], acc, μ => q acc μ
  | y :: ys, acc, μ => setT t y (wipeE ρ own) fun ρ' => dt ρ' μ (fun b μ1 => br b (de ρ' μ1 (fun p μ2 => Lk (lcD t own dt de ρ q ys (acc ++ [p]) μ2)) noX) (Lk (lcD t own dt de ρ q ys acc μ1))) noX
def lComp (t : Tg) (own : List Nat) (di : DI) (dt : DT) (de : DE) : DL := fun ρ μ q x => di ρ μ (fun xs μ1 => xs.length ≤ sizeLine ∧ Lk (lcD t own dt de ρ q xs [] μ1)) x
abbrev Wno : WX := fun _ _ _ _ => False
/-- the tests of a comprehension -/
abbrev TsJ (X : Cx) (W : WX) (ifs : List Expr) (d : DT) : Prop := PTs X ifs (tT X.K W d)
def dYes : DT := fun _ μ q _ => q true μ
theorem ts_nil {X : Cx} {W : WX} : TsJ X W [] dYes := ⟨fun pins s σ H Q J ⟨B, ρ, μ, G, q, x, R, h, gv, gx⟩ => pts_nil.run pins s σ H Q J (gv true μ G H h (.refl R.ok))⟩
theorem ts_one {X : Cx} {W : WX} {c : Expr} {d : DT} (h : TJ X W c d) : TsJ X W [c] d := pts_one h
theorem tlc_of {K : Frg} {W : WX} {t : Tg} {own : List Nat} {di : DI} {dt : DT} {de : DE} (hw : ∀ i ∈ t.idx, i ∈ own) {σ : L2.St} {H : Hp} {Q : VK} (h : tL K W (lComp t own di dt de) σ H Q) : tLc (tI K W di) (tgOf K t) (tT K Wno dt) (tE K Wno de) own σ H Q := by
  obtain ⟨B, ρ, μ, G, q, x, R, h, gl, gx⟩ := h
  refine ⟨B, ρ, μ, G, _, x, R, h, fun xs J μ1 G1 H1 ⟨hz, hf⟩ g1 io => ?_, gx⟩
  intro D hD
  have o1 := g1.ok
  have g1' := o1.new2 (u := .lst []) hD
  have hD0 : H D = none := g1.st.dom D hD
  have nbD : ¬ isB B D := o1.notB hD
  have gD : G1 D = none := o1.sub.free hD
  have mD : μ1 D = none := o1.freeM hD
  have Rw : Rel K B (wipeE ρ own) μ1 (L2.wipe σ own) G1 (upd H1 D (.lst [])) := (R.go (g1.trans g1')).wipe own
  -- a step that knows nothing of D
  have stays : ∀ {μa μb : Mu} {Ga Ha Gb Hb : Hp} {av : List V}, Go K B μa Ga Ha μb Gb Hb → Ga D = none → μa D = none → Ha D = some (.lst av) → Gb D = none ∧ μb D = none ∧ Hb D = some (.lst av) := fun {μa μb Ga Ha Gb Hb av} g n m e => by
    exact g.hid n m e nbD (by intro _ e; cases e) (by intro _ e; cases e)
  refine ⟨fun i m H' => m = xs.length - i ∧ i ≤ xs.length ∧ ∃ μ' G' acc av, Rel K B (wipeE ρ own) μ' (L2.wipe σ own) G' H' ∧ Go K B μ G H μ' G' H' ∧ Sub G1 G' ∧ G' D = none ∧ μ' D = none ∧ H' D = some (.lst av) ∧ Reps K B G' acc av ∧ acc.length ≤ i ∧ lcD t own dt de ρ q (xs.drop i) acc μ',
    ⟨xs.length, by omega, Nat.zero_le _, μ1, G1, [], [], Rw, g1.trans g1', .refl _, gD, mD, upd_same, .nil, Nat.le_refl _, hf.un⟩, ?_⟩
  rintro i m H' ⟨rfl, hle, μ', G', acc, av, R', g', sb, gD', mD', hD', rs, hal, hf'⟩
  by_cases hlt : i < xs.length
  · rw [drop_get hlt] at hf'
    refine .inr ⟨io.go i μ' G' H' sb R'.ok hlt, fun H2 => ∃ μ2 G2 acc2 av2, Rel K B (wipeE ρ own) μ2 (L2.wipe σ own) G2 H2 ∧ Go K B μ G H μ2 G2 H2 ∧ Sub G1 G2 ∧ G2 D = none ∧ μ2 D = none ∧ H2 D = some (.lst av2) ∧ Reps K B G2 acc2 av2 ∧ acc2.length ≤ i + 1 ∧ lcD t own dt de ρ q (xs.drop (i + 1)) acc2 μ2,
      fun H2 z => ⟨xs.length - (i + 1), by omega, rfl, hlt, z⟩, fun v H2 y => ?_⟩
    obtain ⟨G2, g2, r2⟩ := io.yld i μ' G' H' v H2 xs[i] sb R'.ok (List.getElem?_eq_getElem hlt) y
    refine tg_ok hw (R'.go g2) r2 hf' fun ρ3 σ3 h3 R3 hws => ⟨hws.trans (wipe_ext (wipe_length _ _) fun j hj => wipe_get2 hj), ?_⟩
    obtain ⟨gD2, mD2, hD2⟩ := stays g2 gD' mD' hD'
    refine ⟨B, ρ3, μ', G2, _, noX, R3, h3, fun b μ3 G3 H3 h4 g3 => ?_, fun _ _ _ _ _ z => z.elim⟩
    have g23 := g2.trans g3
    obtain ⟨gD3, mD3, hD3⟩ := stays g3 gD2 mD2 hD2
    cases b with
    | false => exact ⟨μ3, G3, acc, av, R'.go g23, g'.trans g23, sb.trans g23.gx, gD3, mD3, hD3, rs.mono g23.gx, by omega, (h4.f rfl).un⟩
    | true =>
      refine ⟨B, ρ3, μ3, G3, _, noX, R3.go g3, h4.t rfl, fun p u μ4 G4 H4 h5 g4 r4 => ?_, fun _ _ _ _ _ z => z.elim⟩
      obtain ⟨gD4, mD4, hD4⟩ := stays g4 gD3 mD3 hD3
      have hlen := rs.length
      have g24 := g23.trans g4
      have g := g'.trans g24
      have ok5 : Ok K B μ4 G4 (upd H4 D (.lst (av ++ [u]))) := g4.ok.mut hD4 gD4 mD4 nbD
      refine ⟨av, hD4, by omega, μ4, G4, acc ++ [p], av ++ [u], ⟨ok5, (R'.go g24).len, (R'.go g24).at_⟩, ⟨ok5, ⟨g.st.gx, fun a e => ?_, fun a o e nb mm nt => ?_, g.st.new, g.st.cel⟩⟩, sb.trans g24.gx, gD4, mD4, upd_same, (rs.mono g24.gx).append (.cons r4 .nil), by simp; omega, h5.un⟩
      · by_cases z : a = D
        · subst z; exact hD0
        · rw [upd_ne z] at e; exact g.st.dom a e
      · rw [upd_ne (ne_of_none e hD0)]
        exact g.st.keep a o e nb mm nt
  · have e : i = xs.length := by omega
    subst e
    rw [List.drop_length] at hf'
    exact .inl ⟨io.stop _ μ' G' H' sb R'.ok (Nat.le_refl _), gl acc D av μ' G' H' hf' g' hD0 gD' mD' hD' rs⟩
theorem l_comp {X : Cx} {W : WX} {elt tg iter : Expr} {ifs : List Expr} {scope : Scope} {own : List (Str × Nat)} {pos : Pos} {di : DI} {dt : DT} {de : DE} {t : Tg} (hc : X.calm = true) (nd : X.N.Nodup) (hi : IJ X W tg iter di) (ok : BlkOk X.N X.env.scope scope own)
    (hg : ∀ (s : Shared) (H : Hp) (C : Addr) (cl : List (Str × Addr)) (fp : List Addr), PG (X.blk s H scope (compEnvC scope cl C X.env) fp) tg (tgOf X.K t)) (ht : ∀ (s : Shared) (H : Hp) (C : Addr) (cl : List (Str × Addr)) (fp : List Addr), TsJ (X.blk s H scope (compEnvC scope cl C X.env) fp) Wno ifs dt)
    (he : ∀ (s : Shared) (H : Hp) (C : Addr) (cl : List (Str × Addr)) (fp : List Addr), EJ (X.blk s H scope (compEnvC scope cl C X.env) fp) Wno elt de) (hw : ∀ i ∈ t.idx, i ∈ own.map (·.2) := by decide) (hs : ∀ x, foldedSetIterable iter X.env x = pure x := by intro _; rfl) :
    LJ X W (.ListComp elt [⟨tg, iter, ifs, 0⟩] scope pos) (lComp t (own.map (·.2)) di dt de) := pe_imp (pe_lc hc nd hi ok hg ht he hs) fun σ H Q h => tlc_of hw h
theorem forD_c {t : Tg} {db : DS} {x : PV} {xs ys : List PV} {P : DEn} {ρ : En} {μ : Mu} (e : ys = x :: xs) (h : setT t x ρ fun ρ' => db { P with nx := fun ρ'' μ'' => Lk (forD t db xs P ρ'' μ''), ct := fun ρ'' μ'' => Lk (forD t db xs P ρ'' μ''), bk := P.nx } ρ' μ) : Lk (forD t db ys P ρ μ) := by
  subst e
  exact ⟨h⟩
theorem forD_n {t : Tg} {db : DS} {ys : List PV} {P : DEn} {ρ : En} {μ : Mu} (e : ys = []) (h : P.nx ρ μ) : Lk (forD t db ys P ρ μ) := by
  subst e
  exact ⟨h⟩
theorem lcD_c {t : Tg} {own : List Nat} {dt : DT} {de : DE} {ρ : En} {q : List PV → Mu → Prop} {y : PV} {ys zs acc : List PV} {μ : Mu} (e : zs = y :: ys) (h : setT t y (wipeE ρ own) fun ρ' => dt ρ' μ (fun b μ1 => br b (de ρ' μ1 (fun p μ2 => Lk (lcD t own dt de ρ q ys (acc ++ [p]) μ2)) noX) (Lk (lcD t own dt de ρ q ys acc μ1))) noX) : Lk (lcD t own dt de ρ q zs acc μ) := by
  subst e
  exact ⟨h⟩
theorem lcD_n {t : Tg} {own : List Nat} {dt : DT} {de : DE} {ρ : En} {q : List PV → Mu → Prop} {zs acc : List PV} {μ : Mu} (e : zs = []) (h : q acc μ) : Lk (lcD t own dt de ρ q zs acc μ) := by
  subst e
  exact ⟨h⟩
end Px
namespace Px
open PySem PySem.Spec PyProof.Rows L2
def subCl : Cl → Cl → Bool := fun c d => decide (c = d) || (match c, d with
  | .Filter, .Ink => true | .Opaque, .Ink => true | .Bleach, .Ink => true
  | _, _ => false)
def tys : List String := ["int", "str", "bool", "tuple", "list", "dict"]
structure KC (K : Frg) (c : Cl) : Prop where
  cls : Cls K (ca K c)
  k1 : PySem.W.findIn K (.ref (ca K c)) "__class__" = some (some (.builtin "object.__class__"))
  k2 : PySem.W.specialIn K (.builtin "object.__class__") "__get__" = some (some (.builtin "getset_descriptor.__get__"))
  k3 : PySem.W.takesIn K (.builtin "object.__class__") = some true
  k4 : PySem.W.mroIn K (ca K c) (.type "object") = some true
  k5 : PySem.W.findIn K (.ref (ca K c)) "__ne__" = some (some (.builtin "object.__ne__"))
  no : ∀ f ∈ c.flds, NoAttr K (ca K c) f
theorem kcB_ok {K : Frg} {c : Cl} (h : kcB K c = true) : KC K c := by
  obtain ⟨h1, h⟩ := He.ba h
  obtain ⟨h2, h⟩ := He.ba h
  obtain ⟨h3, h⟩ := He.ba h
  obtain ⟨h4, h⟩ := He.ba h
  obtain ⟨h5, h⟩ := He.ba h
  obtain ⟨h7, h6⟩ := He.ba h
  exact ⟨He.cls_ok h1, He.eqO_ok h2, He.eqO_ok h3, of_decide_eq_true h4, of_decide_eq_true h5, He.eqO_ok h7, fun f hf => He.eqO_ok (List.all_eq_true.mp h6 f hf)⟩
def allCl : List Cl := [.Light, .Film, .Ink, .Filter, .Opaque, .Bleach, .Pass, .Row, .Spot, .Chart, .Shape, .Sheet, .Press, .PrintError, .InvalidBand, .InvalidInk, .InvalidTakes, .InvalidPass, .NoSuchPass, .NotAnOrder, .TooLong, .TooManyMasks,
  .Conditional, .CannotCome, .InvalidShape, .WrongSize, .UnknownMask, .UnknownPlace, .InvalidText, .NothingToUndo, .NothingToRedo, .InvalidLimit, .InvalidRun]
theorem allCl_mem (c : Cl) : c ∈ allCl := by cases c <;> simp [allCl]
/-- what an except clause answers -/
def subX (c d : Cl) : Bool := decide (c = d) || decide (d = .PrintError)
def tyn : List String := "NoneType" :: tys
/-- what is known of the classes, pair by pair -/
structure KA (K : Frg) : Prop where
  oo : ∀ c d, kcB K c = true → knB K d = true → PySem.W.kitOne K (.ref (ca K c)) (.ref (ca K d)) = some (subCl c d)
  ot : ∀ c, kcB K c = true → ∀ n ∈ tys, PySem.W.kitOne K (.ref (ca K c)) (.type n) = some false
  to : ∀ c, knB K c = true → ∀ n ∈ tys, PySem.W.kitOne K (.type n) (.ref (ca K c)) = some false
  no : ∀ c, knB K c = true → PySem.W.kitOne K (.type "NoneType") (.ref (ca K c)) = some false
  sb : ∀ c d, kcB K c = true → kcB K d = true → PySem.W.subIn K (.ref (ca K c)) (.ref (ca K d)) = some (subCl c d)
  st : ∀ c, kcB K c = true → ∀ n ∈ tyn, PySem.W.subIn K (.type n) (.ref (ca K c)) = some false
  xm : ∀ c d, xcB K c = true → xcB K d = true → PySem.W.exmOne K (.ref (ca K c)) (.ref (ca K d)) = some (subX c d)
def kaB2 (K : Frg) (hs : List Cl) : Bool := hs.all fun c => (hs.all fun d => decide (PySem.W.subIn K (.ref (ca K c)) (.ref (ca K d)) = some (subCl c d))) && tyn.all fun n => decide (PySem.W.subIn K (.type n) (.ref (ca K c)) = some false)
def kaB1 (K : Frg) (hs xs : List Cl) : Bool := (hs.all fun c => ((hs ++ xs).all fun d => decide (PySem.W.kitOne K (.ref (ca K c)) (.ref (ca K d)) = some (subCl c d))) && tys.all fun n => decide (PySem.W.kitOne K (.ref (ca K c)) (.type n) = some false)) &&
  (((hs ++ xs).all fun c => (tys.all fun n => decide (PySem.W.kitOne K (.type n) (.ref (ca K c)) = some false)) && decide (PySem.W.kitOne K (.type "NoneType") (.ref (ca K c)) = some false)) &&
  xs.all fun c => xs.all fun d => decide (PySem.W.exmOne K (.ref (ca K c)) (.ref (ca K d)) = some (subX c d)))
/-- hs, xs: the classes of the text; the others are not known -/
def kaB (K : Frg) (hs xs : List Cl) : Bool := (allCl.all fun c => (decide (c ∈ hs) || !kcB K c) && (decide (c ∈ xs) || !xcB K c)) && (kaB1 K hs xs && kaB2 K hs)
theorem kaB_ok {K : Frg} {hs xs : List Cl} (h : kaB K hs xs = true) : KA K := by
  obtain ⟨h1, h2⟩ := He.ba h
  obtain ⟨h2, g4⟩ := He.ba h2
  obtain ⟨g1, h2⟩ := He.ba h2
  obtain ⟨g2, g3⟩ := He.ba h2
  have inh : ∀ c, kcB K c = true → c ∈ hs := fun c hc => by
    have := (He.ba (List.all_eq_true.mp h1 c (allCl_mem c))).1
    rw [hc] at this
    simpa using this
  have inx : ∀ c, xcB K c = true → c ∈ xs := fun c hc => by
    have := (He.ba (List.all_eq_true.mp h1 c (allCl_mem c))).2
    rw [hc] at this
    simpa using this
  have ink : ∀ c, knB K c = true → c ∈ hs ++ xs := fun c hc => by
    rcases Bool.or_eq_true_iff.mp hc with z | z
    · exact List.mem_append_left _ (inh c z)
    · exact List.mem_append_right _ (inx c z)
  refine ⟨fun c d hc hd => ?_, fun c hc n hn => ?_, fun c hc n hn => ?_, fun c hc => ?_, fun c d hc hd => ?_, fun c hc n hn => ?_, fun c d hc hd => ?_⟩
  · exact of_decide_eq_true (List.all_eq_true.mp (He.ba (List.all_eq_true.mp g1 c (inh c hc))).1 d (ink d hd))
  · exact of_decide_eq_true (List.all_eq_true.mp (He.ba (List.all_eq_true.mp g1 c (inh c hc))).2 n hn)
  · exact of_decide_eq_true (List.all_eq_true.mp (He.ba (List.all_eq_true.mp g2 c (ink c hc))).1 n hn)
  · exact of_decide_eq_true (He.ba (List.all_eq_true.mp g2 c (ink c hc))).2
  · exact of_decide_eq_true (List.all_eq_true.mp (He.ba (List.all_eq_true.mp g4 c (inh c hc))).1 d (inh d hd))
  · exact of_decide_eq_true (List.all_eq_true.mp (He.ba (List.all_eq_true.mp g4 c (inh c hc))).2 n hn)
  · exact of_decide_eq_true (List.all_eq_true.mp (List.all_eq_true.mp g3 c (inx c hc)) d (inx d hd))
theorem br_and {b : Bool} {A : Prop} (h : br b A False) : b = true ∧ A := by
  cases b
  · exact (h.f rfl).elim
  · exact ⟨rfl, h.t rfl⟩
/-- the place of a field -/
def fldAt (f : Str) : List Str → List PV → Option PV
  | g :: gs, x :: xs => match decEq f g with
    | Decidable.isTrue _ => some x
    | Decidable.isFalse _ => fldAt f gs xs
  | _, _ => none
theorem fldAt_ok {K : Frg} {B : BX} {G : Hp} {f : Str} {x : PV} : ∀ {gs : List Str} {xs : List PV} {vs : List V}, fldAt f gs xs = some x → Reps K B G xs vs → f ∈ gs ∧ ∃ v, (gs.zip vs).lookup f = some v ∧ Rep K B G x v
  | [], xs, vs, e, r => by cases xs <;> simp [fldAt] at e
  | g :: gs, [], vs, e, r => by simp [fldAt] at e
  | g :: gs, y :: xs, vs, e, r => by
    obtain ⟨v, ws, rfl, r1, r2⟩ := r.cons_inv
    unfold fldAt at e
    cases z : decEq f g with
    | isTrue h =>
      rw [z] at e
      cases e
      subst h
      exact ⟨List.mem_cons_self, v, by simp [List.lookup], r1⟩
    | isFalse h =>
      rw [z] at e
      obtain ⟨m, u, e1, e2⟩ := fldAt_ok e r2
      have hb : (f == g) = false := by simpa using h
      exact ⟨List.mem_cons_of_mem _ m, u, by simp [List.lookup, hb, e1], e2⟩
theorem lookup_zip_none {f : Str} : ∀ {gs : List Str} {vs : List V}, f ∉ gs → (gs.zip vs).lookup f = none
  | [], vs, _ => rfl
  | g :: gs, [], _ => rfl
  | g :: gs, v :: vs, h => by
    have hb : (f == g) = false := by
      have : f ≠ g := fun z => h (by rw [z]; exact List.mem_cons_self)
      simpa using this
    simp only [List.zip_cons_cons, List.lookup, hb]
    exact lookup_zip_none fun z => h (List.mem_cons_of_mem _ z)
/-- .. among fields told so far -/
def fldIn (f : Str) : List (Str × PV) → Option PV
  | (g, x) :: r => match decEq f g with
    | Decidable.isTrue _ => some x
    | Decidable.isFalse _ => fldIn f r
  | [] => none
theorem fldIn_ok {K : Frg} {B : BX} {G : Hp} {f : Str} {x : PV} : ∀ {fs : List (Str × PV)} {ws : List (Str × V)}, fldIn f fs = some x → FRep K B G fs ws → ∃ v, ws.lookup f = some v ∧ Rep K B G x v
  | [], ws, e, r => by cases e
  | (g, y) :: fs, ws, e, r => by
    cases r with
    | cons q t =>
      rename_i w ws'
      obtain ⟨h, u⟩ := w
      obtain ⟨q1, q2⟩ := q
      have q1 : g = h := q1
      subst q1
      unfold fldIn at e
      cases z : decEq f g with
      | isTrue hh =>
        rw [z] at e
        cases e
        subst hh
        exact ⟨u, by simp [List.lookup], q2⟩
      | isFalse hh =>
        rw [z] at e
        obtain ⟨v, e1, e2⟩ := fldIn_ok e t
        have hb : (f == g) = false := by simpa using hh
        exact ⟨v, by simp [List.lookup, hb, e1], e2⟩
def memS (f : Str) : List Str → Bool
  | [] => false
  | g :: gs => match decEq f g with
    | Decidable.isTrue _ => true
    | Decidable.isFalse _ => memS f gs
theorem memS_ok {f : Str} : ∀ {hs : List Str}, memS f hs = true → f ∈ hs
  | [], h => by cases h
  | d :: ds, h => by
    unfold memS at h
    cases e : decEq f d with
    | isTrue z => subst z; exact List.mem_cons_self
    | isFalse z => rw [e] at h; exact List.mem_cons_of_mem _ (memS_ok h)
def attrP (f : Str) : FU := fun p μ q _ => match p with
  | .obj c xs => (match fldAt f c.flds xs with
    | some x => q x μ
    | none => False)
  | .cell a => (match μ a with
    | some (.ins c fs) => br (memS f c.flds) (match fldIn f fs with
      | some x => q x μ
      | none => False) False
    | _ => False)
  | _ => False
section
variable {X : Cx} {W : WX} {pos p0 : Pos} {e : Expr} {es : List Expr} {d : DE} {ds : DA}
theorem UnJ.or {op : Value → Sem Value} {f g h : FU} (hf : UnJ X W op f) (hg : UnJ X W op g) (i : ∀ a μ q x, h a μ q x → f a μ q x ∨ g a μ q x) : UnJ X W op h := fun pins s σ H B ρ μ G a va u q x Q J R ra ru z gv gx =>
  (i a μ q x z).elim (fun z => hf pins s σ H B ρ μ G a va u q x Q J R ra ru z gv gx) fun z => hg pins s σ H B ρ μ G a va u q x Q J R ra ru z gv gx
theorem e_att {f : Str} {g : FU} (ho : UnJ X W (fun u => getAttr u f true) g) (ha : EJ X W e d) (hb : attributeBase e f X.env (eval e X.env) = eval e X.env := by rfl) : EJ X W (.Attribute e f pos) (dUn g d) := by
  refine ⟨fun pins s σ H Q J ⟨B, ρ, μ, G, q, z, R, h, gv, gx⟩ => ?_⟩
  refine attr_of hb (thn (ha.run pins s σ H (fun v H1 => ∃ μ1 G1 p, Go X.K B μ G H μ1 G1 H1 ∧ Rep X.K B G1 p v ∧ g p μ1 q z) J
    ⟨B, ρ, μ, G, _, z, R, h, fun p v μ1 G1 H1 h1 g1 r1 => ⟨μ1, G1, p, g1, r1, h1⟩, gx⟩) fun u s1 ⟨v, H1, J1, rv, μ1, G1, p, g1, rp, hf⟩ => ?_)
  exact ho pins s1 σ H1 B ρ μ1 G1 p v u q z Q J1 (R.go g1) rp rv hf (gv.go g1) (gx.go g1)
theorem uj_attr {f : Str} : UnJ X W (fun u => getAttr u f true) (attrP f) := fun pins s σ H B ρ μ G p v u q x Q J R rp ru h gv gx => by
  cases p with
  | obj c xs =>
    unfold attrP at h
    cases e2 : fldAt f c.flds xs with
    | none => simp only [e2] at h
    | some y =>
      simp only [e2] at h
      obtain ⟨a, dx, vs, rfl, kc, ea, hl, rs⟩ := rp.obj_inv
      obtain ⟨m, w, e3, r3⟩ := fldAt_ok e2 rs
      obtain rfl : u = Value.ref a := ru
      exact getattr_ok J (R.ok.sub _ _ ea) (kcB_ok kc).cls ((kcB_ok kc).no f m) e3 fun u' s2 I2 ru' => ⟨w, H, I2, ru', gv _ _ _ _ _ h (.refl R.ok) r3⟩
  | cell a =>
    unfold attrP at h
    cases e : μ a with
    | none => simp only [e] at h
    | some c0 =>
      cases c0 with
      | ins c fs =>
        simp only [e] at h
        obtain ⟨hf, h⟩ := br_and h
        have hf := memS_ok hf
        cases e2 : fldIn f fs with
        | none => simp only [e2] at h
        | some y =>
          simp only [e2] at h
          obtain ⟨_, _, o, ha, dx, ws, rfl, kc, fl, fr⟩ := R.ok.cell a _ e
          obtain ⟨w, e3, r3⟩ := fldIn_ok e2 fr
          rw [rp.cell_inv] at ru
          obtain rfl : u = Value.ref a := ru
          exact getattr_ok J ha (kcB_ok kc).cls ((kcB_ok kc).no f hf) e3 fun u' s2 I2 ru' => ⟨w, H, I2, ru', gv _ _ _ _ _ h (.refl R.ok) r3⟩
      | _ => simp only [e] at h
  | _ => exact h.elim
end
abbrev FC := List PV → Mu → QV → QX → Prop
def CaJ (X : Cx) (W : WX) (fn : Value) (f : FC) : Prop := ∀ (pins : List (Addr × Obj)) (s : Shared) (σ : L2.St) (H : Hp) (B : BX) (ρ : En) (μ : Mu) (G : Hp) (ps : List PV) (vs : List V) (us : List Value) (q : QV) (x : QX) (Q : VK), Inv X pins σ H s → Rel X.K B ρ μ σ G H → Reps X.K B G ps vs → Vals vs us →
    f ps μ q x → GoodV X.K B μ G H q Q → GoodX X.K W B μ G H σ x → wpAny (model X.prog X.w) X.A (call fn us) (EP X pins σ Q) X.xe s
/-- f tells what the reading r of a call asks -/
def PCl (K : Frg) (r : List V → Hp → VK → Prop) (f : Mu → List PV → (PV → Prop) → Prop) : Prop := ∀ (B : BX) (μ : Mu) (G H : Hp) (ps : List PV) (vs : List V) (q : PV → Prop) (Q : VK), Ok K B μ G H → Reps K B G ps vs → f μ ps q → (∀ p v G' H', q p → Go K B μ G H μ G' H' → Rep K B G' p v → Q v H') → r vs H Q
def fc (f : Mu → List PV → (PV → Prop) → Prop) : FC := fun ps μ q _ => f μ ps (fun p => q p μ)
def dBlt (f : FC) (ds : DA) : DE := fun ρ μ q x => ds ρ μ (fun ps μ1 => f ps μ1 q x) x
section
variable {X : Cx} {W : WX} {pos p0 : Pos} {e : Expr} {es : List Expr} {d : DE} {ds : DA} {r : List V → Hp → VK → Prop} {f : FC} {x : Str} {id : String}
theorem CaJ.of {fn : Value} {f : Mu → List PV → (PV → Prop) → Prop} (ho : CallR X fn r) (hp : PCl X.K r f) : CaJ X W fn (fc f) := fun pins s σ H B ρ μ G ps vs us q x Q J R rs ru h gv gx =>
  ho pins s σ H vs us Q J ru (hp B μ G H ps vs _ Q R.ok rs h fun p v G' H' hq g rp => gv p v μ G' H' hq g rp)
theorem CaJ.or {fn : Value} {f g h : FC} (hf : CaJ X W fn f) (hg : CaJ X W fn g) (i : ∀ ps μ q x, h ps μ q x → f ps μ q x ∨ g ps μ q x) : CaJ X W fn h := fun pins s σ H B ρ μ G ps vs us q x Q J R rs ru z gv gx =>
  (i ps μ q x z).elim (fun z => hf pins s σ H B ρ μ G ps vs us q x Q J R rs ru z gv gx) fun z => hg pins s σ H B ρ μ G ps vs us q x Q J R rs ru z gv gx
/-- the call's reading once the arguments are known -/
def rC (K : Frg) (W : WX) (f : FC) (Q : VK) (σ : L2.St) (vs : List V) (H1 : Hp) : Prop := ∃ (B : BX) (ρ : En) (μ : Mu) (G : Hp) (ps : List PV) (q : QV) (z : QX), Rel K B ρ μ σ G H1 ∧ Reps K B G ps vs ∧ f ps μ q z ∧ GoodV K B μ G H1 q Q ∧ GoodX K W B μ G H1 σ z
theorem rC_of {K : Frg} {σ : L2.St} {H : Hp} {Q : VK} (h : tE K W (dBlt f ds) σ H Q) : tA K W ds σ H (rC K W f Q σ) := by
  obtain ⟨B, ρ, μ, G, q, x, R, h, gv, gx⟩ := h
  exact ⟨B, ρ, μ, G, _, x, R, h, fun ps vs μ1 G1 H1 h1 g1 r1 => ⟨B, ρ, μ1, G1, ps, q, x, R.go g1, r1, h1, gv.go g1, gx.go g1⟩, gx⟩
theorem CaJ.run {fn : Value} (ho : CaJ X W fn f) {pins : List (Addr × Obj)} {s : Shared} {σ : L2.St} {H : Hp} {Q : VK} {vs : List V} {us : List Value} (J : Inv X pins σ H s) (ru : Vals vs us) (h : rC X.K W f Q σ vs H) : wpAny (model X.prog X.w) X.A (call fn us) (EP X pins σ Q) X.xe s := by
  obtain ⟨B, ρ, μ, G, ps, q, x, R, rs, h, gv, gx⟩ := h
  exact ho pins s σ H B ρ μ G ps vs us q x Q J R rs ru h gv gx
theorem e_blt (hc : CaJ X W (.builtin id) f) (hm : X.mg x = none) (hv : bootBuiltins x = some (.builtin id)) (ha : AJ X W (e :: es) ds) (hg : Gl X x := by rfl) (h1 : x ≠ "__name__" := by decide) (h2 : (x == ("__debug__" : Str)) = false := by decide)
    (h3 : starEach (e :: es) X.env = (false, eval e X.env) :: starEach es X.env := by rfl) (h4 : (backTo pos (starEach es X.env)).any (·.1) = false := by rfl) : EJ X W (.Call (.Name x p0) (e :: es) [] pos) (dBlt f ds) := by
  refine ⟨fun pins s σ H Q I h => ?_⟩
  refine wpAny_Call_Name_kw (ld_blt I hg hm hv ?_ h1 h2)
  exact PyProof.Rows.callWith_builtin1 (thn (ha.run pos pins s σ H _ I (rC_of h)) fun us s1 ⟨vs, H1, I1, r1, q1⟩ => hc.run I1 r1 q1) h3 h4
theorem e_bty (hc : CaJ X W (.type id) f) (hm : X.mg x = none) (hv : bootBuiltins x = some (.type id)) (ha : AJ X W (e :: es) ds) (hg : Gl X x := by rfl) (h1 : x ≠ "__name__" := by decide) (h2 : (x == ("__debug__" : Str)) = false := by decide)
    (h3 : starEach (e :: es) X.env = (false, eval e X.env) :: starEach es X.env := by rfl) (h4 : (backTo pos (starEach es X.env)).any (·.1) = false := by rfl) : EJ X W (.Call (.Name x p0) (e :: es) [] pos) (dBlt f ds) := by
  refine ⟨fun pins s σ H Q I h => ?_⟩
  refine wpAny_Call_Name_kw (ld_blt I hg hm hv ?_ h1 h2)
  exact PyProof.Rows.callWith_type1 (thn (ha.run pos pins s σ H _ I (rC_of h)) fun us s1 ⟨vs, H1, I1, r1, q1⟩ => hc.run I1 r1 q1) h3 h4
/-- a built-in class, as a value -/
theorem e_ty (n : String) {x : Str} (hm : X.mg x = none) (hv : bootBuiltins x = some (.type n)) (hg : Gl X x := by rfl) (h1 : x ≠ "__name__" := by decide) (h2 : (x == ("__debug__" : Str)) = false := by decide) : EJ X W (.Name x pos) (dC (.ty n)) := e_c (pe_bltn hg hm hv (show RelV (.ty n) _ from rfl) h1 h2) fun _ _ => rep_ty n
/-- len(..) of a text, a list, a tuple, a dict -/
def lenP (μ : Mu) (p : PV) (q : Int → Prop) : Prop := match p with
  | .str z => z.length ≤ sizeLine ∧ q z.length
  | p => (match seqOf μ p with
    | some (_, xs) => q xs.length
    | none => False)
def fLen : Mu → List PV → (PV → Prop) → Prop := fun μ ps q => match ps with
  | [p] => lenP μ p fun n => q (.int n)
  | _ => False
theorem pcl_len {K : Frg} : PCl K (fun xs H Q => ∃ x n, xs = [x] ∧ LenV K x H n ∧ Q (.int n) H) fLen := fun B μ G H ps vs q Q o rs h gv => by
  unfold fLen at h
  split at h
  · rename_i p
    obtain ⟨v, ws, rfl, r, rn⟩ := rs.cons_inv
    rw [rn.nil_inv]
    have rest : (match seqOf μ p with | some (_, xs) => q (.int xs.length) | none => False) → ∃ x n, [v] = [x] ∧ LenV K x H n ∧ Q (.int n) H := fun h => by
      cases e : seqOf μ p with
      | none => simp only [e] at h
      | some z =>
        obtain ⟨t, xs⟩ := z
        simp only [e] at h
        obtain ⟨a, us, rfl, rs2, hh⟩ := seq_ok o r e
        have l := rs2.length
        refine ⟨_, us.length, rfl, ?_, by rw [l]; exact gv _ _ _ _ h (.refl o) (rep_int _)⟩
        rcases hh with ⟨_, hh⟩ | ⟨_, hh⟩
        · exact .inl ⟨us, .inl (.inl hh), rfl⟩
        · exact .inr ⟨us, hh, rfl⟩
    cases p with
    | str z => rw [r.str_inv]; exact ⟨_, _, rfl, ⟨h.1, rfl⟩, gv _ _ _ _ h.2 (.refl o) (rep_int _)⟩
    | _ => exact rest h
  · exact h.elim
theorem cj_len : CaJ X W (.builtin "len") (fc fLen) := .of call_len pcl_len
def fInt : Mu → List PV → (PV → Prop) → Prop := fun _ ps q => match ps with
  | [.int i] => q (.int i)
  | [.bl k] => q (.int (if k then 1 else 0))
  | _ => False
theorem pcl_int {K : Frg} : PCl K (fun xs H Q => (∃ i, xs = [.int i] ∧ Q (.int i) H) ∨ ∃ k, xs = [.bl k] ∧ Q (.int (if k then 1 else 0)) H) fInt := fun B μ G H ps vs q Q o rs h gv => by
  unfold fInt at h
  split at h
  · exact .inl ⟨_, rs.int1, gv _ _ _ _ h (.refl o) (rep_int _)⟩
  · obtain ⟨v, ws, rfl, r, rn⟩ := rs.cons_inv
    exact .inr ⟨_, by rw [r.bl_inv, rn.nil_inv], gv _ _ _ _ h (.refl o) (rep_int _)⟩
  · exact h.elim
theorem cj_int : CaJ X W (.type "int") (fc fInt) := .of call_int1 pcl_int
def fBool : Mu → List PV → (PV → Prop) → Prop := fun _ ps q => match ps with
  | [.int i] => q (.bl (i != 0))
  | [.bl k] => q (.bl k)
  | _ => False
theorem pcl_bool {K : Frg} : PCl K (fun xs H Q => (∃ i, xs = [.int i] ∧ Q (.bl (i != 0)) H) ∨ ∃ k, xs = [.bl k] ∧ Q (.bl k) H) fBool := fun B μ G H ps vs q Q o rs h gv => by
  unfold fBool at h
  split at h
  · exact .inl ⟨_, rs.int1, gv _ _ _ _ h (.refl o) (rep_bl _)⟩
  · obtain ⟨v, ws, rfl, r, rn⟩ := rs.cons_inv
    exact .inr ⟨_, by rw [r.bl_inv, rn.nil_inv], gv _ _ _ _ h (.refl o) (rep_bl _)⟩
  · exact h.elim
theorem cj_bool : CaJ X W (.type "bool") (fc fBool) := .of call_bool1 pcl_bool
/-- all(..), any(..), sum(..) of a list -/
def onL (f : List PV → (PV → Prop) → Prop) : Mu → List PV → (PV → Prop) → Prop := fun μ ps q => match ps with
  | [p] => (match seqOf μ p with
    | some (false, xs) => f xs q
    | _ => False)
  | _ => False
theorem onL_inv {K : Frg} {B : BX} {μ : Mu} {G H : Hp} {f : List PV → (PV → Prop) → Prop} {ps : List PV} {vs : List V} {q : PV → Prop} (o : Ok K B μ G H) (rs : Reps K B G ps vs) (h : onL f μ ps q) : ∃ a us xs, vs = [.ref a] ∧ H a = some (.lst us) ∧ Reps K B G xs us ∧ f xs q := by
  unfold onL at h
  split at h
  · rename_i p
    obtain ⟨v, ws, rfl, r, rn⟩ := rs.cons_inv
    rw [rn.nil_inv]
    cases e : seqOf μ p with
    | none => simp only [e] at h
    | some z =>
      obtain ⟨t, xs⟩ := z
      cases t
      · simp only [e] at h
        obtain ⟨a, us, rfl, rs2, hh⟩ := seq_ok o r e
        rcases hh with ⟨_, hh⟩ | ⟨z, _⟩
        · exact ⟨a, us, xs, rfl, hh, rs2, h⟩
        · cases z
      · simp only [e] at h
  · exact h.elim
def fAll := onL fun xs q => ∃ bs : List Bool, xs = bs.map .bl ∧ q (.bl (bs.all fun b => b))
def fAny := onL fun xs q => ∃ bs : List Bool, xs = bs.map .bl ∧ q (.bl (bs.any fun b => b))
def fSum := onL fun xs q => ∃ ns : List Int, xs = ns.map .int ∧ q (.int ns.sum)
theorem pcl_all {K : Frg} : PCl K (rAll K) fAll := fun B μ G H ps vs q Q o rs h gv => by
  obtain ⟨a, us, xs, rfl, ha, r2, bs, rfl, hq⟩ := onL_inv o rs h
  rw [r2.bls] at ha
  exact ⟨a, bs, rfl, .inl (.inl ha), gv _ _ _ _ hq (.refl o) (rep_bl _)⟩
theorem pcl_any {K : Frg} : PCl K (rAny K) fAny := fun B μ G H ps vs q Q o rs h gv => by
  obtain ⟨a, us, xs, rfl, ha, r2, bs, rfl, hq⟩ := onL_inv o rs h
  rw [r2.bls] at ha
  exact ⟨a, bs, rfl, .inl (.inl ha), gv _ _ _ _ hq (.refl o) (rep_bl _)⟩
theorem pcl_sum {K : Frg} : PCl K (rSum K) fSum := fun B μ G H ps vs q Q o rs h gv => by
  obtain ⟨a, us, xs, rfl, ha, r2, bs, rfl, hq⟩ := onL_inv o rs h
  rw [r2.ints] at ha
  exact ⟨a, bs, rfl, .inl (.inl ha), gv _ _ _ _ hq (.refl o) (rep_int _)⟩
/-- tuple(list), tuple(tuple) -/
def fTuple : Mu → List PV → (PV → Prop) → Prop := fun μ ps q => match ps with
  | [p] => (match seqOf μ p with
    | some (_, xs) => q (.tup xs)
    | none => False)
  | _ => False
theorem seq_t {μ : Mu} {p : PV} {xs : List PV} (h : seqOf μ p = some (true, xs)) : p = .tup xs := by
  cases p with
  | tup ys => cases h; rfl
  | lst ys => cases h
  | cell c =>
    have e1 : (match μ c with | some (.lst xs) => some (false, xs) | _ => none) = some (true, xs) := h
    split at e1 <;> cases e1
  | _ => cases h
theorem pcl_tuple {K : Frg} : PCl K (fun xs H Q => ∃ p ys, xs = [.ref p] ∧ ((SqL K H p ys ∧ ∀ l, H l = none → Q (.ref l) (upd H l (.tup ys))) ∨ (SqT K H p ys ∧ Q (.ref p) H))) fTuple := fun B μ G H ps vs q Q o rs h gv => by
  unfold fTuple at h
  split at h
  · rename_i p
    obtain ⟨v, ws, rfl, r, rn⟩ := rs.cons_inv
    rw [rn.nil_inv]
    cases e : seqOf μ p with
    | none => simp only [e] at h
    | some z =>
      obtain ⟨t, xs⟩ := z
      simp only [e] at h
      obtain ⟨a, us, rfl, rs2, hh⟩ := seq_ok o r e
      cases t
      · rcases hh with ⟨_, hh⟩ | ⟨z, _⟩
        · refine ⟨a, us, rfl, .inl ⟨.inl (.inl hh), fun l hl => ?_⟩⟩
          have g := o.new1 (u := .tup us) hl
          exact gv _ _ _ _ h g (rep_tup upd_same (rs2.mono g.gx))
        · cases z
      · rcases hh with ⟨z, _⟩ | ⟨_, hh⟩
        · cases z
        · have := seq_t e
          subst this
          exact ⟨a, us, rfl, .inr ⟨hh, gv _ _ _ _ h (.refl o) r⟩⟩
  · exact h.elim
theorem cj_tuple : CaJ X W (.type "tuple") (fc fTuple) := .of call_tuple_of pcl_tuple
theorem cj_all (hc : X.calm = true) : CaJ X W (.builtin "all") (fc fAll) := .of (cr_all hc) pcl_all
theorem cj_any (hc : X.calm = true) : CaJ X W (.builtin "any") (fc fAny) := .of (cr_any hc) pcl_any
theorem cj_sum (hc : X.calm = true) : CaJ X W (.builtin "sum") (fc fSum) := .of (cr_sum hc) pcl_sum
end
end Px
namespace Px
open PySem PySem.Spec PyProof.Rows L2
def tyOf (μ : Mu) : PV → Option (String ⊕ Cl)
  | .int _ => some (.inl "int")
  | .bl _ => some (.inl "bool")
  | .str _ => some (.inl "str")
  | .tup _ => some (.inl "tuple")
  | .lst _ => some (.inl "list")
  | .non => some (.inl "NoneType")
  | .obj c _ => some (.inr c)
  | .cell a => (match μ a with
    | some (.lst _) => some (.inl "list")
    | some (.ins c _) => some (.inr c)
    | _ => none)
  | _ => none
def isiP (μ : Mu) (p c : PV) : Option Bool := match tyOf μ p with
  | some (.inl t) => (match c with
    | .ty n => kitB t n
    | .cls _ => some false
    | _ => none)
  | some (.inr c0) => (match c with
    | .cls d => some (subCl c0 d)
    | .ty n => (match decide (n ∈ tys) with
      | true => some false
      | false => none)
    | _ => none)
  | none => none
def fIsi : Mu → List PV → (PV → Prop) → Prop := fun μ ps q => match ps with
  | [p, c] => (match isiP μ p c with
    | some b => q (.bl b)
    | none => False)
  | _ => False
theorem tyX_of {K : Frg} {B : BX} {μ : Mu} {G H : Hp} (o : Ok K B μ G H) {p : PV} {v : V} (r : Rep K B G p v) :
    (∀ t, tyOf μ p = some (.inl t) → (t ∈ tys ∨ t = "NoneType") ∧ TyX K H v (.type t)) ∧ (∀ c, tyOf μ p = some (.inr c) → kcB K c = true ∧ TyX K H v (.ref (ca K c))) := by
  cases p with
  | non => refine ⟨fun t e => ?_, fun c e => nomatch e⟩; cases e; rw [r.non_inv]; exact ⟨.inr rfl, .base .non⟩
  | bl b => refine ⟨fun t e => ?_, fun c e => nomatch e⟩; cases e; rw [r.bl_inv]; exact ⟨.inl (by decide), .base (.bl _)⟩
  | int b => refine ⟨fun t e => ?_, fun c e => nomatch e⟩; cases e; rw [r.int_inv]; exact ⟨.inl (by decide), .base (.int _)⟩
  | str b => refine ⟨fun t e => ?_, fun c e => nomatch e⟩; cases e; rw [r.str_inv]; exact ⟨.inl (by decide), .base (.str _)⟩
  | tup xs =>
    refine ⟨fun t e => ?_, fun c e => nomatch e⟩
    cases e
    obtain ⟨a, us, rfl, sq, _⟩ := r.tup_inv
    rcases o.sub.t sq with (z | ⟨ob, z⟩) | ⟨ob, its, n, z, zc, _⟩
    · exact ⟨.inl (by decide), .base (.tup z)⟩
    · exact ⟨.inl (by decide), .fTuple z⟩
    · exact ⟨.inl (by decide), .kTuple z zc⟩
  | lst xs =>
    refine ⟨fun t e => ?_, fun c e => nomatch e⟩
    cases e
    obtain ⟨a, us, rfl, sq, _⟩ := r.lst_inv
    exact ⟨.inl (by decide), .base (.lst (o.sub _ _ sq))⟩
  | obj c0 xs =>
    refine ⟨fun t e => (nomatch e), fun c e => ?_⟩
    cases e
    obtain ⟨a, dx, vs, rfl, kc, ea, _⟩ := r.obj_inv
    have k := kcB_ok kc
    exact ⟨kc, .base (.ins (o.sub _ _ ea) k.cls k.k1 k.k2 k.k3 k.k4)⟩
  | cell a =>
    have hv := r.cell_inv
    subst hv
    cases e0 : μ a with
    | none => exact ⟨fun t e => by simp [tyOf, e0] at e, fun c e => by simp [tyOf, e0] at e⟩
    | some c =>
      obtain ⟨_, _, u, ha, ck⟩ := o.cell a c e0
      cases c with
      | lst xs =>
        obtain ⟨vs, rfl, _⟩ := ck
        refine ⟨fun t e => ?_, fun c e => by simp [tyOf, e0] at e⟩
        simp only [tyOf, e0, Option.some.injEq, Sum.inl.injEq] at e
        subst e
        exact ⟨.inl (by decide), .base (.lst ha)⟩
      | ins c0 fs =>
        obtain ⟨dx, ws, rfl, kc, _⟩ := ck
        refine ⟨fun t e => by simp [tyOf, e0] at e, fun c e => ?_⟩
        simp only [tyOf, e0, Option.some.injEq, Sum.inr.injEq] at e
        subst e
        have k := kcB_ok kc
        exact ⟨kc, .base (.ins ha k.cls k.k1 k.k2 k.k3 k.k4)⟩
      | dK ks xs => exact ⟨fun t e => by simp [tyOf, e0] at e, fun c e => by simp [tyOf, e0] at e⟩
      | dT ks xs => exact ⟨fun t e => by simp [tyOf, e0] at e, fun c e => by simp [tyOf, e0] at e⟩
  | _ => exact ⟨fun t e => (nomatch e), fun c e => (nomatch e)⟩
theorem pcl_isi {K : Frg} (ka : KA K) : PCl K (rIsi K) fIsi := fun B μ G H ps vs q Q o rs h gv => by
  unfold fIsi at h
  split at h
  · rename_i p c
    obtain ⟨v, ws, rfl, r1, rs⟩ := rs.cons_inv
    obtain ⟨u, ws, rfl, r2, rn⟩ := rs.cons_inv
    rw [rn.nil_inv]
    cases eb : isiP μ p c with
    | none => simp only [eb] at h
    | some b =>
      simp only [eb] at h
      have fin : ∀ {t w : Value}, TyX K H v t → ClsV u w → PySem.W.kitOne K t w = some b → rIsi K [v, u] H Q := fun t1 c1 k1 => ⟨v, u, _, _, b, rfl, c1, t1, k1, gv _ _ _ _ h (.refl o) (rep_bl _)⟩
      obtain ⟨tb, tob⟩ := tyX_of o r1
      unfold isiP at eb
      cases et : tyOf μ p with
      | none => simp only [et] at eb; cases eb
      | some z =>
        cases z with
        | inl t =>
          obtain ⟨mt, tx⟩ := tb t et
          simp only [et] at eb
          cases c with
          | ty n => exact fin tx (by rw [r2.ty_inv]; exact .ty n) (kit_ty eb)
          | cls d =>
            simp only at eb
            cases eb
            have cu : ClsV u (.ref (ca K d)) := by rw [r2.cls_inv]; exact .own _
            rcases mt with mt | rfl
            · exact fin tx cu (ka.to d r2.cls_kn t mt)
            · exact fin tx cu (ka.no d r2.cls_kn)
          | _ => cases eb
        | inr c0 =>
          simp only [et] at eb
          obtain ⟨kc, tx⟩ := tob c0 et
          cases c with
          | cls d =>
            simp only at eb
            cases eb
            exact fin tx (by rw [r2.cls_inv]; exact .own _) (ka.oo c0 d kc r2.cls_kn)
          | ty n =>
            cases m : decide (n ∈ tys) with
            | false => simp only [m] at eb; cases eb
            | true =>
              simp only [m] at eb
              cases eb
              exact fin tx (by rw [r2.ty_inv]; exact .ty n) (ka.ot c0 kc n (of_decide_eq_true m))
          | _ => cases eb
  · exact h.elim
section
variable {X : Cx} {W : WX} {pos p0 p1 p2 : Pos} {a b c e : Expr} {da db dc : DE}
theorem cj_isi (ka : KA X.K) : CaJ X W (.builtin "isinstance") (fc fIsi) := .of call_isi (pcl_isi ka)
def ixP : F2 := fun μ a b q => match b with
  | .int i => (match a with
    | .str z => z.length ≤ sizeLine ∧ (match atI z.cps.toList i with
      | some c => q (.str ⟨#[c]⟩)
      | none => False)
    | a => (match seqOf μ a with
      | some (_, xs) => (match atI xs i with
        | some x => q x
        | none => False)
      | none => False))
  | _ => False
theorem atI_rep {K : Frg} {B : BX} {G : Hp} {xs : List PV} {vs : List V} {i : Int} {x : PV} (rs : Reps K B G xs vs) (h : atI xs i = some x) : ∃ v, atI vs i = some v ∧ Rep K B G x v := by
  unfold atI at h ⊢
  rw [rs.length]
  cases e : ixN xs.length i with
  | none => rw [e] at h; cases h
  | some j =>
    rw [e] at h
    exact rs.get h
theorem pop_ix {K : Frg} : POp K (rIx K) ixP := fun B μ G H a b va vb q Q o ra rb h gv => by
  cases b with
  | int i =>
    have rest : (match seqOf μ a with | some (_, xs) => (match atI xs i with | some x => q x | none => False) | none => False) → rIx K va vb H Q := fun h => by
      cases e : seqOf μ a with
      | none => simp only [e] at h
      | some z =>
        obtain ⟨t, xs⟩ := z
        simp only [e] at h
        cases e2 : atI xs i with
        | none => simp only [e2] at h
        | some x =>
          simp only [e2] at h
          obtain ⟨p, vs, rfl, rs, hh⟩ := seq_ok o ra e
          obtain ⟨v, e1, r⟩ := atI_rep rs e2
          rcases hh with ⟨_, hh⟩ | ⟨_, hh⟩
          · exact .inl ⟨p, vs, i, v, rfl, rb.int_inv, .inl (.inl hh), e1, gv _ _ _ _ h (.refl o) r⟩
          · exact .inr (.inl ⟨p, vs, i, v, rfl, rb.int_inv, hh, e1, gv _ _ _ _ h (.refl o) r⟩)
    cases a with
    | str z =>
      obtain ⟨hz, h⟩ := h
      cases e2 : atI z.cps.toList i with
      | none => simp only [e2] at h
      | some c =>
        simp only [e2] at h
        exact .inr (.inr ⟨z, i, c, ra.str_inv, rb.int_inv, hz, e2, gv _ _ _ _ h (.refl o) (rep_str _)⟩)
    | _ => exact rest h
  | _ => exact h.elim
/-- a subscript by values -/
def IxJ (X : Cx) (W : WX) (f : FO) : Prop := ∀ (value slice : Expr) (pins : List (Addr × Obj)) (s : Shared) (σ : L2.St) (H : Hp) (B : BX) (ρ : En) (μ : Mu) (G : Hp) (a b : PV) (va vb : V) (u w : Value) (q : QV) (x : QX) (Q : VK), Inv X pins σ H s → Rel X.K B ρ μ σ G H → Rep X.K B G a va → Rep X.K B G b vb → RelV va u → RelV vb w →
    f a b μ q x → GoodV X.K B μ G H q Q → GoodX X.K W B μ G H σ x → subscripted slice false u w = operate [u, w] (getItem u w) → wpAny (model X.prog X.w) X.A (subscriptTail value slice u w) (EP X pins σ Q) X.xe s
theorem IxJ.of {r : R2} {f : F2} (ho : IxR X r) (hp : POp X.K r f) : IxJ X W (fo f) := fun value slice pins s σ H B ρ μ G a b va vb u w q x Q J R ra rb ru rw' h gv gx hs =>
  ho value slice pins s σ H va vb u w Q J ru rw' (hp B μ G H a b va vb _ Q R.ok ra rb h fun p v G' H' hq g rp => gv p v μ G' H' hq g rp) hs
theorem IxJ.or {f g h : FO} (hf : IxJ X W f) (hg : IxJ X W g) (i : ∀ a b μ q x, h a b μ q x → f a b μ q x ∨ g a b μ q x) : IxJ X W h := fun value slice pins s σ H B ρ μ G a b va vb u w q x Q J R ra rb ru rw' z gv gx hs =>
  (i a b μ q x z).elim (fun z => hf value slice pins s σ H B ρ μ G a b va vb u w q x Q J R ra rb ru rw' z gv gx hs) fun z => hg value slice pins s σ H B ρ μ G a b va vb u w q x Q J R ra rb ru rw' z gv gx hs
theorem e_ixJ {f : FO} (ho : IxJ X W f) (ha : EJ X W a da) (hb : EJ X W b db) (hp : PlainIx b := by exact fun _ _ => rfl) : EJ X W (.Subscript a b pos) (dBin f da db) := by
  refine ⟨fun pins s σ H Q J h => ?_⟩
  exact Subscript_ (thn (ha.run pins s σ H _ J (rB_of h)) fun u s1 ⟨va, H1, J1, ru, h1⟩ => thn (hb.run pins s1 σ H1 _ J1 (rAB_of h1)) fun w s2 ⟨vb, H2, J2, rw', ⟨B, ρ, μ, G, p, p2, q, x, R, ra, rb, h2, gv, gx⟩⟩ =>
    ho a b pins s2 σ H2 B ρ μ G p p2 va vb u w q x Q J2 R ra rb ru rw' h2 gv gx (hp _ _))
theorem ij_seq : IxJ X W (fo ixP) := .of ix_seq pop_ix
def cutP (xs : List PV) (lo hi : Option Int) : List PV := (xs.drop (HT.sIx xs.length 0 lo)).take (HT.sIx xs.length xs.length hi - HT.sIx xs.length 0 lo)
def slP (p : PV) (lo hi : Option Int) (μ : Mu) (q : PV → Prop) : Prop := match p with
  | .str z => z.length ≤ sizeLine ∧ q (.str (cutS z lo hi))
  | p => (match seqOf μ p with
    | some (t, xs) => q (if t then .tup (cutP xs lo hi) else .lst (cutP xs lo hi))
    | none => False)
abbrev DO := En → Mu → (Option Int → Mu → Prop) → QX → Prop
def oNone : DO := fun _ μ q _ => q none μ
def oSome (d : DE) : DO := fun ρ μ q x => d ρ μ (fun p μ1 => match p with
  | .int i => q (some i) μ1
  | _ => False) x
def tO (K : Frg) (W : WX) (d : DO) : TO := fun σ H Q => ∃ (B : BX) (ρ : En) (μ : Mu) (G : Hp) (q : Option Int → Mu → Prop) (x : QX), Rel K B ρ μ σ G H ∧ d ρ μ q x ∧ (∀ o μ' G' H', q o μ' → Go K B μ G H μ' G' H' → Q o H') ∧ GoodX K W B μ G H σ x
abbrev OJ (X : Cx) (W : WX) (e : Option Expr) (d : DO) : Prop := PO X e (tO X.K W d)
theorem o_none : OJ X W none oNone := ⟨fun pins s σ H Q I ⟨B, ρ, μ, G, q, x, R, h, gv, gx⟩ => po_none.run pins s σ H Q I (gv none μ G H h (.refl R.ok))⟩
theorem o_some (h : EJ X W e da) : OJ X W (some e) (oSome da) := ⟨fun pins s σ H Q I ⟨B, ρ, μ, G, q, x, R, hd, gv, gx⟩ => (po_some h).run pins s σ H Q I ⟨B, ρ, μ, G, _, x, R, hd, fun p v μ1 G1 H1 h1 g1 r1 => by
  cases p with
  | int i => exact ⟨i, r1.int_inv, gv _ μ1 G1 H1 h1 g1⟩
  | _ => exact h1.elim, gx⟩⟩
def dSl (d : DE) (dl dh : DO) : DE := fun ρ μ q x => d ρ μ (fun p μ1 => dl ρ μ1 (fun lo μ2 => dh ρ μ2 (fun hi μ3 => slP p lo hi μ3 fun r => q r μ3) x) x) x
theorem cutP_rep {K : Frg} {B : BX} {G : Hp} {xs : List PV} {vs : List V} (rs : Reps K B G xs vs) (lo hi : Option Int) : Reps K B G (cutP xs lo hi) (cutV vs lo hi) := by
  unfold cutP cutV
  rw [rs.length]
  exact (rs.drop _).take _
theorem sIx_whole {xs : List PV} {lo hi : Option Int} (h : HT.sIx xs.length 0 lo = 0 ∧ HT.sIx xs.length xs.length hi = xs.length) : cutP xs lo hi = xs := by
  unfold cutP
  rw [h.1, h.2]
  simp
theorem e_slice {lo hi : Option Expr} {dl dh : DO} (he : EJ X W e da) (hl : OJ X W lo dl) (hh : OJ X W hi dh) : EJ X W (.Subscript e (.Slice lo hi none p2) pos) (dSl da dl dh) :=
  pe_imp (pe_slice (SlR.or sl_list (SlR.or sl_tupA sl_str)) he hl hh) fun σ H Q ⟨B, ρ, μ, G, q, x, R, h, gv, gx⟩ =>
  ⟨B, ρ, μ, G, _, x, R, h, fun p v μ1 G1 H1 h1 g1 r1 => ⟨B, ρ, μ1, G1, _, x, R.go g1, h1, fun l μ2 G2 H2 h2 g2 => ⟨B, ρ, μ2, G2, _, x, R.go (g1.trans g2), h2, fun u μ3 G3 H3 h3 g3 => by
    have g := (g1.trans g2).trans g3
    have rp := r1.mono (g2.trans g3).gx
    have o := g.ok
    have rest : (match seqOf μ3 p with | some (t, xs) => q (if t then .tup (cutP xs l u) else .lst (cutP xs l u)) μ3 | none => False) → (rSlL X.K v l u H3 Q ∨ rSlA X.K v l u H3 Q ∨ rSlS v l u H3 Q) := fun h => by
      cases e : seqOf μ3 p with
      | none => simp only [e] at h
      | some z =>
        obtain ⟨t, xs⟩ := z
        simp only [e] at h
        obtain ⟨a, vs, rfl, rs, hh⟩ := seq_ok o rp e
        rcases hh with ⟨rfl, hh⟩ | ⟨rfl, hh⟩
        · refine .inl ⟨a, vs, rfl, .inl (.inl hh), fun y hy => ?_⟩
          have gn := o.new1 (u := .lst (cutV vs l u)) hy
          exact gv _ _ _ _ _ h (g.trans gn) (rep_lst upd_same ((cutP_rep rs l u).mono gn.gx))
        · have := seq_t e
          subst this
          refine .inr (.inl ⟨a, vs, rfl, hh, fun hw => ?_, fun hw y hy => ?_⟩)
          · rw [rs.length] at hw
            have h : q (.tup (cutP xs l u)) μ3 := h
            rw [sIx_whole hw] at h
            exact gv _ _ _ _ _ h g rp
          · have gn := o.new1 (u := .tup (cutV vs l u)) hy
            exact gv _ _ _ _ _ h (g.trans gn) (rep_tup upd_same ((cutP_rep rs l u).mono gn.gx))
    cases p with
    | str z => exact .inr (.inr ⟨z, rp.str_inv, h3.1, gv _ _ _ _ _ h3.2 g (rep_str _)⟩)
    | _ => exact rest h3, gx.go (g1.trans g2)⟩, gx.go g1⟩, gx⟩
def eqF : PV → PV → Bool
  | .non, .non => true
  | .bl a, .bl b => a == b
  | .bl a, .int b => (if a then 1 else 0) == b
  | .int a, .bl b => a == (if b then 1 else 0)
  | .int a, .int b => a == b
  | .str a, .str b => a == b
  | _, _ => false
def flatP : PV → Bool
  | .non => true | .bl _ => true | .int _ => true | .str _ => true
  | _ => false
def inP (x : PV) (xs : List PV) : Bool := xs.any fun y => eqF y x
theorem flat_ok {K : Frg} {B : BX} {G : Hp} {p : PV} {v : V} (r : Rep K B G p v) (h : flatP p = true) : flatV v = true := by
  cases p <;> simp only [flatP, Bool.false_eq_true] at h
  · rw [r.non_inv]; rfl
  · rw [r.bl_inv]; rfl
  · rw [r.int_inv]; rfl
  · rw [r.str_inv]; rfl
theorem eqF_ok {K : Frg} {B : BX} {G : Hp} {p s : PV} {v u : V} (r : Rep K B G p v) (r2 : Rep K B G s u) (h : flatP p = true) (h2 : flatP s = true) : eqV v u = eqF p s := by
  cases p <;> simp only [flatP, Bool.false_eq_true] at h <;> cases s <;> simp only [flatP, Bool.false_eq_true] at h2 <;>
    (first | rw [r.non_inv] | rw [r.bl_inv] | rw [r.int_inv] | rw [r.str_inv]) <;> (first | rw [r2.non_inv] | rw [r2.bl_inv] | rw [r2.int_inv] | rw [r2.str_inv]) <;> rfl
theorem in_ok {K : Frg} {B : BX} {G : Hp} {p : PV} {v : V} (r : Rep K B G p v) (h : flatP p = true) : ∀ {xs : List PV} {vs : List V}, Reps K B G xs vs → xs.all flatP = true → vs.all flatV = true ∧ inV v vs = inP p xs
  | [], vs, rs, _ => by rw [rs.nil_inv]; exact ⟨rfl, rfl⟩
  | x :: xs, vs, rs, ha => by
    obtain ⟨u, ws, rfl, r1, r2⟩ := rs.cons_inv
    simp only [List.all_cons, Bool.and_eq_true] at ha
    obtain ⟨i1, i2⟩ := in_ok r h r2 ha.2
    refine ⟨by simp only [List.all_cons, flat_ok r1 ha.1, i1, Bool.and_self], ?_⟩
    unfold inV inP at i2 ⊢
    rw [List.any_cons, List.any_cons, i2, eqF_ok r1 r ha.1 h]
def sgn (neg b : Bool) : Bool := match neg with
  | true => !b
  | false => b
/-- .. constant tuples too -/
def seqM (μ : Mu) : PV → Option (Bool × List PV)
  | .ctup xs => some (true, xs)
  | p => seqOf μ p
theorem seqM_ok {K : Frg} {B : BX} {μ : Mu} {G H : Hp} {p : PV} {v : V} {t : Bool} {xs : List PV} (o : Ok K B μ G H) (r : Rep K B G p v) (h : seqM μ p = some (t, xs)) :
    ∃ a vs, v = .ref a ∧ Reps K B G xs vs ∧ ((t = false ∧ H a = some (.lst vs)) ∨ (t = true ∧ SqT K H a vs)) := by
  cases p with
  | ctup ys =>
    cases h
    obtain ⟨a, vs, e, g, rs⟩ := r.ctup_inv
    exact ⟨a, vs, e, rs, .inr ⟨rfl, o.sub.t g⟩⟩
  | _ => exact seq_ok o r h
def inF (neg : Bool) : F2 := fun μ x s q => match s with
  | .str z => (match x with
    | .str y => (match y.cps.toList with
      | [c] => q (.bl (sgn neg (decide (c ∈ z.cps.toList))))
      | _ => False)
    | _ => False)
  | s => (match seqM μ s with
    | some (_, xs) => flatP x = true ∧ xs.all flatP = true ∧ q (.bl (sgn neg (inP x xs)))
    | none => False)
theorem pop_in {K : Frg} {neg : Bool} : POp K (rIn K neg) (fun μ x s q => ∃ t xs, seqM μ s = some (t, xs) ∧ flatP x = true ∧ xs.all flatP = true ∧ q (.bl (sgn neg (inP x xs)))) := fun B μ G H a b va vb q Q o ra rb ⟨t, xs, e, h1, h2, hq⟩ gv => by
  obtain ⟨p, vs, rfl, rs, hh⟩ := seqM_ok o rb e
  obtain ⟨i1, i2⟩ := in_ok ra h1 rs h2
  refine ⟨p, vs, rfl, ?_, flat_ok ra h1, i1, ?_⟩
  · rcases hh with ⟨_, hh⟩ | ⟨_, hh⟩
    · exact .inl (.inl (.inl hh))
    · exact .inr hh
  · rw [i2]
    cases neg <;> exact gv _ _ _ _ hq (.refl o) (rep_bl _)
theorem inF_inv {neg : Bool} {μ : Mu} {x s : PV} {q : PV → Prop} (h : inF neg μ x s q) : (∃ (c : Nat) (z : Str), x = .str ⟨#[c]⟩ ∧ s = .str z ∧ q (.bl (sgn neg (decide (c ∈ z.cps.toList))))) ∨ ∃ t xs, seqM μ s = some (t, xs) ∧ flatP x = true ∧ xs.all flatP = true ∧ q (.bl (sgn neg (inP x xs))) := by
  have rest : (match seqM μ s with | some (_, xs) => flatP x = true ∧ xs.all flatP = true ∧ q (.bl (sgn neg (inP x xs))) | none => False) → ∃ t xs, seqM μ s = some (t, xs) ∧ flatP x = true ∧ xs.all flatP = true ∧ q (.bl (sgn neg (inP x xs))) := fun h => by
    cases e : seqM μ s with
    | none => simp only [e] at h
    | some z =>
      obtain ⟨t, xs⟩ := z
      simp only [e] at h
      exact ⟨t, xs, rfl, h⟩
  cases s with
  | str z =>
    refine .inl ?_
    cases x with
    | str y =>
      have h : (match y.cps.toList with | [c] => q (.bl (sgn neg (decide (c ∈ z.cps.toList)))) | _ => False) := h
      split at h
      · rename_i c e
        obtain ⟨arr⟩ := y
        have : arr = #[c] := by
          have e : arr.toList = [c] := e
          calc arr = arr.toList.toArray := by simp
            _ = #[c] := by rw [e]
        subst this
        exact ⟨c, z, rfl, rfl, h⟩
      · exact h.elim
    | _ => exact h.elim
  | _ => exact .inr (rest h)
theorem pop_sign {K : Frg} : POp K (fun x y H Q => ∃ (c : Nat) (z : Str), x = .str ⟨#[c]⟩ ∧ y = .str z ∧ Q (.bl (decide (c ∈ z.cps.toList))) H) (fun μ x s q => ∃ (c : Nat) (z : Str), x = .str ⟨#[c]⟩ ∧ s = .str z ∧ q (.bl (sgn false (decide (c ∈ z.cps.toList))))) := fun B μ G H a b va vb q Q o ra rb ⟨c, z, e1, e2, hq⟩ gv => by
  subst e1 e2
  exact ⟨c, z, ra.str_inv, rb.str_inv, gv _ _ _ _ hq (.refl o) (rep_bl _)⟩
theorem pop_nsign {K : Frg} : POp K (fun x y H Q => ∃ (c : Nat) (z : Str), x = .str ⟨#[c]⟩ ∧ y = .str z ∧ Q (.bl (!decide (c ∈ z.cps.toList))) H) (fun μ x s q => ∃ (c : Nat) (z : Str), x = .str ⟨#[c]⟩ ∧ s = .str z ∧ q (.bl (sgn true (decide (c ∈ z.cps.toList))))) := fun B μ G H a b va vb q Q o ra rb ⟨c, z, e1, e2, hq⟩ gv => by
  subst e1 e2
  exact ⟨c, z, ra.str_inv, rb.str_inv, gv _ _ _ _ hq (.refl o) (rep_bl _)⟩
theorem oj_in : OpJ X W (compareOp .In) (fo (inF false)) := OpJ.or (OpJ.of op_in_sign pop_sign) (OpJ.of op_in_seq pop_in) fun a b μ q x h => inF_inv h
theorem oj_notin : OpJ X W (compareOp .NotIn) (fo (inF true)) := OpJ.or (OpJ.of op_notIn_sign pop_nsign) (OpJ.of op_notIn_seq pop_in) fun a b μ q x h => inF_inv h
def isNone : PV → Bool
  | .non => true
  | _ => false
theorem isNone_ok {K : Frg} {B : BX} {G : Hp} {a : PV} {va : V} (ra : Rep K B G a va) : decide (va = .non) = isNone a := by
  cases a with
  | non => rw [ra.non_inv]; rfl
  | bl b => rw [ra.bl_inv]; rfl
  | int b => rw [ra.int_inv]; rfl
  | str b => rw [ra.str_inv]; rfl
  | tup xs => obtain ⟨p, vs, rfl, _⟩ := ra.tup_inv; rfl
  | ctup xs => obtain ⟨p, vs, rfl, _⟩ := ra.ctup_inv; rfl
  | lst xs => obtain ⟨p, vs, rfl, _⟩ := ra.lst_inv; rfl
  | obj c xs => obtain ⟨p, dx, vs, rfl, _⟩ := ra.obj_inv; rfl
  | cls c => rw [ra.cls_inv]; rfl
  | ty c => rw [ra.ty_inv]; rfl
  | box => obtain ⟨p, _, _, rfl⟩ := ra.box_inv; rfl
  | exc p d c xs => obtain ⟨rfl, _⟩ := ra.exc_inv; rfl
  | cell p => rw [ra.cell_inv]; rfl
  | dK ks xs => obtain ⟨p, vs, _, rfl, _⟩ := ra.dK_inv; rfl
  | dT ks xs => obtain ⟨p, vs, _, rfl, _⟩ := ra.dT_inv; rfl
def isP (neg : Bool) : F2 := fun _ a b q => match b with
  | .non => q (.bl (sgn neg (isNone a)))
  | .bl j => (match a with
    | .bl i => q (.bl (sgn neg (decide (i = j))))
    | _ => False)
  | _ => False
theorem op_isB : OpR X (compareOp .Is) (fun x y H Q => ∃ i j : Bool, x = .bl i ∧ y = .bl j ∧ Q (.bl (decide (i = j))) H) := by
  intro pins s σ H x y v u Q I rx ry h
  obtain ⟨i, j, rfl, rfl, q⟩ := h
  cases rx
  cases ry
  cases i <;> cases j <;> exact wpAny_pure (fin_bl I q (by decide))
theorem op_isnotB : OpR X (compareOp .IsNot) (fun x y H Q => ∃ i j : Bool, x = .bl i ∧ y = .bl j ∧ Q (.bl (!decide (i = j))) H) := by
  intro pins s σ H x y v u Q I rx ry h
  obtain ⟨i, j, rfl, rfl, q⟩ := h
  cases rx
  cases ry
  cases i <;> cases j <;> exact wpAny_pure (fin_bl I q (by decide))
theorem pop_isB {K : Frg} : POp K (fun x y H Q => ∃ i j : Bool, x = .bl i ∧ y = .bl j ∧ Q (.bl (decide (i = j))) H) (fun μ a b q => ∃ i j, a = .bl i ∧ b = .bl j ∧ q (.bl (decide (i = j)))) := fun B μ G H a b va vb q Q o ra rb ⟨i, j, e1, e2, h⟩ gv => by
  subst e1 e2
  exact ⟨_, _, ra.bl_inv, rb.bl_inv, gv _ _ _ _ h (.refl o) (rep_bl _)⟩
theorem pop_isnotB {K : Frg} : POp K (fun x y H Q => ∃ i j : Bool, x = .bl i ∧ y = .bl j ∧ Q (.bl (!decide (i = j))) H) (fun μ a b q => ∃ i j, a = .bl i ∧ b = .bl j ∧ q (.bl (!decide (i = j)))) := fun B μ G H a b va vb q Q o ra rb ⟨i, j, e1, e2, h⟩ gv => by
  subst e1 e2
  exact ⟨_, _, ra.bl_inv, rb.bl_inv, gv _ _ _ _ h (.refl o) (rep_bl _)⟩
theorem pop_isN {K : Frg} : POp K (fun x y H Q => y = .non ∧ Q (.bl (decide (x = .non))) H) (fun μ a b q => b = .non ∧ q (.bl (isNone a))) := fun B μ G H a b va vb q Q o ra rb ⟨e, hq⟩ gv => by
  subst e
  exact ⟨rb.non_inv, by rw [isNone_ok ra]; exact gv _ _ _ _ hq (.refl o) (rep_bl _)⟩
theorem pop_notN {K : Frg} : POp K (fun x y H Q => y = .non ∧ Q (.bl (!decide (x = .non))) H) (fun μ a b q => b = .non ∧ q (.bl (!isNone a))) := fun B μ G H a b va vb q Q o ra rb ⟨e, hq⟩ gv => by
  subst e
  exact ⟨rb.non_inv, by rw [isNone_ok ra]; exact gv _ _ _ _ hq (.refl o) (rep_bl _)⟩
theorem oj_is : OpJ X W (compareOp .Is) (fo (isP false)) := OpJ.or (OpJ.of op_isN pop_isN) (OpJ.of op_isB pop_isB) fun a b μ q x h => by
  cases b with
  | non => exact .inl ⟨rfl, h⟩
  | bl j => cases a <;> first | exact h.elim | exact .inr ⟨_, _, rfl, rfl, h⟩
  | _ => exact h.elim
theorem oj_isnot : OpJ X W (compareOp .IsNot) (fo (isP true)) := OpJ.or (OpJ.of op_notN pop_notN) (OpJ.of op_isnotB pop_isnotB) fun a b μ q x h => by
  cases b with
  | non => exact .inl ⟨rfl, h⟩
  | bl j => cases a <;> first | exact h.elim | exact .inr ⟨_, _, rfl, rfl, h⟩
  | _ => exact h.elim
def eqS : PV → PV → Option Bool
  | .int i, .int j => some (decide (i = j))
  | .str i, .str j => some (decide (i = j))
  | .bl i, .bl j => some (decide (i = j))
  | .non, .non => some true
  | .non, .str _ => some false
  | .str _, .non => some false
  | .non, .int _ => some false
  | .int _, .non => some false
  | .str _, .int _ => some false
  | .int _, .str _ => some false
  | _, _ => none
def eqSP (neg : Bool) : F2 := fun _ a b q => match eqS a b with
  | some k => q (.bl (sgn neg k))
  | none => False
theorem eqS_ok {K : Frg} {B : BX} {G : Hp} {a b : PV} {va vb : V} {k : Bool} (h : eqS a b = some k) (ra : Rep K B G a va) (rb : Rep K B G b vb) : scal va vb = true ∧ decide (va = vb) = k := by
  cases a <;> cases b <;> simp only [eqS] at h <;> try contradiction
  all_goals (first | rw [ra.non_inv] | rw [ra.bl_inv] | rw [ra.int_inv] | rw [ra.str_inv]) <;> (first | rw [rb.non_inv] | rw [rb.bl_inv] | rw [rb.int_inv] | rw [rb.str_inv]) <;> cases h <;> exact ⟨rfl, by simp⟩
theorem eqSP_inv {neg : Bool} {μ : Mu} {a b : PV} {q : PV → Prop} (h : eqSP neg μ a b q) : ∃ k, eqS a b = some k ∧ q (.bl (sgn neg k)) := by
  unfold eqSP at h
  cases e : eqS a b with
  | none => simp only [e] at h
  | some k => simp only [e] at h; exact ⟨k, rfl, h⟩
theorem pop_eqS {K : Frg} : POp K rEq (eqSP false) := fun B μ G H a b va vb q Q o ra rb h gv => by
  obtain ⟨k, e, hq⟩ := eqSP_inv h
  obtain ⟨e1, e2⟩ := eqS_ok e ra rb
  exact ⟨e1, by rw [e2]; exact gv _ _ _ _ hq (.refl o) (rep_bl _)⟩
theorem pop_neS {K : Frg} : POp K rNe (eqSP true) := fun B μ G H a b va vb q Q o ra rb h gv => by
  obtain ⟨k, e, hq⟩ := eqSP_inv h
  obtain ⟨e1, e2⟩ := eqS_ok e ra rb
  exact ⟨e1, by rw [e2]; exact gv _ _ _ _ hq (.refl o) (rep_bl _)⟩
theorem oj_eqS : OpJ X W (compareOp .Eq) (fo (eqSP false)) := .of op_eq pop_eqS
theorem oj_neS : OpJ X W (compareOp .NotEq) (fo (eqSP true)) := .of op_ne pop_neS
end
end Px
namespace Px
open PySem PySem.Spec PyProof.Rows L2
open PySem.W (findIn typeIn keepIn subIn clsIn nsIn codeIn alongIn fnX envX)
def eArgs (f : Str) (p1 p2 : Pos) : Arguments := { posonlyargs := [], args := [⟨"self", none, p1⟩, ⟨f, none, p2⟩], vararg := none, kwonlyargs := [], kw_defaults := [], kwarg := none, defaults := [] }
def eBody (f msg : Str) (j : Nat) (p1 p2 p3 p4 p5 p6 q1 q2 q3 q4 : Pos) : List Stmt :=
  [.Expr (.Call (.Attribute (.Call (.Name "super" p1) [] [] p2) "__init__" p3) [.Constant (.str msg) j p4] [] p5) p6, .Assign [.Attribute (.Name "self" q1) f q2] (.Name f q3) q4]
def eScope (f : Str) : Scope := { kind := .function, names := [("self", .local), (f, .local), ("__class__", .free), ("super", .globalImplicit)], isGenerator := false, isCoroutine := false, more := [] }
/-- the call's node: a method's call, its line known -/
def MCall (msg : Str) (j : Nat) (p1 p2 p3 p4 p5 : Pos) (env : Env) : Prop := ∃ pl : Sem Bool, eval (.Call (.Attribute (.Call (.Name "super" p1) [] [] p2) "__init__" p3) [.Constant (.str msg) j p4] [] p5) env = (do
  let ov ← attributeBase (.Call (.Name "super" p1) [] [] p2) "__init__" env (eval (.Call (.Name "super" p1) [] [] p2) env)
  standAt p3.atName
  let (g, first) ← holding [ov] (getMethod ov "__init__" pl)
  callWith p5 g first (backTo p5 (starEach [.Constant (.str msg) j p4] env)) [])
/-- what the written part says of such a class at C, its __init__ at fI -/
structure ErrF (P : Program) (K : Frg) (C fI : Addr) (f : Str) : Prop where
  new : PySem.W.excInitIn K C He.veBase "ValueError.__new__" = true
  cd : ∃ cd, clsIn K C = some cd ∧ cd.hasDict = true ∧ HandSPX.refsVE cd.mro = true ∧ alongIn K "__init__" ((cd.mro.dropWhile (· != .ref C)).drop 1) = some (some (.builtin "ValueError.__init__"))
  sa : findIn K (.ref C) "__setattr__" = some (some (.builtin "object.__setattr__"))
  no : findIn K (.ref C) f = some none
  iC : findIn K (.ref C) "__init__" = some (some (.ref fI))
  tI : typeIn K (.ref fI) = some (.type "function")
  kC : keepIn K (.ref C) = true
  ex : subIn K (.ref C) (.type "BaseException") = some true
  ty : typeIn K (.ref C) = some (.type "type")
  ve : subIn K (.ref C) (.type "ValueError") = some true
  me : subIn K (.ref C) (.ref C) = some true
  op : nsIn K cStatics "thirdparty.any" = some none
  fn : ∃ (oc : Value) (od : Option Addr) (qual msg : Str) (j : Nat) (dV kV doc pm : Value) (an : Option Addr) (cda cc : Addr) (ct : Value) (osl : Array (Option Value)) (a1 a2 p1 p2 p3 p4 p5 p6 q1 q2 q3 q4 : Pos) (o2 o3 : Obj) (vs : Array Value) (file : Str) (tf : Tok),
    K.lookup fI = some ⟨oc, od, .func (fnX "__init__" qual (eArgs f a1 a2) (eBody f msg j p1 p2 p3 p4 p5 p6 q1 q2 q3 q4) (eScope f) [("__class__", cc)] dV kV doc pm an (.ref cda) ct), osl⟩ ∧ codeIn K (.ref cda) qual = true ∧
      K.lookup cc = some o2 ∧ o2.data = .cell (some (.ref C)) ∧ K.lookup cda = some o3 ∧ o3.data = .fields vs ∧ vs[2]? = some (.str file tf) ∧ (P.main.file == file) = true ∧
      (∀ u v : Value, bindArgs (fnX "__init__" qual (eArgs f a1 a2) (eBody f msg j p1 p2 p3 p4 p5 p6 q1 q2 q3 q4) (eScope f) [("__class__", cc)] dV kV doc pm an (.ref cda) ct) ⟨[u, v], []⟩ = pure ([("self", u), (f, v)] : List (Str × Value))) ∧ ∀ env : Env, MCall msg j p1 p2 p3 p4 p5 env
  sup : (P.main.scope.names.lookup ("super" : Str)).isSome = false
  nf : f ≠ "self" ∧ f ≠ "super" ∧ f ≠ "__class__" ∧ f ≠ "__debug__"
theorem one_sz (v : Value) : [v].length ≤ sizeLine := by rw [sizeLine_eq]; exact (by decide : 1 ≤ 16777216)
theorem kept1 {K : Frg} {h h' : Heap} {x : Addr} (X : K.In h) (hx : K.lookup x = none) (k : ∀ b o, b ≠ x → h.get? b = some o → h'.get? b = some o) : K.In h' := fun a o e => k a o (fun z => by rw [z, hx] at e; cases e) (X a o e)
/-- what __init__ leaves of a fresh error at x -/
structure EEnd (f : Str) (h h' : Heap) (x C dx t1 : Addr) (v : Value) : Prop where
  keep : ∀ b o, b ≠ x → h.get? b = some o → h'.get? b = some o
  obj : h'.get? x = some { cls := .ref C, dict := some dx, data := .fields #[.ref t1, .none, .none, .none, .bool false, .none] }
  dbig : h.objs.size ≤ dx
  dne : dx ≠ x
  ns : h'.Ns1 dx (fun y => if y = f then some v else none)
section
variable {P : Program} {w : World} {A : Around} {R : Result → Shared → Prop} {s : Shared} {K : Frg} {C fI : Addr} {f : Str} {mg : Str → Option Value}
/-- super().__init__(msg), the wrapper called -/
theorem bw_call {E : Value → Shared → Prop} {Q : Value → Shared → Prop} (T : ErrF P K C fI f) (X : K.In s.heap) {u x t0 : Addr} {rest : List Value} (hu : s.heap.get? u = some (PySem.W.kxs_mw "ValueError.__init__" x)) (hx : s.heap.get? x = some (HandSPX.excO C t0)) (hz : rest.length ≤ sizeLine)
    (hq : ∀ h' t1, (∀ b o, b ≠ x → s.heap.get? b = some o → h'.get? b = some o) → h'.get? x = some (HandSPX.excO C t1) → Q .none { s with heap := h' }) : wpAny (model P w) A (call (.ref u) rest) Q E s := by
  obtain ⟨nm, N', qn, bs, bm, hdct, sn, sub, ab, col, dd, k0, k1, k2, k3, k5, hC, hT⟩ := PySem.W.excInit_of X T.new
  obtain ⟨hh, g, d, tk, os⟩ := s
  refine wpAny_call (codeAny_of_tree ?_)
  show wpAny _ A.in1 (callAny (.ref u) ⟨rest, []⟩) _ _ _
  simp only [callAny]
  refine wpAny_bind (wpAny_load hu ?_)
  simp only [PySem.W.kxs_mw, show (Value.type "method-wrapper" == Value.type "method" || Value.type "method-wrapper" == Value.type "builtin_function_or_method" || Value.type "method-wrapper" == Value.type "method-wrapper") = true by decide, if_true]
  refine PySem.W.KFB.if_so (by decide) ?_
  refine wpAny_bind (PySem.W.check_bound_init PySem.F.excBase_ValueError.toExcCallFacts hC hx rfl ?_)
  refine wpAny_bind (wpAny_pure (wpAny_pure ⟨Code.quiet_builtin _ (by decide +kernel), codeAny_builtin PySem.F.excBase_ValueError.initEntry ?_⟩))
  refine PySem.W.exc_init_tree (cls := .ref C) (t0 := t0) (dv := none) (c2 := .none) (c3 := .none) (b4 := .bool false) hx hz fun h' k e' _ => hq h' _ k e'
theorem err_init (T : ErrF P K C fI f) {mb : Str → Option Value} {x t0 : Addr} {v : Value} (X : K.In s.heap) (hlim : s.heap.NoLimit) (hg : s.heap.Ns mainGlobals mg) (hb : s.heap.Ns builtinsNs mb) (hsu : mg "super" = none) (hbs : mb "super" = some (.type "super"))
    (hx : s.heap.get? x = some (HandSPX.excO C t0)) (hnx : K.lookup x = none) (hxg : x ≠ mainGlobals) (hroom : A.depth < recursionLimit) (hq : ∀ h' tk dx t1, EEnd f s.heap h' x C dx t1 v → R (.ok (.ret .none)) { s with heap := h', toks := tk }) :
    codeAny (model P w) A (.call (.ref fI) ⟨[.ref x, v], []⟩) R s := by
  obtain ⟨oc, od, qual, msg, j, dV, kV, doc, pm, an, cda, cc, ct, osl, a1, a2, p1, p2, p3, p4, p5, p6, q1, q2, q3, q4, o2, o3, vs, file, tf, ho, hcd, hcc, hcell, hcda, hfl, hvs, hfile, hbd, hmc⟩ := T.fn
  obtain ⟨cdd, hcdd, hdict, hmro, halong⟩ := T.cd
  obtain ⟨n1, n2, n3, n4⟩ := T.nf
  have sf : ("self" : Str) ≠ f := fun z => n1 z.symm
  have hself : (eScope f).names.lookup ("self" : Str) = some .local := rfl
  have hfl' : (eScope f).names.lookup f = some .local := by
    show (match f == "self" with | true => some NameKind.local | false => ([(f, NameKind.local), ("__class__", .free), ("super", .globalImplicit)] : List (Str × NameKind)).lookup f) = _
    have : (f == ("self" : Str)) = false := by simpa using n1
    rw [this]
    simp [List.lookup]
  have hcls : (eScope f).names.lookup ("__class__" : Str) = some .free := by
    have h1 : (("__class__" : Str) == f) = false := by simpa using fun z => n3 z.symm
    show ([("self", NameKind.local), (f, .local), ("__class__", .free), ("super", .globalImplicit)] : List (Str × NameKind)).lookup ("__class__" : Str) = _
    have h2 : (("__class__" : Str) == ("self" : Str)) = false := by decide
    simp only [List.lookup, h1, h2]
    rfl
  have hsup : (eScope f).names.lookup ("super" : Str) = some .globalImplicit := by
    have h1 : (("super" : Str) == f) = false := by simpa using fun z => n2 z.symm
    show ([("self", NameKind.local), (f, .local), ("__class__", .free), ("super", .globalImplicit)] : List (Str × NameKind)).lookup ("super" : Str) = _
    have h2 : (("super" : Str) == ("self" : Str)) = false := by decide
    have h3 : (("super" : Str) == ("__class__" : Str)) = false := by decide
    simp only [List.lookup, h1, h2, h3]
    rfl
  refine ks_codeAny_call_defAt (binds := [("self", .ref x), (f, v)]) hroom (X _ _ ho) rfl hlim (PySem.W.codeRec_of X hcd) rfl (BindsTo.of_eq ?_) ?_ ?_ (fun h0 hns k0 => ?_)
  · exact hbd _ _
  · intro y hy
    have hy : y ∈ ([("self", NameKind.local), (f, .local), ("__class__", .free), ("super", .globalImplicit)] : List (Str × NameKind)) := hy
    simp only [List.mem_cons, List.not_mem_nil, or_false] at hy
    rcases hy with rfl | rfl | rfl | rfl <;> exact fun z => nomatch z
  · intro y hy
    have hy : y ∈ ([("self", Value.ref x), (f, v)] : List (Str × Value)) := hy
    simp only [List.mem_cons, List.not_mem_nil, or_false] at hy
    rcases hy with rfl | rfl
    · exact hself
    · exact hfl'
  · have e0 : callEnv (fnX "__init__" qual (eArgs f a1 a2) (eBody f msg j p1 p2 p3 p4 p5 p6 q1 q2 q3 q4) (eScope f) [("__class__", cc)] dV kV doc pm an (.ref cda) ct) s.heap.objs.size fI = envX qual (eScope f) s.heap.objs.size fI (.ref cda) [("__class__", cc)] := rfl
    rw [e0]
    have X0 : K.In h0 := X.keeps k0
    have hx0 := k0 _ _ hx
    have lself : ([("self", Value.ref x), (f, v)] : List (Str × Value)).reverse.lookup ("self" : Str) = some (.ref x) := by
      show ([(f, v), ("self", Value.ref x)] : List (Str × Value)).lookup ("self" : Str) = _
      have h1 : (("self" : Str) == f) = false := by simpa using sf
      simp only [List.lookup, h1]
      rfl
    have lf : ([("self", Value.ref x), (f, v)] : List (Str × Value)).reverse.lookup f = some v := by
      show ([(f, v), ("self", Value.ref x)] : List (Str × Value)).lookup f = _
      simp [List.lookup]
    obtain ⟨nm, N', qn, bs, bm, hdct, sn, sub, ab, col, dd, kk0, kk1, kk2, kk3, kk5, hC, hT⟩ := PySem.W.excInit_of X0 T.new
    have hI0 : PySem.W.InstAt h0 x (HandSPX.excO C t0) C none := ⟨hx0, rfl, rfl, trivial⟩
    obtain ⟨pl, hev⟩ := hmc (envX qual (eScope f) s.heap.objs.size fI (.ref cda) [("__class__", cc)])
    refine ks_wpAt_execs_cons (ks_wpAt_Expr_any (ks_wpAt_MethodCall (pl := pl) ?_ hev) rfl rfl)
    · refine ks_wpAt_super_base (f := fI) (cc := cda) hsup hcls (by decide) rfl (X0 _ _ ho) rfl rfl rfl (X0 _ _ hcda) hfl hvs hfile T.sup ?_
      refine PySem.W.ks_loadName_global rfl hsup (Calls.loadGlobal_builtin (hg.keeps k0) hsu (hb.keeps k0) hbs ⟨rfl, ?_⟩)
      refine wpAny_loadName_free rfl hcls (by simp [List.lookup]) ⟨o2, X0 _ _ hcc, hcell⟩ ?_
      refine wpAny_loadName_local rfl hself hns lself ?_
      refine ks_wpAny_isType_cls hC rfl ⟨rfl, ?_⟩
      refine ks_wpAny_call_super hC rfl hx0 rfl (fun c z => nomatch z) (PySem.W.looks_subIn X0 T.me) fun h1 hso k1 => ?_
      have X1 : K.In h1 := X0.keeps k1
      have hx1 := k1 _ _ hx0
      have I1 : PySem.W.InstAt h1 x (HandSPX.excO C t0) C none := ⟨hx1, rfl, rfl, trivial⟩
      have hne : x ≠ C := PySem.W.ks_ne X1 I1 hcdd
      refine PySem.W.kxs_getMethod PySem.W.kxs_ValueError hso (PySem.W.looks_opaque X1 T.op) (l₀ := cdd.mro) ((PySem.W.looks_clsIn X1 hcdd).andThen .now) rfl X1 halong (I1.type.andThen (PySem.W.looks_subIn X1 T.ve)) hne (by decide) ?_
      have k2 : ∀ b o, h1.get? b = some o → (h1.push (PySem.W.kxs_mw "ValueError.__init__" x)).get? b = some o := fun b o e => Heap.get?_push_of_some _ e
      have hu2 : (h1.push (PySem.W.kxs_mw "ValueError.__init__" x)).get? h1.objs.size = some (PySem.W.kxs_mw "ValueError.__init__" x) := Heap.get?_push_at rfl rfl
      refine PySem.W.kxs_callWith (i := "ValueError.__init__") (x := x) rfl (Calls.evalArgs_plain (Calls.spliced_cons (Calls.Constant_str (k := j) (pos := p4) (Calls.spliced_nil ⟨hu2, ?_⟩))))
      refine bw_call (t0 := t0) T (X1.keeps k2) hu2 (k2 _ _ hx1) (one_sz _) fun h3 t1 k3 hx3 => ?_
      have hnot : ∀ b o, h0.get? b = some o → b ≠ x → h3.get? b = some o := fun b o e hb => k3 b o hb (k2 b o (k1 b o e))
      have X3 : K.In h3 := kept1 (X1.keeps k2) hnx k3
      obtain ⟨oL, es, ep, hL, rL⟩ := hns
      have hxL : s.heap.objs.size ≠ x := Nat.ne_of_gt (Heap.lt_size hx)
      have hns3 : h3.Ns s.heap.objs.size (fun y => ([("self", Value.ref x), (f, v)] : List (Str × Value)).reverse.lookup y) := ⟨oL, es, ep, hnot _ _ hL hxL, rL⟩
      refine wpAt_of_wpAny (wpAny_execs_cons (plainObj_wpAny_Assign_Attribute ?_ rfl))
      refine wpAny_Name (wpAny_loadName_local rfl hfl' hns3 lf (wpAny_Name (wpAny_loadName_local rfl hself hns3 lself ?_) (by decide))) (by simpa using n4)
      refine PySem.W.set_plain X3 (ox := HandSPX.excO C t1) (od := none) ⟨hx3, rfl, rfl, trivial⟩ T.sa ?_
      refine HandSPX.exc_osa X3 hx3 hcdd hmro hdict T.no fun h4 tk4 dx k4 dn dne hx4 hn4 => ?_
      show wpAny _ _ (execs _ _) _ _ _
      refine wpAny_execs_nil (hq h4 tk4 dx t1 ⟨fun b o hb e => k4 b o hb (hnot b o (k0 b o e) hb), hx4, ?_, dne, hn4⟩)
      have z1 : s.heap.objs.size < h0.objs.size := Heap.lt_size hL
      have z2 : s.heap.objs.size < h3.objs.size := Heap.lt_size (hnot _ _ hL hxL)
      exact Nat.le_of_lt (Nat.lt_of_lt_of_le z2 dn)
/-- a made error -/
structure EMade (f : Str) (h h' : Heap) (e C d : Addr) (v : Value) : Prop where
  keep : ∀ b o, h.get? b = some o → h'.get? b = some o
  new : h.objs.size ≤ e
  obj : ∃ t1 : Addr, h'.get? e = some { cls := .ref C, dict := some d, data := .fields #[.ref t1, .none, .none, .none, .bool false, .none] }
  dbig : h.objs.size ≤ d
  dne : d ≠ e
  ns : h'.Ns1 d (fun y => if y = f then some v else none)
theorem err_made (T : ErrF P K C fI f) {mb : Str → Option Value} {v : Value} (X : K.In s.heap) (hlim : s.heap.NoLimit) (hg : s.heap.Ns mainGlobals mg) (hb : s.heap.Ns builtinsNs mb) (hsu : mg "super" = none) (hbs : mb "super" = some (.type "super")) (hroom : A.depth + 1 < recursionLimit)
    (hq : ∀ h' tk e d, EMade f s.heap h' e C d v → R (.ok (.ret (.ref e))) { s with heap := h', toks := tk }) : codeAny (model P w) A (.call (.ref C) ⟨[v], []⟩) R s := by
  obtain ⟨nm, N', qn, bs, bm, hdct, sn, sub, ab, col, dd, kk0, kk1, kk2, kk3, kk5, hC, hT⟩ := PySem.W.excInit_of X T.new
  obtain ⟨hp, g, dr, tk, os⟩ := s
  have k : ∀ b o, hp.get? b = some o → ((hp.push (PySem.W.kdv_tup [v])).push (HandSPX.excO C hp.objs.size)).get? b = some o := fun b o e => Heap.get?_push_of_some _ (Heap.get?_push_of_some _ e)
  have hget : ((hp.push (PySem.W.kdv_tup [v])).push (HandSPX.excO C hp.objs.size)).get? (hp.objs.size + 1) = some (HandSPX.excO C hp.objs.size) := by heap_get
  have hnx : K.lookup (hp.objs.size + 1) = none := by
    cases e : K.lookup (hp.objs.size + 1) with
    | none => rfl
    | some o => exact absurd (Nat.lt_of_succ_lt (Heap.lt_size (show hp.get? (hp.objs.size + 1) = some o from X _ _ e))) (Nat.lt_irrefl _)
  have hmg : hp.objs.size + 1 ≠ mainGlobals := fun z => by
    have := hg.lt
    rw [← z] at this
    exact absurd this (by show ¬ hp.objs.size + 1 < hp.objs.size; omega)
  refine HandSPX.call_own PySem.F.excBase_ValueError hT hC (PySem.W.looks_findIn X T.iC) (fun self => PySem.W.bind_fn X self T.tI) (one_sz v) ?_
  refine err_init (s := ⟨(hp.push (PySem.W.kdv_tup [v])).push (HandSPX.excO C hp.objs.size), g, dr, tk, os⟩) T (X.keeps k) (hlim.keeps k) (hg.keeps k) (hb.keeps k) hsu hbs hget hnx hmg ?_ fun h' tk' dx t1 z => ?_
  · show A.depth + 1 < recursionLimit
    exact hroom
  · have old : ∀ b o, hp.get? b = some o → h'.get? b = some o := fun b o e => z.keep b o (Nat.ne_of_lt (Nat.lt_succ_of_lt (Heap.lt_size e))) (k b o e)
    have zz : hp.objs.size + 1 + 1 ≤ dx := by
      have q := z.dbig
      simpa only [Heap.size_push] using q
    exact ⟨rfl, hq h' tk' (hp.objs.size + 1) dx ⟨old, Nat.le_succ _, ⟨t1, z.obj⟩, (by show hp.objs.size ≤ dx; omega), z.dne, z.ns⟩⟩
end
theorem relO_one {f : Str} {v : V} {u : Value} (r : RelV v u) (g : Str) : RelO (List.lookup g [(f, v)]) (if g = f then some u else none) := by
  by_cases h : g = f
  · subst h
    rw [if_pos rfl]
    have : List.lookup g [(g, v)] = some v := by simp [List.lookup]
    rw [this]; exact r
  · rw [if_neg h]
    have hb : (g == f) = false := by simpa using h
    have : List.lookup g [(f, v)] = none := by simp [List.lookup, hb]
    rw [this]; trivial
/-- a class of the package with one field -/
def tMkE (C : Addr) (f : Str) (ta : TA) : L2.St → Hp → XK → Prop := fun σ H Q => ta σ H fun vs H1 => ∃ v, vs = [v] ∧ ∀ d, H1 d = none → Q (.ref C) (some d) (upd H1 d (.xd [(f, v)]))
section
variable {X : Cx} {C fI : Addr} {f : Str}
theorem pmk_err {x : Str} {a : Expr} {ta : TA} {p pos : Pos} {k : Nat} (T : ErrF X.prog X.K C fI f) (hm : X.mg x = some (.ref C)) (hsu : X.mg "super" = none) (hr : Rm k X.A) (ha : PA X [a] ta) (hg : Gl X x := by rfl) (hd : (x == ("__debug__" : Str)) = false := by decide)
    (he : starEach (a :: []) X.env = (false, eval a X.env) :: starEach [] X.env := by rfl) (hpl : (backTo pos (starEach [] X.env)).any (·.1) = false := by rfl) : L2N.PMk X (.Call (.Name x p) [a] [] pos) (tMkE C f ta) := by
  intro pins s σ H Q J h
  refine wpAny_Call_Name_kw (ld_glob J hg hm ?_ hd)
  refine PySem.W.callWith_K (h₀ := X.base) J.ok.mod.kin T.kC (thn (ha.run pos pins s σ H _ J h) fun us s1 hh => ?_) he hpl
  obtain ⟨vs, H1, J1, r1, v, ev, q1⟩ := hh
  subst ev
  refine ⟨J1.kIn, ?_⟩
  cases r1 with
  | cons rv rn =>
    rename_i v' us'
    cases rn
    show wpAny _ _ (call (.ref C) [v']) _ _ _
    have hlim := J1.nolimit
    obtain ⟨mb, hb1, hb2⟩ := J1.mod.blt
    have hgl := J1.mod.glob.keeps J1.bk
    have hbl := hb1.keeps J1.bk
    obtain ⟨hp, g, dr, tk, os⟩ := s1
    refine wpAny_call (err_made T J1.kIn hlim hgl hbl hsu ((hb2 _ (by decide)).trans (by decide +kernel)) (by have := hr.dp; omega) fun h' tk' e d M => ?_)
    show L2N.MkP X pins σ Q (.ref e) ⟨h', g, dr, tk', os⟩
    obtain ⟨t1, hoe⟩ := M.obj
    have hns := M.ns
    obtain ⟨G', g1, g2⟩ := restrict h' fun b => decide (b ≠ e)
    have gk : ∀ b, b ≠ e → G'.get? b = h'.get? b := fun b hb => g1 b (decide_eq_true hb)
    have ge : G'.get? e = none := g2 e (by simp)
    have old : ∀ b o, hp.get? b = some o → G'.get? b = some o := fun b o q => (gk b (Nat.ne_of_lt (Nat.lt_of_lt_of_le (Heap.lt_size q) M.new))).trans (M.keep b o q)
    have ob : ObjOk X.prog X.w (upd H1 d (.xd [(f, v)])) G' d (.xd [(f, v)]) := ⟨_, hns.at (fun o q => (gk d M.dne).trans q), fun y => relO_one rv y⟩
    have J2 : Inv X pins σ (upd H1 d (.xd [(f, v)])) ⟨G', g, dr, tk', os⟩ := J1.laid (t' := tk') old M.dbig ob
    refine ⟨e, _, _, ⟨G', g, dr, tk', os⟩, _, .ref C, some d, rfl, J2, fun b o q => ?_, ge, hoe, ⟨rfl, rfl, ?_⟩, rfl, rfl, ?_, rfl, J1.bare, raises_own T.ex T.ty, q1 d (J1.hok.fresh M.dbig)⟩
    · by_cases hb : b = e
      · have q' : G'.get? b = some o := q
        rw [hb, ge] at q'; cases q'
      · exact (gk b hb).symm.trans q
    · intro ws ews
      have ews : Data.fields #[.ref t1, .none, .none, .none, .bool false, .none] = .fields ws := ews
      cases ews
      rfl
    · rw [upd_ne (Ne.symm M.dne)]
      exact J1.hok.fresh M.new
end
/-- raise X(e): the error with its one field -/
def dRaise (c : Cl) (ds : DA) : DS := fun P ρ μ => ds ρ μ (fun ps μ1 => match ps with
  | [p] => P.xc (c, [p]) ρ μ1
  | _ => False) (fun xv μ1 => P.xc xv ρ μ1)
theorem s_raise {X : Cx} {W : WX} {c : Cl} {fI : Addr} {f : Str} {a : Expr} {ds : DA} {p pos pos' : Pos} {k : Nat} (hf : c.flds = [f]) (xc : xcB X.K c = true) (T : ErrF X.prog X.K (ca X.K c) fI f) (hm : X.mg c.name = some (.ref (ca X.K c))) (hsu : X.mg "super" = none) (hr : Rm k X.A) (hc : X.calm = true) (hfr : X.env.frame = some X.env.locals) (tk : TkI X W) (ha : AJ X W [a] ds)
    (hg : Gl X c.name := by rfl) (hd : (c.name == ("__debug__" : Str)) = false := by decide) (he : starEach (a :: []) X.env = (false, eval a X.env) :: starEach [] X.env := by rfl) (hpl : (backTo pos (starEach [] X.env)).any (·.1) = false := by rfl) :
    SJ X W (.Raise (some (.Call (.Name c.name p) [a] [] pos)) none pos') (dRaise c ds) := ps_imp (L2N.ps_raise hc (tk.n hfr) (pmk_err T hm hsu hr ha hg hd he hpl)) fun D σ H ⟨B, ρ, μ, G, P, R, h, eo⟩ =>
  ⟨B, ρ, μ, G, _, _, R, h, fun ps vs μ1 G1 H1 h0 g1 r1 => by
    match ps, h0 with
    | [p], h0 =>
      obtain ⟨v, ws, rfl, r, rn⟩ := r1.cons_inv
      rw [rn.nil_inv]
      refine ⟨v, rfl, fun d hd => ?_⟩
      have g2 := g1.ok.new1 (u := .xd [(f, v)]) hd
      have g := g1.trans g2
      exact eo.xc (c, [p]) (some d) ρ σ _ _ _ h0 (R.go g) g ⟨xc, .inr ⟨d, [v], rfl, by rw [hf]; exact upd_same, by rw [hf]; rfl, .cons (r.mono g2.gx) .nil⟩⟩, eo.gx R⟩
end Px
namespace Px
open PySem PySem.Spec PyProof.Rows L2
/-- where the error's dict is -/
def XD (c : Cl) (d : Option Addr) (dd : Addr) : Prop := (c.flds = [] ∧ d = none) ∨ d = some dd
theorem takes_no {X : Cx} : TkI X Wno := fun u s' z => by
  obtain ⟨_, _, _, _, _, _, _, _, _, _, _, _, _, _, _, _, w⟩ := z
  exact w.elim
end Px
namespace Px
open PySem PySem.Spec PyProof.Rows L2
abbrev Fs := List (Str × PV)
def putP (f : Str) (p : PV) : Fs → Fs
  | [] => [(f, p)]
  | (g, x) :: r => match decEq g f with
    | Decidable.isTrue _ => (g, p) :: r
    | Decidable.isFalse _ => (g, x) :: putP f p r
theorem putP_mem {f : Str} {p : PV} {l : List Str} (hf : f ∈ l) : ∀ {fs : Fs}, (∀ z ∈ fs, z.1 ∈ l) → ∀ z ∈ putP f p fs, z.1 ∈ l
  | [], _, z, hz => by
    have : z = (f, p) := by simpa [putP] using hz
    rw [this]; exact hf
  | (g, x) :: fs, h, z, hz => by
    unfold putP at hz
    split at hz
    · rcases List.mem_cons.mp hz with e | e
      · rw [e]; exact h (g, x) List.mem_cons_self
      · exact h z (List.mem_cons_of_mem _ e)
    · rcases List.mem_cons.mp hz with e | e
      · rw [e]; exact h (g, x) List.mem_cons_self
      · exact putP_mem hf (fun y hy => h y (List.mem_cons_of_mem _ hy)) z e
theorem FRep.put {K : Frg} {B : BX} {G : Hp} {f : Str} {p : PV} {v : V} (r : Rep K B G p v) : ∀ {fs : Fs} {ws : List (Str × V)}, FRep K B G fs ws → FRep K B G (putP f p fs) (putF f v ws)
  | [], _, .nil => .cons ⟨rfl, r⟩ .nil
  | (g, x) :: fs, (h, y) :: ws, .cons ⟨e, q⟩ t => by
    have e : g = h := e
    subst e
    unfold putP putF
    cases z : decEq g f with
    | isTrue z1 => rw [if_pos z1]; exact .cons ⟨rfl, r⟩ t
    | isFalse z1 => rw [if_neg z1]; exact .cons ⟨rfl, q⟩ (FRep.put r t)
theorem FRep.len {K : Frg} {B : BX} {G : Hp} {fs : Fs} {ws : List (Str × V)} (h : FRep K B G fs ws) : fs.length = ws.length := Paired.length h
/-- the fields, if they are all there in their order -/
def takeF : List Str → Fs → Option (List PV)
  | [], [] => some []
  | f :: fs, (g, x) :: r => (match decEq f g with
    | Decidable.isTrue _ => (match takeF fs r with
      | some xs => some (x :: xs)
      | none => none)
    | Decidable.isFalse _ => none)
  | _, _ => none
theorem takeF_ok {K : Frg} {B : BX} {G : Hp} : ∀ {gs : List Str} {fs : Fs} {xs : List PV} {ws : List (Str × V)}, takeF gs fs = some xs → FRep K B G fs ws → ∃ vs, ws = gs.zip vs ∧ vs.length = gs.length ∧ Reps K B G xs vs
  | [], [], xs, ws, e, h => by cases e; cases h; exact ⟨[], rfl, rfl, .nil⟩
  | [], _ :: _, xs, ws, e, h => by cases e
  | g :: gs, [], xs, ws, e, h => by cases e
  | g :: gs, (g', x) :: fs, xs, ws, e, h => by
    cases h with
    | cons q t =>
      rename_i w ws'
      obtain ⟨w1, w2⟩ := w
      obtain ⟨q1, q2⟩ := q
      have q1 : g' = w1 := q1
      subst q1
      unfold takeF at e
      cases z : decEq g g' with
      | isFalse z' => rw [z] at e; cases e
      | isTrue z' =>
        rw [z] at e
        subst z'
        cases e2 : takeF gs fs with
        | none => simp only [e2] at e; cases e
        | some ys =>
          simp only [e2] at e
          cases e
          obtain ⟨vs, e3, l, r⟩ := takeF_ok e2 t
          exact ⟨w2 :: vs, by rw [e3]; rfl, by simp [l], .cons q2 r⟩
/-- the new instance at y is as it shall be: it is never changed again -/
def mkEnd (y : Addr) (q : QV) : QV := fun r μ => match r with
  | .non => (match μ y with
    | some (.ins c fs) => (match takeF c.flds fs with
      | some xs => q (.obj c xs) (μ.del y)
      | none => False)
    | _ => False)
  | _ => False
/-- .. or may be changed -/
def mkEndC (y : Addr) (q : QV) : QV := fun r μ => match r with
  | .non => q (.cell y) μ
  | _ => False
def mkQ (fz : Bool) (y : Addr) (q : QV) : QV := match fz with
  | true => mkEnd y q
  | false => mkEndC y q
/-- a promise of C(..) by the promise of its __init__ -/
def MkC (fz : Bool) (c : Cl) (ct kc : Ct) : Prop := ∀ ps μ q x, kc ps μ q x → ∀ y, μ y = none → ct (.cell y :: ps) (μ.put y (.ins c [])) (mkQ fz y q) (fun xv μ2 => x xv (μ2.del y))
theorem spI_of {K : Frg} {W : WX} {fz : Bool} {ct : Ct} {B : BX} {ρ : En} {μ : Mu} {σ : L2.St} {G H : Hp} {c : Cl} {ps : List PV} {us : List V} {q : QV} {x : QX} {Q : VK} {y dx : Addr} (R : Rel K B ρ μ σ G H) (r : Reps K B G ps us) (h : ∀ y, μ y = none → ct (.cell y :: ps) (μ.put y (.ins c [])) (mkQ fz y q) (fun xv μ2 => x xv (μ2.del y)))
    (gv : GoodV K B μ G H q Q) (gx : GoodX K W B μ G H σ x) (kc : kcB K c = true) (hy : H y = none) (hdx : H dx = none) (ne : dx ≠ y) : spP K ct (.ref y :: us) (upd (upd H dx (.own y)) y (.ins (ca K c) dx [])) (fun v H2 => v = .non ∧ Q (.ref y) H2) (fun cls d H' => W cls d σ H') := by
  have o := R.ok
  have g1 := o.new2 (u := .own y) hdx
  have hy1 : upd H dx (.own y) y = none := by rw [upd_ne (Ne.symm ne)]; exact hy
  have g2 := g1.ok.newC (u := .ins (ca K c) dx []) (c := .ins c []) hy1 ⟨dx, [], rfl, kc, fun _ z => (nomatch z), .nil⟩
  have g12 := g1.trans g2
  refine ⟨B, _, G, .cell y :: ps, _, _, g12.ok, .cons (rep_cell y) (r.mono g12.gx), h y (o.freeM hy), fun p v μ' G' H' hp g rr => ?_, fun xv d μ' G' H' hx g rr => ?_⟩
  · have gg := g12.trans g
    cases fz with
    | true =>
      cases p with
      | non =>
        unfold mkQ mkEnd at hp
        cases e : μ' y with
        | none => simp only [e] at hp
        | some cc =>
          cases cc with
          | ins c' fs =>
            simp only [e] at hp
            cases e2 : takeF c'.flds fs with
            | none => simp only [e2] at hp
            | some xs =>
              simp only [e2] at hp
              obtain ⟨ga, nb, u, ha, dx', ws, rfl, kc, fl, fr⟩ := g.ok.cell y _ e
              have gf := g.ok.goFrz (by rw [e]; intro z; cases z) ha ga nb
              obtain ⟨vs, rfl, l, rs⟩ := takeF_ok e2 fr
              refine ⟨rr.non_inv, gv _ _ _ _ _ hp (gg.trans gf) ?_⟩
              simp only [Rep]
              exact ⟨y, dx', vs, rfl, kc, upd_same, l, rs.mono gf.gx⟩
          | _ => simp only [e] at hp
      | _ => exact hp.elim
    | false =>
      cases p with
      | non => exact ⟨rr.non_inv, gv _ _ _ _ _ hp gg (rep_cell y)⟩
      | _ => exact hp.elim
  · have gd := g.ok.goDel y
    exact gx xv d _ G' H' hx ((g12.trans g).trans gd) rr
theorem roomH_make {k : Nat} {A : Around} (r : Rm (k + 1) A) (C : Addr) (us : List Value) (kw : List (Str × Value)) : Rm k (A.under (.builtin "type.__call__" ⟨.ref C :: us, kw⟩)) :=
  ⟨by have := r.dp; rw [make_depth]; omega, by have := r.un; rw [make_units]; omega, by have h := r.gd; first | exact h | simpa [Around.under, Code.guards, Code.isGuard, guardIds, pushGuards] using h⟩
section
variable {X : Cx} {W : WX} {k : Nat} {c : Cl} {fI : Addr} {ks : List Str} {fz : Bool} {ct : Ct} {p0 pos : Pos} {e : Expr} {es : List Expr} {ds dk : DA} {kws : List Keyword}
theorem run_mk {pins : List (Addr × Obj)} {σ : L2.St} {H : Hp} {s : Shared} {Q : VK} {C : Addr} {us wz : List Value} {vs : List V} {sp : Sp} (M : Mk X.K C fI) (Fn : FnS false X.prog X.w X.K X.mg X.base k fI ks sp) (hc : X.calm = true) (hr : Rm (k + 1) X.A) (tk : TkI X W) (J : Inv X pins σ H s) (hl : wz.length = ks.length) (r : Vals vs (us ++ wz))
    (h : ∀ y dx, H y = none → H dx = none → dx ≠ y → sp (.ref y :: vs) (upd (upd H dx (.own y)) y (.ins C dx [])) (fun v H2 => v = .non ∧ Q (.ref y) H2) (fun cls d H' => W cls d σ H')) :
    wpAny (model X.prog X.w) X.A (call (.ref C) us (ks.zip wz)) (EP X pins σ Q) X.xe s := by
  have hq := h (s.heap.objs.size + 1) s.heap.objs.size (J.hok.fresh (Nat.le_succ _)) (J.hok.fresh (Nat.le_refl _)) (Nat.ne_of_lt (Nat.lt_succ_self _))
  have J2 := Inv.made (C := C) J
  have r2 : Vals (V.ref (s.heap.objs.size + 1) :: vs) ((Value.ref (s.heap.objs.size + 1) :: us) ++ wz) := .cons rfl r
  refine wpAny_call (make_map (f := fI) J.kIn M.makes M.init (beq_iff_eq.mp M.fn) (codeAny_mono (Fn _ X.stack _ _ (Value.ref (s.heap.objs.size + 1) :: us) wz _ _ _ (.inl (J.ok.hd hc)) (roomH_make hr C us _) (J2.env0.make C us _) hl r2 hq) fun rr s' hq' => ?_))
  cases rr with
  | error er => exact tk er s' (XI.of_call J2 (fun _ _ _ z => z) hq')
  | ok fl =>
    cases fl with
    | ret u =>
      obtain ⟨v, H', J3, rv, ev, q3⟩ := J2.after hq'
      subst ev
      exact ⟨rv, ⟨V.ref (s.heap.objs.size + 1), H', J3, rfl, q3⟩⟩
    | next => exact False.elim hq'
    | brk => exact False.elim hq'
    | cont => exact False.elim hq'
theorem e_make {kcc : Ct} (kc : kcB X.K c = true) (mc : MkC fz c ct kcc) (M : Mk X.K (ca X.K c) fI) (Fn : FnS false X.prog X.w X.K X.mg X.base k fI [] (spP X.K ct)) (hc : X.calm = true) (hr : Rm (k + 1) X.A) (tk : TkI X W) (hm : X.mg c.name = some (.ref (ca X.K c))) (ha : AJ X W (e :: es) ds) (hg : Gl X c.name := by rfl)
    (h1 : (c.name == ("__debug__" : Str)) = false := by decide) (h2 : starEach (e :: es) X.env = (false, eval e X.env) :: starEach es X.env := by rfl) (h3 : (backTo pos (starEach es X.env)).any (·.1) = false := by rfl) : EJ X W (.Call (.Name c.name p0) (e :: es) [] pos) (dCall kcc ds) := by
  refine ⟨fun pins s σ H Q J ⟨B, ρ, μ, G, q, z, R, h, gv, gx⟩ => ?_⟩
  refine wpAny_Call_Name_kw (ld_glob J hg hm ?_ h1)
  refine PySem.W.callWith_K (h₀ := X.base) J.ok.mod.kin M.kp (thn (ha.run pos pins s σ H (fun vs H1 => ∀ y dx, H1 y = none → H1 dx = none → dx ≠ y → spP X.K ct (.ref y :: vs) (upd (upd H1 dx (.own y)) y (.ins (ca X.K c) dx [])) (fun v H2 => v = .non ∧ Q (.ref y) H2) fun cls d H' => W cls d σ H') J
    ⟨B, ρ, μ, G, _, z, R, h, fun ps vs μ1 G1 H1 h1 g1 r1 y dx hy hd ne => spI_of (R.go g1) r1 (mc _ _ _ _ h1) (gv.go g1) (gx.go g1) kc hy hd ne, gx⟩) fun us s1 ⟨vs, H1, J1, r, q1⟩ => ⟨J1.kIn, ?_⟩) h2 h3
  exact run_mk (wz := []) M Fn hc hr tk J1 rfl (by rw [List.append_nil]; exact r) q1
theorem e_make0 {kcc : Ct} (kc : kcB X.K c = true) (mc : MkC fz c ct kcc) (M : Mk X.K (ca X.K c) fI) (Fn : FnS false X.prog X.w X.K X.mg X.base k fI [] (spP X.K ct)) (hc : X.calm = true) (hr : Rm (k + 1) X.A) (tk : TkI X W) (hm : X.mg c.name = some (.ref (ca X.K c))) (hg : Gl X c.name := by rfl)
    (h1 : (c.name == ("__debug__" : Str)) = false := by decide) : EJ X W (.Call (.Name c.name p0) [] [] pos) (dCall kcc dNil) := by
  refine ⟨fun pins s σ H Q J ⟨B, ρ, μ, G, q, z, R, h, gv, gx⟩ => ?_⟩
  refine wpAny_Call_Name_kw (ld_glob J hg hm ?_ h1)
  exact PySem.W.callWith_K0 J.kIn M.kp (run_mk (us := []) (wz := []) M Fn hc hr tk J rfl .nil fun y dx hy hd ne => spI_of R .nil (mc _ _ _ _ h) gv gx kc hy hd ne)
/-- v(e, ..): v a local that holds the class c -/
def isCls (c : Cl) (p : PV) : Bool := match p with
  | .cls d => decide (d = c)
  | _ => false
theorem isCls_ok {c : Cl} {p : PV} (h : isCls c p = true) : p = .cls c := by
  cases p with
  | cls d => rw [of_decide_eq_true h]
  | _ => cases h
def dMkV (c : Cl) (kc : Ct) (df : DE) (ds : DA) : DE := fun ρ μ q x => df ρ μ (fun p μ1 => br (isCls c p) (dCall kc ds ρ μ1 q x) False) x
theorem e_mkV {x : Str} {df : DE} {kcc : Ct} (kc : kcB X.K c = true) (mc : MkC fz c ct kcc) (M : Mk X.K (ca X.K c) fI) (Fn : FnS false X.prog X.w X.K X.mg X.base k fI [] (spP X.K ct)) (hc : X.calm = true) (hr : Rm (k + 1) X.A) (tk : TkI X W) (hf : EJ X W (.Name x p0) df) (ha : AJ X W (e :: es) ds)
    (h2 : starEach (e :: es) X.env = (false, eval e X.env) :: starEach es X.env := by rfl) (h3 : (backTo pos (starEach es X.env)).any (·.1) = false := by rfl) : EJ X W (.Call (.Name x p0) (e :: es) [] pos) (dMkV c kcc df ds) := by
  refine ⟨fun pins s σ H Q J ⟨B, ρ, μ, G, q, z, R, h, gv, gx⟩ => ?_⟩
  refine wpAny_Call_Name_kw (thn (hf.run pins s σ H (fun v H1 => ∃ μ1 G1, Go X.K B μ G H μ1 G1 H1 ∧ v = .ref (ca X.K c) ∧ dCall kcc ds ρ μ1 q z) J
    ⟨B, ρ, μ, G, _, z, R, h, fun p v μ1 G1 H1 h0 g1 r1 => by
      obtain ⟨e1, h1⟩ := br_and h0
      have e1 := isCls_ok e1
      subst e1
      exact ⟨μ1, G1, g1, r1.cls_inv, h1⟩, gx⟩) fun u s1 ⟨v, H1, J1, rv, μ1, G1, g1, ev, hd⟩ => ?_)
  subst ev
  obtain rfl : u = Value.ref (ca X.K c) := rv
  refine PySem.W.callWith_K (h₀ := X.base) J.ok.mod.kin M.kp (thn (ha.run pos pins s1 σ H1 (fun vs H2 => ∀ y dx, H2 y = none → H2 dx = none → dx ≠ y → spP X.K ct (.ref y :: vs) (upd (upd H2 dx (.own y)) y (.ins (ca X.K c) dx [])) (fun v H3 => v = .non ∧ Q (.ref y) H3) fun cls d H' => W cls d σ H') J1
    ⟨B, ρ, μ1, G1, _, z, R.go g1, hd, fun ps vs μ2 G2 H2 h1 g2 r1 y dx hy hd ne => spI_of (R.go (g1.trans g2)) r1 (mc _ _ _ _ h1) (gv.go (g1.trans g2)) (gx.go (g1.trans g2)) kc hy hd ne, gx.go g1⟩) fun us s2 ⟨vs, H2, J2, r, q1⟩ => ⟨J2.kIn, ?_⟩) h2 h3
  exact run_mk (wz := []) M Fn hc hr tk J2 rfl (by rw [List.append_nil]; exact r) q1
theorem star_pv {pins : List (Addr × Obj)} {σ : L2.St} {H G : Hp} {μ : Mu} {s : Shared} {B : BX} {p : PV} {v : V} {u : Value} {t : Bool} {xs : List PV} {E : Value → Shared → Prop} {Q : List Value → Shared → Prop} (J : Inv X pins σ H s) (o : Ok X.K B μ G H) (r : Rep X.K B G p v) (rv : RelV v u) (hp : seqOf μ p = some (t, xs))
    (hQ : ∀ vs us s', Inv X pins σ H s' → Vals vs us → Reps X.K B G xs vs → Q us s') : PySem.W.StarOf (model X.prog X.w) X.A E u Q s := by
  obtain ⟨a, vs, rfl, rs, hh⟩ := seq_ok o r hp
  obtain rfl : u = Value.ref a := rv
  rcases hh with ⟨_, hh⟩ | ⟨_, hh⟩
  · exact StX.star_lst J (.inl (.inl hh)) fun us s' J' rr => hQ vs us s' J' rr rs
  · exact star_tup J hh fun us s' J' rr => hQ vs us s' J' rr rs
/-- v(*e) -/
theorem e_mkVS {x : Str} {p1 : Pos} {df de : DE} {kcc : Ct} (kc : kcB X.K c = true) (mc : MkC fz c ct kcc) (M : Mk X.K (ca X.K c) fI) (Fn : FnS false X.prog X.w X.K X.mg X.base k fI [] (spP X.K ct)) (hc : X.calm = true) (hr : Rm (k + 1) X.A) (tk : TkI X W) (hf : EJ X W (.Name x p0) df) (he : EJ X W e de)
    (h1 : starEach [.Starred e p1] X.env = [(true, eval e X.env)] := by rfl) : EJ X W (.Call (.Name x p0) [.Starred e p1] [] pos) (dMkV c kcc df (dStar de dNil)) := by
  refine ⟨fun pins s σ H Q J ⟨B, ρ, μ, G, q, z, R, h, gv, gx⟩ => ?_⟩
  refine wpAny_Call_Name_kw (thn (hf.run pins s σ H (fun v H1 => ∃ μ1 G1, Go X.K B μ G H μ1 G1 H1 ∧ v = .ref (ca X.K c) ∧ dCall kcc (dStar de dNil) ρ μ1 q z) J
    ⟨B, ρ, μ, G, _, z, R, h, fun p v μ1 G1 H1 h0 g1 r1 => by
      obtain ⟨e1, h1⟩ := br_and h0
      have e1 := isCls_ok e1
      subst e1
      exact ⟨μ1, G1, g1, r1.cls_inv, h1⟩, gx⟩) fun u s1 ⟨v, H1, J1, rv, μ1, G1, g1, ev, hd⟩ => ?_)
  subst ev
  obtain rfl : u = Value.ref (ca X.K c) := rv
  refine PySem.W.callWith_S (h₀ := X.base) J.ok.mod.kin M.kp (thn (he.run pins s1 σ H1 (fun v H2 => ∃ μ2 G2 p t xs, Go X.K B μ G H μ2 G2 H2 ∧ Rep X.K B G2 p v ∧ seqOf μ2 p = some (t, xs) ∧ kcc (xs ++ []) μ2 q z) J1
    ⟨B, ρ, μ1, G1, _, z, R.go g1, hd, fun p v μ2 G2 H2 h2 g2 r2 => by
      cases e0 : seqOf μ2 p with
      | none => simp only [e0] at h2
      | some zz =>
        obtain ⟨t, xs⟩ := zz
        simp only [e0] at h2
        exact ⟨μ2, G2, p, t, xs, g1.trans g2, r2, e0, h2⟩, gx.go g1⟩) fun u2 s2 ⟨v2, H2, J2, rv2, μ2, G2, p, t, xs, g2, r2, hp, h2⟩ => ?_) h1
  refine star_pv J2 g2.ok r2 rv2 hp fun vs us s3 J3 rr rs => ⟨J3.kIn, ?_⟩
  rw [List.append_nil] at h2
  exact run_mk (wz := []) M Fn hc hr tk J3 rfl (by rw [List.append_nil]; exact rr) fun y dx hy hdx ne => spI_of (R.go g2) rs (mc _ _ _ _ h2) (gv.go g2) (gx.go g2) kc hy hdx ne
end
def setAt (f : Str) (o p : PV) (μ : Mu) (q : Mu → Prop) : Prop := match o with
  | .cell a => (match μ a with
    | some (.ins c fs) => br (memS f c.flds && decide (fs.length < 1000)) (q (μ.put a (.ins c (putP f p fs)))) False
    | _ => False)
  | _ => False
def dAttrSet (f : Str) (dO d : DE) : DS := fun P ρ μ => d ρ μ (fun p μ1 => dO ρ μ1 (fun o μ2 => setAt f o p μ2 fun μ3 => P.nx ρ μ3) (fun xv μ' => P.xc xv ρ μ')) (fun xv μ' => P.xc xv ρ μ')
theorem s_attr {X : Cx} {W : WX} {f : Str} {o e : Expr} {d dO : DE} {pos' pos : Pos} (ho : EJ X W o dO) (hv : EJ X W e d)
    (hsw : swapsWith e (some (.Attribute o f pos')) pos.line X.env = pure false := by rfl) : SJ X W (.Assign [.Attribute o f pos'] e pos) (dAttrSet f dO d) :=
  ps_imp (ps_fld ho hv hsw) fun D σ H ⟨B, ρ, μ, G, P, R, h, eo⟩ =>
  ⟨B, ρ, μ, G, _, _, R, h, fun p v μ1 G1 H1 h1 g1 r1 => ⟨B, ρ, μ1, G1, _, _, R.go g1, h1, fun o w μ2 G2 H2 h2 g2 r2 => by
    have g := g1.trans g2
    cases o with
    | cell a =>
      unfold setAt at h2
      cases e0 : μ2 a with
      | none => simp only [e0] at h2
      | some cc =>
        cases cc with
        | ins c fs =>
          simp only [e0] at h2
          obtain ⟨hb, h2⟩ := br_and h2
          obtain ⟨b2, b3⟩ := He.ba hb
          obtain ⟨ga, nb, u, ha, dx, ws, rfl, kc, fl, fr⟩ := g2.ok.cell a _ e0
          have k := kcB_ok kc
          have gp := g2.ok.goPut (d := .ins c (putP f p fs)) (u := .ins (ca X.K c) dx (putF f v ws)) e0 ⟨dx, _, rfl, kc, putP_mem (memS_ok b2) fl, fr.put (r1.mono g2.gx)⟩
          exact ⟨a, ca X.K c, dx, ws, r2.cell_inv, ha, k.cls, k.no f (memS_ok b2), by rw [← fr.len]; exact of_decide_eq_true b3, eo.nx _ _ _ _ _ h2 (R.go (g.trans gp)) (g.trans gp)⟩
        | _ => simp only [e0] at h2
    | _ => exact h2.elim, (eo.go g1).gx (R.go g1)⟩, eo.gx R⟩
section
variable {P : Program} {w : World} {K : Frg} {mg : Str → Option Value} {base : Heap} {x qual : Str} {params : Arguments} {body : List Stmt} {scope : Scope} {dvs : List V} {kws : List (Str × V)} {f : Addr} {fd : FuncData} {N ps : List Str} {k : Nat}
theorem cxUpN : StX.CXUp (CXI K P w) := by
  rintro outer s H s2 H2 E e s' un kp ho ⟨a, B, H', cls, d, ea, fl, hok, ub, na, os, ag, he⟩
  refine ⟨a, B, H', cls, d, ea, fl, hok, ⟨fun b o q n hb => ub.keep b o (kp b o q) (un.free b o q n (by simp)) hb, fun b o q hb => ub.slot b o (kp b o q) hb, fun b o q n => ub.free b o (kp b o q) (un.free b o q n (by simp)),
    fun b o q hb => ub.there b o (kp b o q) hb, fun b xs q => ub.tups b xs (un.tups b xs q), fun b o xs q => ub.frzs b o xs (un.frzs b o xs q), fun b ps q => ?_⟩, na, by rw [os]; exact ho, ag, he⟩
  obtain ⟨m1, e1⟩ := un.tbls b ps q
  obtain ⟨m2, e2⟩ := ub.tbls b _ e1
  exact ⟨m1 ++ m2, by rw [e2, Array.append_assoc]⟩
theorem fnS_of_R {sp : Sp} {k : Nat} (Fn : FnRG P w K mg base (CXI K P w) k f sp) : FnS false P w K mg base k f [] sp := fun A outer s H us ws vs Q E hm hr e0 hl r h => by
  have hw : ws = [] := List.eq_nil_of_length_eq_zero hl
  subst hw
  rw [List.append_nil] at r
  rcases hm with z | ⟨z, _⟩
  · exact Fn A outer s H us vs Q E ⟨z, hr.dp, hr.un, hr.gd⟩ e0 r h
  · cases z
/-- def f(a, .., *v): n by place, the others one tuple -/
def starC (n : Nat) (c : Ct) : Ct := fun as μ q z => n ≤ as.length ∧ (as.drop n).length ≤ sizeLine ∧ c (as.take n ++ [.tup (as.drop n)]) μ q z
theorem spP_star {n : Nat} {c : Ct} {vs : List V} {H : Hp} {Q : VK} {E : XK} (h : spP K (starC n c) vs H Q E) {p : Addr} (hp : H p = none) : spP K c (vs.take n ++ [.ref p]) (upd H p (.tup (vs.drop n))) Q E := by
  obtain ⟨B, μ, G, as, q, z, o, r, ⟨hn, hl, hc⟩, hq, hx⟩ := h
  have g := o.new1 (u := .tup (vs.drop n)) hp
  exact ⟨B, μ, _, _, q, z, g.ok, ((r.take n).mono g.gx).append (.cons (rep_tup upd_same ((r.drop n).mono g.gx)) .nil), hc, hq.go g, fun xv d μ' G' H' h1 g' => hx xv d μ' G' H' h1 (g.trans g')⟩
theorem fn_star {qs : List Str} {pv : Str} (Fn : FunD K x qual params body scope [] kws f fd) (S : FnScope N (qs ++ [pv]) scope) (c : Ct) (d : DS) (hb : ∀ (kV doc pm : Value) (an : Option Addr) (cdv ct : Value) (us rest : List Value), us.length = qs.length → bindArgs (PySem.W.fnOf x qual params body scope .none kV doc pm an cdv ct) ⟨us ++ rest, []⟩ = (newTuple rest >>= fun t => pure (qs.zip us ++ [(pv, t)])))
    (der : ∀ (cm : Bool) (pn : List (Addr × Obj)) (cd : Value) (A : Around) (outer : List Env) (s : Shared) (H : Hp) (E : XK), (false = false → cm = true) → Here false (cxG cm pn P w K mg base N qual scope f cd A outer s H E) (fun cls dd _ H' => E cls dd H') k →
      BJ (cxG cm pn P w K mg base N qual scope f cd A outer s H E) (fun cls dd _ H' => E cls dd H') body d)
    (pure_ : ∀ as μ q z, c as μ q z → d (endsOf q z) (startE N.length as) μ) : FnS false P w K mg base (k + 1) f [] (spP K (starC qs.length c)) := by
  obtain ⟨oc, od, dV, kV, doc, pm, an, cdv, ct, osl, rfl, lk, hcd, hD, _⟩ := Fn.ex
  rcases hD with ⟨_, rfl⟩ | ⟨e, _⟩
  · refine fnS_of_R (FnRG.imp (fn_starG (ps := qs) (pv := pv) (sp := spP K c) lk hcd S cxUpN (fun us rest hu => ?_) fun A outer s H vs Q E hr hs => ⟨_, der true [] cdv A outer s H E (fun _ => rfl) (here_of (rm_of hr) (.inl rfl)), body_of pure_ hs⟩) fun vs H Q E h => ?_)
    · exact hb kV doc pm an cdv ct us rest hu
    · refine ⟨vs.take qs.length, vs.drop qs.length, (List.take_append_drop _ _).symm, ?_, ?_, fun p hp => spP_star h hp⟩
      · obtain ⟨B, μ, G, as, q, z, _, r, ⟨hn, hl, _⟩, _⟩ := h
        rw [List.length_take, r.length]; omega
      · obtain ⟨B, μ, G, as, q, z, _, r, ⟨hn, hl, _⟩, _⟩ := h
        rw [(r.drop _).length]; exact hl
  · exact absurd rfl e
end
/-- the class of a receiver -/
def rcv (μ : Mu) : PV → Option Cl
  | .obj c _ => some c
  | .cell a => (match μ a with
    | some (.ins c _) => some c
    | _ => none)
  | _ => none
theorem frep_none {K : Frg} {B : BX} {G : Hp} {m : Str} : ∀ {fs : List (Str × PV)} {ws : List (Str × V)}, (∀ p ∈ fs, p.1 ≠ m) → FRep K B G fs ws → ws.lookup m = none
  | [], ws, e, r => by cases r; rfl
  | (g, y) :: fs, ws, e, r => by
    cases r with
    | cons q t =>
      rename_i w ws'
      obtain ⟨h, u⟩ := w
      obtain ⟨q1, q2⟩ := q
      have q1 : g = h := q1
      subst q1
      have hb : (m == g) = false := by
        have : m ≠ g := fun z => e (g, y) List.mem_cons_self z.symm
        simpa using this
      simp only [List.lookup, hb]
      exact frep_none (fun p hp => e p (List.mem_cons_of_mem _ hp)) t
theorem rcv_ok {K : Frg} {B : BX} {μ : Mu} {G H : Hp} {p : PV} {v : V} {m : Str} {c : Cl} (o : Ok K B μ G H) (r : Rep K B G p v) (h : rcv μ p = some c) (hm : m ∉ c.flds) : ∃ a dx ws, v = .ref a ∧ H a = some (.ins (ca K c) dx ws) ∧ ws.lookup m = none := by
  cases p with
  | obj c' xs =>
    cases h
    obtain ⟨a, dx, vs, rfl, _, ea, hl, rs⟩ := r.obj_inv
    exact ⟨a, dx, _, rfl, o.sub _ _ ea, lookup_zip_none hm⟩
  | cell a =>
    unfold rcv at h
    cases e : μ a with
    | none => simp only [e] at h; cases h
    | some cc =>
      cases cc with
      | ins c' fs =>
        simp only [e] at h
        cases h
        obtain ⟨_, _, u, ha, dx, ws, rfl, _, fl, fr⟩ := o.cell a _ e
        exact ⟨a, dx, ws, r.cell_inv, ha, frep_none (fun p hp z => hm (z ▸ fl p hp)) fr⟩
      | _ => simp only [e] at h; cases h
  | _ => cases h
def dMeth (tab : Cl → Option Ct) (d : DE) (ds : DA) : DE := fun ρ μ q x => d ρ μ (fun p μ1 => match rcv μ1 p with
  | some c => (match tab c with
    | some ct => ds ρ μ1 (fun ps μ2 => ct (p :: ps) μ2 q x) x
    | none => False)
  | none => False) x
section
variable {X : Cx} {W : WX} {hot : Bool} {k : Nat} {m : Str} {p0 apos pos : Pos} {o e : Expr} {es : List Expr} {d : DE} {ds dk : DA} {ks : List Str} {kws : List Keyword}
/-- what is known of a method: for each class of the table the def at f keeps its promise -/
def MTab (hot : Bool) (X : Cx) (k : Nat) (m : Str) (ks : List Str) (tab : Cl → Option Ct) : Prop := ∀ c ct, tab c = some ct → m ∉ c.flds ∧ ∃ f, Cls X.K (ca X.K c) ∧ Meth X.K (ca X.K c) m f ∧ FnS hot X.prog X.w X.K X.mg X.base k f ks (spP X.K ct)
theorem dMeth_inv {tab : Cl → Option Ct} {ρ : En} {μ1 : Mu} {p : PV} {q : QV} {x : QX} {A : Cl → Ct → Prop} (h : match rcv μ1 p with | some c => (match tab c with | some ct => A c ct | none => False) | none => False) : ∃ c ct, rcv μ1 p = some c ∧ tab c = some ct ∧ A c ct := by
  cases e : rcv μ1 p with
  | none => simp only [e] at h
  | some c =>
    simp only [e] at h
    cases e2 : tab c with
    | none => simp only [e2] at h
    | some ct => simp only [e2] at h; exact ⟨c, ct, rfl, e2, h⟩
theorem e_meth0 {tab : Cl → Option Ct} {pl : Sem Bool} (T : MTab hot X k m [] tab) (md : Md X hot) (hr : Rm k X.A) (tk : TkI X W) (ho : EJ X W o d)
    (h4 : eval (.Call (.Attribute o m apos) [] [] pos) X.env = (do
      let ov ← eval o X.env
      standAt apos.atName
      let (g, first) ← holding [ov] (getMethod ov m pl)
      callWith pos g first (backTo pos (starEach [] X.env)) (backToKw pos (keywordEach [] X.env))) := by rfl) : EJ X W (.Call (.Attribute o m apos) [] [] pos) (dMeth tab d dNil) := by
  refine ⟨fun pins s σ H Q J ⟨B, ρ, μ, G, q, z, R, h, gv, gx⟩ => ?_⟩
  refine PySem.W.methodCall_KW (pl := pl) (thn (ho.run pins s σ H (fun v H1 => ∃ μ1 G1 p c ct, Go X.K B μ G H μ1 G1 H1 ∧ Rep X.K B G1 p v ∧ rcv μ1 p = some c ∧ tab c = some ct ∧ ct [p] μ1 q z) J ⟨B, ρ, μ, G, _, z, R, h, fun p v μ1 G1 H1 h0 g1 r1 => by
      obtain ⟨c, ct, e1, e2, h1⟩ := dMeth_inv (ρ := ρ) (q := q) (x := z) (A := fun c ct => dNil ρ μ1 (fun ps μ2 => ct (p :: ps) μ2 q z) z) h0
      exact ⟨μ1, G1, p, c, ct, g1, r1, e1, e2, h1⟩, gx⟩)
    fun u s1 ⟨v, H1, J1, rv, μ1, G1, p, c, ct, g1, r1, e1, e2, h1⟩ => ?_) h4
  obtain ⟨hmf, f, hcl, hme, Fn⟩ := T c ct e2
  obtain ⟨a, dx, ws, rfl, ea, hlk⟩ := rcv_ok g1.ok r1 e1 hmf
  obtain rfl : u = Value.ref a := rv
  refine getmeth_ok J1 ea hcl hme hlk ?_
  exact PySem.W.callWith_K0 (first := [.ref a]) J1.kIn hme.kp (run_s (us := [.ref a]) (ws := []) (vs := [.ref a]) Fn md hr tk J1 rfl (.cons rfl .nil) (spP_of (R.go g1) (.cons r1 .nil) h1 (gv.go g1) (gx.go g1)))
variable {c : Cl} {mc : Value} {pm g : Addr} {ct : Ct}
/-- C.m(e, ..), m a classmethod -/
def dCm (c : Cl) (ct : Ct) (d : DE) (ds : DA) : DE := fun ρ μ q x => d ρ μ (fun p μ1 => br (isCls c p) (ds ρ μ1 (fun ps μ2 => ct (.cls c :: ps) μ2 q x) x) False) x
theorem run_cms {pins : List (Addr × Obj)} {σ : L2.St} {H : Hp} {s : Shared} {C u : Addr} {sp : Sp} {Q : VK} {us : List Value} {vs : List V} (Fn : FnS hot X.prog X.w X.K X.mg X.base k g [] sp) (md : Md X hot) (hr : Rm k X.A) (tk : TkI X W) (J : Inv X ((u, PySem.W.methodObj (.ref g) (.ref C)) :: pins) σ H s)
    (r : Vals vs us) (h : sp (.ref C :: vs) H Q (fun cls d H' => W cls d σ H')) : wpAny (model X.prog X.w) X.A (call (.ref u) us) (EP X pins σ Q) X.xe s := by
  have hm : X.A.handled = none ∨ (hot = true ∧ ∃ p, L2H.Hot1 X.A p ∧ L2H.PinOk X.stack H s p) := by
    rcases md with z | ⟨z, p, hp, mem⟩
    · exact .inl (J.ok.hd z)
    · have P1 := J.pin p (List.mem_append_left _ mem)
      exact .inr ⟨z, p, hp, ⟨P1.1, P1.2.1, fun hq => (List.mem_cons.mp (J.stkSub p.1 hq)).elim P1.2.2.1 P1.2.2.2.1, P1.2.2.2.2⟩⟩
  refine wpAny_call (PySem.W.method_call (ClX.pin_at J) (codeAny_mono (Fn X.A X.stack s H (.ref C :: us) [] (.ref C :: vs) Q _ hm hr J.env0 rfl (by rw [List.append_nil]; exact .cons rfl r) h) fun rr s' hq => ?_))
  cases rr with
  | error er => exact tk er s' (XI.of_call (ClX.unpin J) (fun _ _ _ z => z) hq)
  | ok fl =>
    cases fl with
    | ret u => exact ClX.unpinE (J.after hq)
    | next => exact False.elim hq
    | brk => exact False.elim hq
    | cont => exact False.elim hq
theorem e_cmeth (kn : knB X.K c = true) {pl : Sem Bool} (rd : ClX.CRead X.K (ca X.K c) mc) (cm : ClX.CMet X.K (ca X.K c) mc m pm g) (Fn : FnS hot X.prog X.w X.K X.mg X.base k g [] (spP X.K ct)) (md : Md X hot) (hr : Rm k X.A) (tk : TkI X W) (ho : EJ X W o d) (ha : AJ X W (e :: es) ds)
    (h2 : starEach (e :: es) X.env = (false, eval e X.env) :: starEach es X.env := by rfl) (h3 : (backTo pos (starEach es X.env)).any (·.1) = false := by rfl)
    (h4 : eval (.Call (.Attribute o m apos) (e :: es) [] pos) X.env = (do
      let ov ← eval o X.env
      standAt apos.atName
      let (g, first) ← holding [ov] (getMethod ov m pl)
      callWith pos g first (backTo pos (starEach (e :: es) X.env)) (backToKw pos (keywordEach [] X.env))) := by rfl) : EJ X W (.Call (.Attribute o m apos) (e :: es) [] pos) (dCm c ct d ds) := by
  refine ⟨fun pins s σ H Q J ⟨B, ρ, μ, G, q, z, R, h, gv, gx⟩ => ?_⟩
  refine PySem.W.methodCall_KW (pl := pl) (thn (ho.run pins s σ H (fun v H1 => ∃ μ1 G1, Go X.K B μ G H μ1 G1 H1 ∧ v = .ref (ca X.K c) ∧ ds ρ μ1 (fun ps μ2 => ct (.cls c :: ps) μ2 q z) z) J ⟨B, ρ, μ, G, _, z, R, h, fun p v μ1 G1 H1 h0 g1 r1 => by
      obtain ⟨e1, h1⟩ := br_and h0
      have e1 := isCls_ok e1
      subst e1
      exact ⟨μ1, G1, g1, r1.cls_inv, h1⟩, gx⟩) fun u s1 ⟨v, H1, J1, rv, μ1, G1, g1, ev, h1⟩ => ?_) h4
  subst ev
  obtain rfl : u = Value.ref (ca X.K c) := rv
  refine ClX.getmethcm_ok J1 rd cm fun s2 J2 => ?_
  refine ClX.callwith_cm J2 (ClX.base_none J1 (Nat.le_refl _)) cm.fi (thn (ha.run pos _ s2 σ H1 (fun ws H2 => spP X.K ct (.ref (ca X.K c) :: ws) H2 Q fun cls d H' => W cls d σ H') J2 ⟨B, ρ, μ1, G1, _, z, R.go g1, h1, fun ps ws μ2 G2 H2 h2 g2 r2 => spP_of (R.go (g1.trans g2)) (.cons (rep_cls c kn) r2) h2 (gv.go (g1.trans g2)) (gx.go (g1.trans g2)), gx.go g1⟩) fun us s3 ⟨ws, H2, J3, r, q2⟩ => ⟨⟨ClX.pin_at J3, J3.kIn⟩, ?_⟩) h2 h3
  exact run_cms Fn md hr tk J3 r q2
theorem e_cmeth0 (kn : knB X.K c = true) {pl : Sem Bool} (rd : ClX.CRead X.K (ca X.K c) mc) (cm : ClX.CMet X.K (ca X.K c) mc m pm g) (Fn : FnS hot X.prog X.w X.K X.mg X.base k g [] (spP X.K ct)) (md : Md X hot) (hr : Rm k X.A) (tk : TkI X W) (ho : EJ X W o d)
    (h4 : eval (.Call (.Attribute o m apos) [] [] pos) X.env = (do
      let ov ← eval o X.env
      standAt apos.atName
      let (g, first) ← holding [ov] (getMethod ov m pl)
      callWith pos g first (backTo pos (starEach [] X.env)) (backToKw pos (keywordEach [] X.env))) := by rfl) : EJ X W (.Call (.Attribute o m apos) [] [] pos) (dCm c ct d dNil) := by
  refine ⟨fun pins s σ H Q J ⟨B, ρ, μ, G, q, z, R, h, gv, gx⟩ => ?_⟩
  refine PySem.W.methodCall_KW (pl := pl) (thn (ho.run pins s σ H (fun v H1 => ∃ μ1 G1, Go X.K B μ G H μ1 G1 H1 ∧ v = .ref (ca X.K c) ∧ ct [.cls c] μ1 q z) J ⟨B, ρ, μ, G, _, z, R, h, fun p v μ1 G1 H1 h0 g1 r1 => by
      obtain ⟨e1, h1⟩ := br_and h0
      have e1 := isCls_ok e1
      subst e1
      exact ⟨μ1, G1, g1, r1.cls_inv, h1⟩, gx⟩) fun u s1 ⟨v, H1, J1, rv, μ1, G1, g1, ev, h1⟩ => ?_) h4
  subst ev
  obtain rfl : u = Value.ref (ca X.K c) := rv
  refine ClX.getmethcm_ok J1 rd cm fun s2 J2 => ?_
  exact PySem.W.callWith_M0 (first := []) ⟨ClX.pin_at J2, J2.kIn⟩ cm.fi (run_cms (us := []) (vs := []) Fn md hr tk J2 .nil (spP_of (R.go g1) (.cons (rep_cls c kn) .nil) h1 (gv.go g1) (gx.go g1)))
/-- C.NAME, a constant of the class -/
def cvP (c : Cl) (pv : PV) : FU := fun p μ q _ => br (isCls c p) (q pv μ) False
theorem e_cval {f : Str} {v : V} {u : Value} {pv : PV} (rd : ClX.CRead X.K (ca X.K c) mc) (cv : ClX.CVal X.K (ca X.K c) mc f v u) (rp : ∀ B G, Rep X.K B G pv v) (ho : EJ X W o d) (hb : attributeBase o f X.env (eval o X.env) = eval o X.env := by rfl) : EJ X W (.Attribute o f pos) (dUn (cvP c pv) d) :=
  pe_imp (ClX.pe_cval ho hb) fun σ H Q ⟨B, ρ, μ, G, q, x, R, h, gv, gx⟩ => ⟨B, ρ, μ, G, _, x, R, h, fun p w μ1 G1 H1 h0 g1 r1 => by
    obtain ⟨e1, h1⟩ := br_and h0
    have e1 := isCls_ok e1
    subst e1
    exact ⟨ca X.K c, mc, v, u, r1.cls_inv, rd, cv, gv _ _ _ _ _ h1 g1 (rp _ _)⟩, gx⟩
end
end Px
namespace Px
open PySem PySem.Spec PyProof.Rows L2
/-- where a def stands -/
inductive At where
  | glo (x : Str)
  | meth (c m : Str)
  | cm (c m : Str)
  | pr (c m : Str)
  | ps (c m : Str)
  | st (c m : Str)
/-- the record of a classmethod C.m, its def -/
abbrev cmRec (K : Frg) (C : Addr) (m : Str) : Addr := He.ma K C m
abbrev cmFn (K : Frg) (C : Addr) (m : Str) : Addr := He5.wf K C "classmethod" m
/-- the def of a staticmethod -/
abbrev smFn (K : Frg) (C : Addr) (m : Str) : Addr := He5.wf K C "staticmethod" m
abbrev prFn (K : Frg) (C : Addr) (m : Str) : Addr := He5.wf K C "property" m
/-- the setter of a property -/
def psFn (K : Frg) (C : Addr) (m : Str) : Addr := match PySem.W.recIn K (He.ma K C m) "property" with
  | some (_ :: .ref g :: _) => g
  | _ => 0
def At.ad (K : Frg) : At → Addr
  | .glo x => He.ga K x
  | .meth c m => He.ma K (He.ga K c) m
  | .cm c m => cmFn K (He.ga K c) m
  | .pr c m => prFn K (He.ga K c) m
  | .ps c m => psFn K (He.ga K c) m
  | .st c m => smFn K (He.ga K c) m
/-- one def of the text -/
structure DefP where
  at_ : At
  name : Str
  qual : Str
  params : Arguments
  body : List Stmt
  scope : Scope
  dfl : List He.Dv := []
  kwd : List (Str × He.Dv) := []
abbrev FnV := He.FnW
def fnV (K : Frg) (p : At) : FnV := match K.lookup (p.ad K) with
  | some ⟨_, _, .func fd, _⟩ => some (fd.name, fd.qualname, fd.params, fd.body, fd.scope, fd.globals, fd.closure, fd.builtins)
  | _ => none
def DefP.val (d : DefP) : FnV := some (d.name, d.qual, d.params, .stmts d.body, d.scope, mainGlobals, [], builtinsNs)
def DefP.dvs (K : Frg) (d : DefP) : List V := d.dfl.map (He.Dv.v K)
def DefP.kws (K : Frg) (d : DefP) : List (Str × V) := d.kwd.map fun q => (q.1, q.2.v K)
def DefP.ok (K : Frg) (d : DefP) : Bool := PySem.W.keepIn K (.ref (d.at_.ad K)) && (match K.lookup (d.at_.ad K) with
  | some ⟨_, _, .func fd, _⟩ => PySem.W.codeIn K fd.code d.qual && (He.dflB K fd.defaults (d.dvs K) && He.kwdB K fd.kwdefaults (d.kws K))
  | _ => false)
theorem DefP.funD {K : Frg} {d : DefP} (e : fnV K d.at_ = d.val) (c : d.ok K = true) : ∃ fd, FunD K d.name d.qual d.params d.body d.scope (d.dvs K) (d.kws K) (d.at_.ad K) fd := by
  obtain ⟨kp, c2⟩ := He.ba c
  unfold fnV at e
  cases q : K.lookup (d.at_.ad K) with
  | none => rw [q] at c2; cases c2
  | some o =>
    obtain ⟨oc, od, dt, osl⟩ := o
    rw [q] at c2 e
    cases dt with
    | func fd =>
      obtain ⟨n1, n2, n3, n4, n5, n6, n7, n8, n9, n10, n11, n12, n13, n14, n15⟩ := fd
      have e2 : (some (n1, n2, n3, n4, n5, n6, n7, n15) : FnV) = some (d.name, d.qual, d.params, .stmts d.body, d.scope, mainGlobals, [], builtinsNs) := e
      simp only [Option.some.injEq, Prod.mk.injEq] at e2
      obtain ⟨h1, h2, h3, h4, h5, h6, h7, h8⟩ := e2
      subst h1 h2 h3 h4 h5 h6 h7 h8
      have c3 : (PySem.W.codeIn K n13 d.qual && (He.dflB K n8 (d.dvs K) && He.kwdB K n9 (d.kws K))) = true := c2
      obtain ⟨k1, k2⟩ := He.ba c3
      obtain ⟨k3, k4⟩ := He.ba k2
      exact ⟨_, ⟨oc, od, n8, n9, n10, n11, n12, n13, n14, osl, rfl, q, k1, He.dflB_ok k3, He.kwdB_ok k4⟩, kp⟩
    | _ => cases c2
/-- an error class with its one field: its __init__ -/
structure ErrD where
  c : Cl
  f : Str
  qual : Str
  params : Arguments
  body : List Stmt
  scope : Scope
def errAd (K : Frg) (e : ErrD) : Addr := He.ma K (ca K e.c) "__init__"
/-- the function as it stands: its closure is one cell, which holds the class -/
def errV (K : Frg) (e : ErrD) : FnV := match K.lookup (errAd K e) with
  | some ⟨_, _, .func fd, _⟩ => some (fd.name, fd.qualname, fd.params, fd.body, fd.scope, fd.globals, [], fd.builtins)
  | _ => none
def ErrD.val (e : ErrD) : FnV := some (("__init__" : Str), e.qual, e.params, .stmts e.body, e.scope, mainGlobals, [], builtinsNs)
def ErrD.ok (file : Str) (K : Frg) (e : ErrD) : Bool := PySem.W.excInitIn K (ca K e.c) He.veBase "ValueError.__new__" && ((match PySem.W.clsIn K (ca K e.c) with
    | some cd => cd.hasDict && (HandSPX.refsVE cd.mro && decide (PySem.W.alongIn K "__init__" ((cd.mro.dropWhile (· != .ref (ca K e.c))).drop 1) = some (some (.builtin "ValueError.__init__"))))
    | none => false) && (decide (PySem.W.findIn K (.ref (ca K e.c)) "__setattr__" = some (some (.builtin "object.__setattr__"))) && (decide (PySem.W.findIn K (.ref (ca K e.c)) e.f = some none) && (decide (PySem.W.findIn K (.ref (ca K e.c)) "__init__" = some (some (.ref (errAd K e)))) &&
  (decide (PySem.W.typeIn K (.ref (errAd K e)) = some (.type "function")) && (PySem.W.keepIn K (.ref (ca K e.c)) && (decide (PySem.W.subIn K (.ref (ca K e.c)) (.type "BaseException") = some true) && (decide (PySem.W.typeIn K (.ref (ca K e.c)) = some (.type "type")) && (decide (PySem.W.subIn K (.ref (ca K e.c)) (.type "ValueError") = some true) &&
  (decide (PySem.W.subIn K (.ref (ca K e.c)) (.ref (ca K e.c)) = some true) && (decide (PySem.W.nsIn K cStatics "thirdparty.any" = some none) && (match K.lookup (errAd K e) with
    | some ⟨_, _, .func fd, _⟩ => (match fd.code, fd.closure with
      | .ref cda, [(x, cc)] => decide (fd.defaults = Value.none) && (decide (x = "__class__") && (PySem.W.codeIn K (.ref cda) e.qual && ((match K.lookup cc with
          | some ⟨_, _, .cell (some (.ref C)), _⟩ => decide (C = ca K e.c)
          | _ => false) && (match K.lookup cda with
          | some ⟨_, _, .fields vs, _⟩ => (match (vs[2]? : Option Value) with
            | some (Value.str z _) => decide (z = file)
            | _ => false)
          | _ => false))))
      | _, _ => false)
    | _ => false))))))))))))
theorem ErrD.errF {P : Program} {K : Frg} {e : ErrD} {file : Str} (v : errV K e = e.val) (c : e.ok file K = true) (hfile : (P.main.file == file) = true) (hs : (P.main.scope.names.lookup ("super" : Str)).isSome = false) (nf : e.f ≠ "self" ∧ e.f ≠ "super" ∧ e.f ≠ "__class__" ∧ e.f ≠ "__debug__")
    (hb : ∃ (msg : Str) (j : Nat) (a1 a2 p1 p2 p3 p4 p5 p6 q1 q2 q3 q4 : Pos), e.params = eArgs e.f a1 a2 ∧ e.body = eBody e.f msg j p1 p2 p3 p4 p5 p6 q1 q2 q3 q4 ∧ e.scope = eScope e.f ∧
      (∀ (cc cda : Addr) (kV doc pm ct : Value) (an : Option Addr) (u v : Value), bindArgs (PySem.W.fnX "__init__" e.qual (eArgs e.f a1 a2) (eBody e.f msg j p1 p2 p3 p4 p5 p6 q1 q2 q3 q4) (eScope e.f) [("__class__", cc)] .none kV doc pm an (.ref cda) ct) ⟨[u, v], []⟩ = pure ([("self", u), (e.f, v)] : List (Str × Value))) ∧
      ∀ env : Env, MCall msg j p1 p2 p3 p4 p5 env) : ErrF P K (ca K e.c) (errAd K e) e.f := by
  obtain ⟨c1, c⟩ := He.ba c
  obtain ⟨c2, c⟩ := He.ba c
  obtain ⟨c3, c⟩ := He.ba c
  obtain ⟨c4, c⟩ := He.ba c
  obtain ⟨c5, c⟩ := He.ba c
  obtain ⟨c6, c⟩ := He.ba c
  obtain ⟨c7, c⟩ := He.ba c
  obtain ⟨c8, c⟩ := He.ba c
  obtain ⟨c9, c⟩ := He.ba c
  obtain ⟨c10, c⟩ := He.ba c
  obtain ⟨c11, c⟩ := He.ba c
  obtain ⟨c12, c13⟩ := He.ba c
  refine ⟨c1, ?_, of_decide_eq_true c3, of_decide_eq_true c4, of_decide_eq_true c5, of_decide_eq_true c6, c7, of_decide_eq_true c8, of_decide_eq_true c9, of_decide_eq_true c10, of_decide_eq_true c11, of_decide_eq_true c12, ?_, hs, nf⟩
  · cases q : PySem.W.clsIn K (ca K e.c) with
    | none => rw [q] at c2; cases c2
    | some cd =>
      rw [q] at c2
      obtain ⟨d1, d2⟩ := He.ba c2
      obtain ⟨d3, d4⟩ := He.ba d2
      exact ⟨cd, rfl, d1, d3, of_decide_eq_true d4⟩
  · obtain ⟨msg, j, a1, a2, p1, p2, p3, p4, p5, p6, q1, q2, q3, q4, b1, b2, b3, b4, b5⟩ := hb
    unfold errV at v
    cases q : K.lookup (errAd K e) with
    | none => rw [q] at c13; cases c13
    | some o =>
      obtain ⟨oc, od, dt, osl⟩ := o
      rw [q] at c13 v
      cases dt with
      | func fd =>
        obtain ⟨n1, n2, n3, n4, n5, n6, n7, n8, n9, n10, n11, n12, n13, n14, n15⟩ := fd
        have e2 : (some (n1, n2, n3, n4, n5, n6, [], n15) : FnV) = some (("__init__" : Str), e.qual, e.params, .stmts e.body, e.scope, mainGlobals, [], builtinsNs) := v
        simp only [Option.some.injEq, Prod.mk.injEq] at e2
        obtain ⟨h1, h2, h3, h4, h5, h6, _, h8⟩ := e2
        subst h1 h2 h3 h4 h5 h6 h8
        cases n13 with
        | ref cda =>
          match n7, c13 with
          | [(x, cc)], c13 =>
            obtain ⟨f0, c14⟩ := He.ba c13
            have f0 : n8 = Value.none := of_decide_eq_true f0
            obtain ⟨f1, c15⟩ := He.ba c14
            obtain ⟨f2, c16⟩ := He.ba c15
            obtain ⟨f3, f4⟩ := He.ba c16
            clear c14 c15 c16 c13
            subst f0
            have f1 : x = "__class__" := of_decide_eq_true f1
            subst f1
            cases qc : K.lookup cc with
            | none => rw [qc] at f3; cases f3
            | some o2 =>
              obtain ⟨oc2, od2, dt2, osl2⟩ := o2
              rw [qc] at f3
              cases dt2 with
              | cell cv =>
                match cv, f3 with
                | some (.ref C), f3 =>
                  have f3 : C = ca K e.c := of_decide_eq_true f3
                  subst f3
                  cases qd : K.lookup cda with
                  | none => rw [qd] at f4; cases f4
                  | some o3 =>
                    obtain ⟨oc3, od3, dt3, osl3⟩ := o3
                    rw [qd] at f4
                    cases dt3 with
                    | fields vs =>
                      cases qv : vs[2]? with
                      | none => simp only [qv] at f4; cases f4
                      | some vv =>
                        simp only [qv] at f4
                        cases vv with
                        | str z tz =>
                          have f4 : z = file := of_decide_eq_true f4
                          subst f4
                          exact ⟨oc, od, e.qual, msg, j, .none, n9, n10, n11, n12, cda, cc, n14, osl, a1, a2, p1, p2, p3, p4, p5, p6, q1, q2, q3, q4, _, _, vs, z, tz, by rw [b1, b2, b3], f2, by first | exact qc | rfl, rfl, by first | exact qd | rfl, rfl, qv, hfile, fun u v => b4 cc cda n9 n10 n11 n14 n12 u v, b5⟩
                        | _ => cases f4
                    | _ => cases f4
              | _ => cases f3
        | _ => cases c13
      | _ => cases c13
structure SupD where
  c : Cl
  m : Str
  qual : Str
  params : Arguments
  body : List Stmt
  scope : Scope
  kwd : List (Str × He.Dv) := []
def SupD.kws (K : Frg) (e : SupD) : List (Str × V) := e.kwd.map fun q => (q.1, q.2.v K)
def supAd (K : Frg) (e : SupD) : Addr := He.ma K (ca K e.c) e.m
def supV (K : Frg) (e : SupD) : FnV := match K.lookup (supAd K e) with
  | some ⟨_, _, .func fd, _⟩ => some (fd.name, fd.qualname, fd.params, fd.body, fd.scope, fd.globals, [], fd.builtins)
  | _ => none
def SupD.val (e : SupD) : FnV := some (e.m, e.qual, e.params, .stmts e.body, e.scope, mainGlobals, [], builtinsNs)
def SupD.ok (file : Str) (K : Frg) (e : SupD) : Bool := (PySem.W.clsIn K (ca K e.c)).isSome && (decide (PySem.W.nsIn K cStatics "thirdparty.any" = some none) && (match K.lookup (supAd K e) with
    | some ⟨_, _, .func fd, _⟩ => (match fd.code, fd.closure with
      | .ref cda, [(x, cc)] => decide (fd.defaults = Value.none) && (decide (x = "__class__") && (PySem.W.codeIn K (.ref cda) e.qual && ((match K.lookup cc with
          | some ⟨_, _, .cell (some (.ref C)), _⟩ => decide (C = ca K e.c)
          | _ => false) && ((match K.lookup cda with
          | some ⟨_, _, .fields vs, _⟩ => (match (vs[2]? : Option Value) with
            | some (Value.str z _) => decide (z = file)
            | _ => false)
          | _ => false) && He.kwdB K fd.kwdefaults (e.kws K)))))
      | _, _ => false)
    | _ => false))
end Px
namespace Px
open PySem PySem.Spec PyProof.Rows L2
/-- a set of addresses, by their binary digits -/
inductive Tr where
  | nil
  | node (l r : Tr) (b : Bool)
def Tr.has : Nat → Tr → Nat → Bool
  | 0, _, _ => false
  | _ + 1, .nil, _ => false
  | f + 1, .node l r b, n => (match n with
    | 0 => b
    | n => (match Nat.beq (n % 2) 0 with
      | true => Tr.has f l (n / 2)
      | false => Tr.has f r (n / 2)))
def Tr.put : Nat → Tr → Nat → Tr
  | 0, t, _ => t
  | f + 1, .nil, n => (match n with
    | 0 => .node .nil .nil true
    | n => (match Nat.beq (n % 2) 0 with
      | true => .node (Tr.put f .nil (n / 2)) .nil false
      | false => .node .nil (Tr.put f .nil (n / 2)) false))
  | f + 1, .node l r b, n => (match n with
    | 0 => .node l r true
    | n => (match Nat.beq (n % 2) 0 with
      | true => .node (Tr.put f l (n / 2)) r b
      | false => .node l (Tr.put f r (n / 2)) b))
/-- those of the addresses that are new, and all -/
def newA : List Addr → Tr → List Addr → Tr × List Addr
  | [], t, acc => (t, acc)
  | a :: as, t, acc => (match Tr.has 40 t a with
    | true => newA as t acc
    | false => newA as (Tr.put 40 t a) (a :: acc))
def nextA (g : Addr → Option Obj) : List Addr → Tr → List Addr → Tr × List Addr
  | [], t, acc => (t, acc)
  | a :: as, t, acc => (match g a with
    | some o => (match newA (He.refsD o) t acc with
      | (t, acc) => nextA g as t acc)
    | none => nextA g as t acc)
def growA (g : Addr → Option Obj) : Nat → List Addr → Tr → List Addr → List Addr
  | 0, _, _, all => all
  | n + 1, as, t, all => (match nextA g as t [] with
    | (t, new) => growA g n new t (all ++ new))
def asP (g : Addr → Option Obj) (n : Nat) : List Addr := growA g n [mainGlobals, cStatics] (Tr.put 40 (Tr.put 40 .nil mainGlobals) cStatics) [mainGlobals, cStatics]
structure Want where
  n : Nat
  file : Str
  fa : List He.Fa
  hs : List Cl
  xs : List Cl
  more : Frg → Bool
  fn : List DefP
  er : List ErrD
  su : List SupD := []
abbrev AlP : Type := Bool × List FnV
def Want.ok (t : Want) (K : Frg) : Bool := (t.fa.all fun f => f.ok K) && (kaB K t.hs t.xs && ((t.hs.all (kcB K) && t.xs.all (xcB K)) && (t.more K && ((t.fn.all fun d => d.ok K) && ((t.er.all fun e => e.ok t.file K) && t.su.all fun e => e.ok t.file K)))))
def Want.see (t : Want) (K : Frg) : AlP := (t.ok K, (t.fn.map fun d => fnV K d.at_) ++ ((t.er.map fun e => errV K e) ++ t.su.map fun e => supV K e))
def Want.val (t : Want) : AlP := (true, t.fn.map DefP.val ++ (t.er.map ErrD.val ++ t.su.map SupD.val))
def Says (t : Want) (K : Frg) : Prop := t.see K = t.val
/-- an empty table -/
def isT0 : Option Obj → Bool
  | some ⟨.none, none, .fields ⟨[]⟩, ⟨[]⟩⟩ => true
  | _ => false
theorem isT0_ok {o : Option Obj} (h : isT0 o = true) : o = some { cls := .none, data := .fields #[] } := by
  unfold isT0 at h
  split at h
  · rfl
  · cases h
def csK (K : Frg) : List (Addr × Addr) := LAM.filterMap (tabP K)
theorem Tbs_cs {K : Frg} {p : Addr × Str} (h : p ∈ Tbs K) : ∃ c, (c, p.1) ∈ csK K := by
  unfold Tbs at h
  obtain ⟨nm, hn, e⟩ := List.mem_filterMap.mp h
  cases q : tabP K nm with
  | none => rw [q] at e; cases e
  | some z =>
    rw [q] at e
    cases e
    exact ⟨z.1, List.mem_filterMap.mpr ⟨nm, hn, q⟩⟩
/-- what the making of a lambda asks of the code object -/
def codeB (K : Frg) (c P : Addr) : Bool := match K.lookup c with
  | some o => (match o.cls, o.data with
    | .type t, .fields vs => decide (t = "code") && ((match (show Option Value from vs[11]?) with
      | some (.ref q) => decide (q = P)
      | _ => false) && ((match vs.getD 11 .none with
      | .ref q => decide (q = P)
      | _ => false) && ((match vs.getD 18 .none with
      | .str _ _ => true
      | _ => false) && ((match vs.getD 7 .none with
      | .int _ _ => true
      | _ => false) && ((match vs.getD 9 .none with
      | .bool _ => true
      | _ => false) && ((match vs.getD 10 .none with
      | .int _ _ => true
      | _ => false) && decide (c ≠ P)))))))
    | _, _ => false)
  | none => false
theorem codeB_ok {K : Frg} {c P : Addr} {h : Heap} (hK : K.In h) (e : codeB K c P = true) : PySem.W.CodeHd h c P := by
  unfold codeB at e
  split at e
  · rename_i o ho
    split at e
    · rename_i t vs ec ed
      obtain ⟨h1, e⟩ := He.ba e
      obtain ⟨h2, e⟩ := He.ba e
      obtain ⟨h3, e⟩ := He.ba e
      obtain ⟨h4, e⟩ := He.ba e
      obtain ⟨h5, e⟩ := He.ba e
      obtain ⟨h6, e⟩ := He.ba e
      obtain ⟨h7, h8⟩ := He.ba e
      obtain rfl := of_decide_eq_true h1
      split at h2
      · rename_i q e2
        obtain rfl := of_decide_eq_true h2
        split at h3
        · rename_i q3 e3
          obtain rfl := of_decide_eq_true h3
          split at h4
          · rename_i fl tf e4
            split at h5
            · rename_i fi tg e5
              split at h6
              · rename_i b e6
                split at h7
                · rename_i i t7 e7
                  exact ⟨o, vs, fl, tf, fi, tg, b, i, t7, hK _ _ ho, ec, ed, e2, e3, e4, e5, e6, e7, of_decide_eq_true h8⟩
                · cases h7
              · cases h6
            · cases h5
          · cases h4
        · cases h3
      · cases h2
    · cases e
  · cases e
theorem tabP_out {K : Frg} {nm : Str} {z : Addr × Addr} (h : tabP K nm = some z) : K.lookup z.2 = none := by
  unfold tabP at h
  repeat' (split at h)
  all_goals first
    | (cases h; assumption)
    | cases h
def tabsB (g : Addr → Option Obj) (K : Frg) : Bool := (csK K).all fun p => isT0 (g p.2) && codeB K p.1 p.2
def asT (g : Addr → Option Obj) (n : Nat) : List Addr := (asP g n).filter fun a => !isT0 (g a)
def Want.obs (t : Want) (g : Addr → Option Obj) : Bool × AlP := (tabsB g (He.frG g (asT g t.n)), t.see (He.frG g (asT g t.n)))
/-- the tables at h -/
def TabH (K : Frg) (h : Heap) : Prop := ∀ p ∈ csK K, h.get? p.2 = some { cls := .none, data := .fields #[] } ∧ codeB K p.1 p.2 = true
def Want.hook (t : Want) : PySem.W.Hook where
  α := Bool × AlP
  obs := fun s => t.obs s.heap.get?
  val := fun _ => (true, t.val)
  says := fun _ h => ∃ K : Frg, K.In h ∧ Says t K ∧ TabH K h
  of := fun _ s e => ⟨He.frG s.heap.get? (asT s.heap.get? t.n), He.frG_in, (show t.see (He.frG s.heap.get? (asT s.heap.get? t.n)) = t.val from congrArg Prod.snd e), fun p hp => by
    have e1 : tabsB s.heap.get? (He.frG s.heap.get? (asT s.heap.get? t.n)) = true := congrArg Prod.fst e
    obtain ⟨h1, h2⟩ := He.ba (List.all_eq_true.mp e1 p hp)
    exact ⟨isT0_ok h1, h2⟩⟩
  keeps := fun _ _ _ ⟨K, hK, c, T⟩ k => ⟨K, PySem.W.Frag.In.keeps hK k, c, fun p hp => ⟨k _ _ (T p hp).1, (T p hp).2⟩⟩
theorem Want.obs_eq {t : Want} {g : Addr → Option Obj} {s : Shared} (h : ∀ a, g a = s.heap.get? a) : t.obs g = t.hook.obs s := by
  have e : g = s.heap.get? := funext h
  rw [e] <;> rfl
section
variable {t : Want} {K : Frg}
theorem Says.ok (c : Says t K) : t.ok K = true := congrArg (fun z : AlP => z.1) c
theorem Says.ka (c : Says t K) : KA K := kaB_ok (He.ba (He.ba c.ok).2).1
theorem Says.kc (c : Says t K) {d : Cl} (h : d ∈ t.hs) : kcB K d = true := List.all_eq_true.mp (He.ba (He.ba (He.ba (He.ba c.ok).2).2).1).1 d h
theorem Says.xc (c : Says t K) {d : Cl} (h : d ∈ t.xs) : xcB K d = true := List.all_eq_true.mp (He.ba (He.ba (He.ba (He.ba c.ok).2).2).1).2 d h
theorem Says.more (c : Says t K) : t.more K = true := (He.ba (He.ba (He.ba (He.ba c.ok).2).2).2).1
theorem Says.vals (c : Says t K) : (t.fn.map fun d => fnV K d.at_) ++ ((t.er.map fun e => errV K e) ++ (t.su.map fun e => supV K e)) = t.fn.map DefP.val ++ (t.er.map ErrD.val ++ t.su.map SupD.val) := congrArg (fun z : AlP => z.2) c
theorem Says.def_ (c : Says t K) (i : Nat) {d : DefP} (h : t.fn[i]? = some d := by rfl) : ∃ fd, FunD K d.name d.qual d.params d.body d.scope (d.dvs K) (d.kws K) (d.at_.ad K) fd := by
  have c2 := (He.ba (He.ba (He.ba (He.ba (He.ba c.ok).2).2).2).2).1
  have e1 := (List.append_inj c.vals (by simp)).1
  have e2 : (t.fn.map fun d => fnV K d.at_)[i]? = (t.fn.map DefP.val)[i]? := by rw [e1]
  rw [List.getElem?_map, List.getElem?_map, h] at e2
  exact DefP.funD (Option.some.inj e2) (List.all_eq_true.mp c2 d (List.mem_of_getElem? h))
theorem Says.err (c : Says t K) (i : Nat) {d : ErrD} (h : t.er[i]? = some d := by rfl) : errV K d = d.val ∧ d.ok t.file K = true := by
  have c2 := (He.ba (He.ba (He.ba (He.ba (He.ba (He.ba c.ok).2).2).2).2).2).1
  have e0 := (List.append_inj c.vals (by simp)).2
  have e1 := (List.append_inj e0 (by simp)).1
  have e2 : (t.er.map fun e => errV K e)[i]? = (t.er.map ErrD.val)[i]? := by rw [e1]
  rw [List.getElem?_map, List.getElem?_map, h] at e2
  exact ⟨Option.some.inj e2, List.all_eq_true.mp c2 d (List.mem_of_getElem? h)⟩
theorem Says.sup (c : Says t K) (i : Nat) {d : SupD} (h : t.su[i]? = some d := by rfl) : supV K d = d.val ∧ d.ok t.file K = true := by
  have c2 := (He.ba (He.ba (He.ba (He.ba (He.ba (He.ba c.ok).2).2).2).2).2).2
  have e0 := (List.append_inj c.vals (by simp)).2
  have e1 := (List.append_inj e0 (by simp)).2
  have e2 : (t.su.map fun e => supV K e)[i]? = (t.su.map SupD.val)[i]? := by rw [e1]
  rw [List.getElem?_map, List.getElem?_map, h] at e2
  exact ⟨Option.some.inj e2, List.all_eq_true.mp c2 d (List.mem_of_getElem? h)⟩
end
end Px
namespace Px
open PySem PySem.Spec PyProof.Rows L2
def cmB (K : Frg) (c : Cl) (m : Str) : Bool := PySem.W.readsIn K (ca K c) (.type "type") && (He5.wrapB K (ca K c) "classmethod" "classmethod.__get__" m && PySem.W.fnIn K (cmFn K (ca K c) m))
def isVal (i : Int) : Option PySem.W.CFound → Bool
  | some (.val v) => (match v with
    | .int j _ => decide (j = i)
    | _ => false)
  | _ => false
def cvB (K : Frg) (c : Cl) (f : Str) (i : Int) : Bool := PySem.W.readsIn K (ca K c) (.type "type") && isVal i (PySem.W.findCls K (.ref (ca K c)) (.type "type") f)
def strsOf : List Value → Option (List Str)
  | [] => some []
  | v :: vs => (match v with
    | .str z _ => (match strsOf vs with
      | some zs => some (z :: zs)
      | none => none)
    | _ => none)
def tupB (K : Frg) (zs : List Str) (v : Value) : Bool := match v with
  | .ref a => (match K.lookup a with
    | some o => decide (o.cls = .type "tuple") && (match o.data with
      | .seq its _ => decide (its.size ≤ sizeLine) && decide (strsOf its.toList = some zs)
      | _ => false)
    | none => false)
  | _ => false
def cvTB (K : Frg) (c : Cl) (f : Str) (zs : List Str) : Bool := PySem.W.readsIn K (ca K c) (.type "type") && (match PySem.W.findCls K (.ref (ca K c)) (.type "type") f with
  | some (.val v) => tupB K zs v
  | _ => false)
def prB (K : Frg) (c : Cl) (f : Str) : Bool :=
  (match PySem.W.findIn K (.ref (ca K c)) f with
    | some (some (.ref _)) => true
    | _ => false) && ((match PySem.W.specialIn K (.ref (He.ma K (ca K c) f)) "__get__" with
    | some (some (.builtin g)) => decide (g = "property.__get__")
    | _ => false) && ((match PySem.W.takesIn K (.ref (He.ma K (ca K c) f)) with
    | some true => true
    | _ => false) && (match PySem.W.recIn K (He.ma K (ca K c) f) "property" with
    | some (.ref _ :: _) => true
    | _ => false)))
section
open PySem.Calls PySem.W
def excB (K : Frag) (D : PySem.Addr) : Bool :=
  isB (findIn K (.ref D) "__getattribute__") "BaseException.__getattribute__" && (isN (findIn K (.ref D) "__getattr__") && (isT (subIn K (.ref D) (.type "BaseException")) && (hasDictIn K D && (isB (findIn K (.ref D) "__class__") "object.__class__" && (isB (specialIn K (.builtin "object.__class__") "__get__") "getset_descriptor.__get__" && (isT (takesIn K (.builtin "object.__class__")) && isT (mroIn K D (.type "object"))))))))
where
  isB (r : Option (Option Value)) (n : String) : Bool := match r with
    | some (some (.builtin g)) => decide (g = n)
    | _ => false
  isN (r : Option (Option Value)) : Bool := match r with
    | some none => true
    | _ => false
  isT (r : Option Bool) : Bool := match r with
    | some true => true
    | _ => false
end
def errC (d : Cl) : Bool := match d with
  | .Light | .Film | .Ink | .Filter | .Opaque | .Bleach | .Pass | .Row | .Spot | .Chart | .Shape | .Sheet | .Press => false
  | _ => true
def eqOB (a : Option Bool) (b : Bool) : Bool := match a with
  | some x => x == b
  | none => false
def isxB (K : Frg) (hs xs : List Cl) : Bool := (hs.all fun c => !errC c) && xs.all fun c => excB K (ca K c) && (eqOB (PySem.W.kitOne K (.ref (ca K c)) (.type "ValueError")) true && xs.all fun d => eqOB (PySem.W.kitOne K (.ref (ca K c)) (.ref (ca K d))) (subX c d))
def supMB (K : Frg) (c d b : Cl) (m : Str) : Bool := decide (PySem.W.subIn K (.ref (ca K c)) (.ref (ca K d)) = some true) && (decide (PySem.W.ks_superIn K (ca K c) (ca K d) m = some (some (.ref (He.ma K (ca K b) m)))) && (decide (PySem.W.typeIn K (.ref (He.ma K (ca K b) m)) = some (.type "function")) && (PySem.W.fnIn K (He.ma K (ca K b) m) && !(m == ("__class__" : Str)))))
section
open PySem.Calls PySem.W
/-- c has the property f with a setter -/
def psB (K : Frg) (c : Cl) (f : Str) : Bool := decide (PySem.W.takerIn K (ca K c) f = some (some (.ref (He.ma K (ca K c) f)))) && (decide (PySem.W.typeIn K (.ref (He.ma K (ca K c) f)) = some (.type "property")) && (match PySem.W.recIn K (He.ma K (ca K c) f) "property" with
  | some (_ :: .ref _ :: _) => true
  | _ => false))
/-- the method m of c may be handed on as a value -/
def bmB (K : Frg) (c : Cl) (m : Str) : Bool := (match PySem.W.specialIn K (.ref (He.ma K (ca K c) m)) "__get__" with
    | some (some (.builtin g)) => decide (g = "function.__get__")
    | _ => false) && (decide (PySem.W.takesIn K (.ref (He.ma K (ca K c) m)) = some false) && !PySem.W.copiedNames.contains m)
/-- c has the staticmethod m -/
def ssB (K : Frg) (c : Cl) (m : Str) : Bool := PySem.W.readsIn K (ca K c) (.type "type") && (He5.wrapB K (ca K c) "staticmethod" "staticmethod.__get__" m && PySem.W.keepIn K (.ref (smFn K (ca K c) m)))
/-- no StopIteration -/
def stopB (K : Frg) (c : Cl) : Bool := decide (PySem.W.subIn K (.ref (ca K c)) (.type "StopIteration") = some false)
def noAddB (K : Frg) (c : Cl) : Bool := (PySem.W.clsIn K (ca K c)).any (fun cd => decide (cd.mro = [.ref (ca K c), .type "object"])) && (decide (PySem.W.findIn K (.ref (ca K c)) (PySem.dunder "add") = some none) && (decide (PySem.W.findIn K (.ref (ca K c)) (PySem.dunderR "add") = some none) && (decide (PySem.W.findIn K (.type "object") (PySem.dunder "add") = some none) && decide (PySem.W.findIn K (.type "object") (PySem.dunderR "add") = some none))))
end
inductive Kst where
  | int (i : Int)
  | str (z : Str)
  | txs (zs : List Str)
  deriving DecidableEq
structure Stt where
  P : Program
  nms : List (Nat × Str)
  fre : List Str
  hs : List Cl
  xs : List Cl
  gl : List Nat := []
  cms : List (Cl × Nat) := []
  mks : List Cl := []
  ms : List (Cl × Nat) := []
  sa : List (Cl × Cl × Nat) := []
  er : List (Cl × Str) := []
  cv : List (Cl × Str × Kst) := []
  gc : List (Str × Kst) := []
  prs : List (Cl × Nat) := []
  isx : Bool := false
  ow : List Cl := []
def dun : Nat → Option Str
  | 0 => some "__add__" | 1 => some "__sub__" | 2 => some "__and__" | 3 => some "__or__" | 4 => some "__xor__" | 5 => some "__invert__" | 6 => some "__contains__" | 7 => some "__len__" | 8 => some "__bool__" | 9 => some "__eq__"
  | 10 => some "__str__" | 11 => some "__repr__" | 12 => some "__call__" | 13 => some "__init__" | 14 => some "__getitem__" | 15 => some "__iter__"
  | _ => none
def Stt.nm (S : Stt) (i : Nat) : Str := match dun i with
  | some s => s
  | none => (S.nms.lookup i).getD Str.empty
def owB (K : Frg) (c : Cl) : Bool := PySem.W.excIn K (ca K c) [.type "ValueError", .type "Exception", .type "BaseException", .type "object"] "ValueError.__new__" && (PySem.W.keepIn K (.ref (ca K c)) && (decide (PySem.W.subIn K (.ref (ca K c)) (.type "BaseException") = some true) && decide (PySem.W.typeIn K (.ref (ca K c)) = some (.type "type"))))
def Stt.msB (S : Stt) (K : Frg) (p : Cl × Nat) : Bool := (He.Fa.meth p.1.name (S.nm p.2)).ok K && (PySem.W.fnIn K (He.ma K (ca K p.1) (S.nm p.2)) && (PySem.W.selfFirst K (ca K p.1) && (!decide (S.nm p.2 ∈ p.1.flds) && decide (p.1 ∈ S.hs))))
def Stt.cvB (K : Frg) (p : Cl × Str × Kst) : Bool := match p.2.2 with
  | .int i => Px.cvB K p.1 p.2.1 i
  | .txs zs => cvTB K p.1 p.2.1 zs
  | .str _ => false
def Stt.gcB (K : Frg) (p : Str × Kst) : Bool := match p.2 with
  | .int i => (He.Fa.int p.1 i).ok K
  | .str z => (He.Fa.str p.1 z).ok K
  | .txs _ => false
def Stt.fas (S : Stt) : List He.Fa := S.fre.map .free ++ ((S.hs ++ S.xs).map (fun c => .glo c.name) ++ (S.gl.map (fun i => .glo (S.nm i)) ++ (S.gl.map (fun i => .keep (S.nm i)) ++ S.mks.map fun c => .mkr c.name)))
def Stt.more (S : Stt) (K : Frg) : Bool := (S.cms.all fun p => cmB K p.1 (S.nm p.2) && decide (p.1 ∈ S.hs)) && (S.ms.all (S.msB K) && ((S.sa.all fun p => decide (He.ma K (ca K p.1) (S.nm p.2.2) = He.ma K (ca K p.2.1) (S.nm p.2.2))) && (S.cv.all (Stt.cvB K) && (S.gc.all (Stt.gcB K) && ((S.mks.all fun c => decide (c ∈ S.hs)) && S.prs.all fun p => prB K p.1 (S.nm p.2) && (!decide (S.nm p.2 ∈ p.1.flds) && decide (p.1 ∈ S.hs)))))) && ((!S.isx || isxB K S.hs S.xs) && S.ow.all (owB K)))
def Stt.want (S : Stt) (fn : List DefP) (er : List ErrD) (su : List SupD) (more : Frg → Bool) : Want := { n := 5, file := S.P.main.file, fa := S.fas, hs := S.hs, xs := S.xs, more := fun K => S.more K && more K, fn := fn, er := er, su := su }
end Px
namespace Px
open PySem PySem.Spec PyProof.Rows L2
end Px
namespace K29
open PySem PySem.Spec PyProof.Rows L2 NdefX Px
abbrev TP : Program := PySem.Challenge.pw_laidink_k29_plain_charts
def top (i : Nat) : Stmt := TP.main.body.getD i (.Pass ⟨0, 0, 0, 0⟩)
def inC (i j : Nat) : Stmt := match top i with
  | .ClassDef (body := b) .. => b.getD j (.Pass ⟨0, 0, 0, 0⟩)
  | _ => .Pass ⟨0, 0, 0, 0⟩
def S : Stt := { P := TP, nms := [(36, ("_law_box" : Str)), (48, ("_law_draw" : Str)), (81, ("_law_is" : Str)), (106, ("_law_made" : Str)), (114, ("_law_name" : Str)), (115, ("_law_names" : Str)), (133, ("_law_plain" : Str)), (215, ("_law_tree" : Str)), (250, ("end" : Str)), (255, ("film" : Str)), (260, ("fork" : Str)), (267, ("is_plain" : Str)), (276, ("law" : Str)), (293, ("nothing" : Str)), (294, ("numbered" : Str)), (331, ("takes" : Str))], fre := ["bool", "int", "isinstance", "len", "range", "sorted", "super", "tuple"], hs := [.Light, .Film, .Ink, .Filter, .Bleach, .Chart], xs := [.InvalidBand, .InvalidInk, .InvalidTakes, .PrintError], gl := [36, 48, 81, 106, 114, 115, 133, 215, 276], cms := [(.Film, 293), (.Light, 294)], mks := [.Bleach, .Chart, .Film, .Filter, .Light], ms := [(.Bleach, 255), (.Chart, 9), (.Chart, 267), (.Film, 9), (.Filter, 255), (.Ink, 13), (.Ink, 255), (.Light, 2), (.Light, 8), (.Light, 9)], sa := [(.Bleach, .Ink, 255), (.Filter, .Ink, 255)], er := [(.InvalidBand, ("band" : Str)), (.InvalidInk, ("band" : Str)), (.InvalidTakes, ("takes" : Str))], cv := [(.Ink, "TAKES", (.txs ["any", "bare", "inked"]))], gc := [], prs := [], isx := false, ow := [] }
abbrev st__law_box : Stmt := top 19
abbrev n__law_box : List Str := ["_law_script", "_law_cell"]
theorem sc__law_box : FnScope n__law_box ["_law_script"] (defScope st__law_box) := ⟨rfl, rfl, rfl, by decide +kernel, rfl, by decide +kernel, by decide +kernel⟩
def dp__law_box : DefP := { at_ := .glo (S.nm 36), name := "_law_box", qual := "_law_box", params := defArgs st__law_box, body := defBody st__law_box, scope := defScope st__law_box, dfl := [], kwd := [] }
abbrev st__law_draw : Stmt := top 18
abbrev n__law_draw : List Str := ["_law_box_here", "_law_size", "_law_cells", "_law_place", "_law_cell", "_law_state", "_law_power"]
theorem sc__law_draw : FnScope n__law_draw ["_law_box_here", "_law_size"] (defScope st__law_draw) := ⟨rfl, rfl, rfl, by decide +kernel, rfl, by decide +kernel, by decide +kernel⟩
def dp__law_draw : DefP := { at_ := .glo (S.nm 48), name := "_law_draw", qual := "_law_draw", params := defArgs st__law_draw, body := defBody st__law_draw, scope := defScope st__law_draw, dfl := [], kwd := [] }
abbrev st__law_name : Stmt := top 20
abbrev n__law_name : List Str := ["_law_box_here", "_law_size", "_law_k"]
theorem sc__law_name : FnScope n__law_name ["_law_box_here"] (defScope st__law_name) := ⟨rfl, rfl, rfl, by decide +kernel, rfl, by decide +kernel, by decide +kernel⟩
def dp__law_name : DefP := { at_ := .glo (S.nm 114), name := "_law_name", qual := "_law_name", params := defArgs st__law_name, body := defBody st__law_name, scope := defScope st__law_name, dfl := [], kwd := [] }
abbrev st__law_names_v3 : Stmt := top 21
abbrev n__law_names_v3 : List Str := ["_law_box_here", "_law_many", "_law_names_here", "_law_k", "_law_name_here", "_law_word"]
theorem sc__law_names_v3 : FnScope n__law_names_v3 ["_law_box_here", "_law_many"] (defScope st__law_names_v3) := ⟨rfl, rfl, rfl, by decide +kernel, rfl, by decide +kernel, by decide +kernel⟩
def dp__law_names_v3 : DefP := { at_ := .glo (S.nm 115), name := "_law_names", qual := "_law_names", params := defArgs st__law_names_v3, body := defBody st__law_names_v3, scope := defScope st__law_names_v3, dfl := [], kwd := [] }
abbrev st__law_tree_v2 : Stmt := top 23
abbrev n__law_tree_v2 : List Str := ["_law_box_here", "_law_names_here", "_law_deep", "_law_rising", "_law_at", "_law_left", "_law_shut"]
theorem sc__law_tree_v2 : FnScope n__law_tree_v2 ["_law_box_here", "_law_names_here", "_law_deep", "_law_rising"] (defScope st__law_tree_v2) := ⟨rfl, rfl, rfl, by decide +kernel, rfl, by decide +kernel, by decide +kernel⟩
def dp__law_tree_v2 : DefP := { at_ := .glo (S.nm 215), name := "_law_tree", qual := "_law_tree", params := defArgs st__law_tree_v2, body := defBody st__law_tree_v2, scope := defScope st__law_tree_v2, dfl := [], kwd := [] }
abbrev st_Chart___init__ : Stmt := inC 12 0
abbrev n_Chart___init__ : List Str := ["self", "mask", "leaf", "when_shut", "when_open"]
theorem sc_Chart___init__ : FnScope n_Chart___init__ ["self", "mask", "leaf", "when_shut", "when_open"] (defScope st_Chart___init__) := ⟨rfl, rfl, rfl, by decide +kernel, rfl, by decide +kernel, by decide +kernel⟩
def dp_Chart___init__ : DefP := { at_ := .meth "Chart" (S.nm 13), name := "__init__", qual := "Chart.__init__", params := defArgs st_Chart___init__, body := defBody st_Chart___init__, scope := defScope st_Chart___init__, dfl := [], kwd := [] }
abbrev st_Chart_end : Stmt := inC 12 1
abbrev n_Chart_end : List Str := ["film"]
theorem sc_Chart_end : FnScope n_Chart_end ["film"] (defScope st_Chart_end) := ⟨rfl, rfl, rfl, by decide +kernel, rfl, by decide +kernel, by decide +kernel⟩
def dp_Chart_end : DefP := { at_ := .st "Chart" (S.nm 250), name := "end", qual := "Chart.end", params := defArgs st_Chart_end, body := defBody st_Chart_end, scope := defScope st_Chart_end, dfl := [], kwd := [] }
abbrev st_Film___init__ : Stmt := inC 10 0
abbrev n_Film___init__ : List Str := ["self", "bare", "inked"]
theorem sc_Film___init__ : FnScope n_Film___init__ ["self", "bare", "inked"] (defScope st_Film___init__) := ⟨rfl, rfl, rfl, by decide +kernel, rfl, by decide +kernel, by decide +kernel⟩
def dp_Film___init__ : DefP := { at_ := .meth "Film" (S.nm 13), name := "__init__", qual := "Film.__init__", params := defArgs st_Film___init__, body := defBody st_Film___init__, scope := defScope st_Film___init__, dfl := [], kwd := [] }
abbrev st_Light___init__ : Stmt := inC 7 1
abbrev n_Light___init__ : List Str := ["self", "bands", "number", "band"]
theorem sc_Light___init__ : FnScope n_Light___init__ ["self", "bands"] (defScope st_Light___init__) := ⟨rfl, rfl, rfl, by decide +kernel, rfl, by decide +kernel, by decide +kernel⟩
def dp_Light___init__ : DefP := { at_ := .meth "Light" (S.nm 13), name := "__init__", qual := "Light.__init__", params := defArgs st_Light___init__, body := defBody st_Light___init__, scope := defScope st_Light___init__, dfl := [], kwd := [] }
abbrev st_Film_nothing : Stmt := inC 10 1
abbrev n_Film_nothing : List Str := ["cls"]
theorem sc_Film_nothing : FnScope n_Film_nothing ["cls"] (defScope st_Film_nothing) := ⟨rfl, rfl, rfl, by decide +kernel, rfl, by decide +kernel, by decide +kernel⟩
def dp_Film_nothing : DefP := { at_ := .cm "Film" (S.nm 293), name := "nothing", qual := "Film.nothing", params := defArgs st_Film_nothing, body := defBody st_Film_nothing, scope := defScope st_Film_nothing, dfl := [], kwd := [] }
abbrev st_Ink_film : Stmt := inC 14 3
abbrev n_Ink_film : List Str := ["self", "effect", "idle"]
theorem sc_Ink_film : FnScope n_Ink_film ["self"] (defScope st_Ink_film) := ⟨rfl, rfl, rfl, by decide +kernel, rfl, by decide +kernel, by decide +kernel⟩
def dp_Ink_film : DefP := { at_ := .meth "Ink" (S.nm 255), name := "film", qual := "Ink.film", params := defArgs st_Ink_film, body := defBody st_Ink_film, scope := defScope st_Ink_film, dfl := [], kwd := [] }
abbrev st_Light_numbered : Stmt := inC 7 2
abbrev n_Light_numbered : List Str := ["cls", "number", "bands", "band"]
theorem sc_Light_numbered : FnScope n_Light_numbered ["cls", "number"] (defScope st_Light_numbered) := ⟨rfl, rfl, rfl, by decide +kernel, rfl, by decide +kernel, by decide +kernel⟩
def dp_Light_numbered : DefP := { at_ := .cm "Light" (S.nm 294), name := "numbered", qual := "Light.numbered", params := defArgs st_Light_numbered, body := defBody st_Light_numbered, scope := defScope st_Light_numbered, dfl := [], kwd := [] }
abbrev st_Light___and__ : Stmt := inC 7 5
abbrev n_Light___and__ : List Str := ["self", "other"]
theorem sc_Light___and__ : FnScope n_Light___and__ ["self", "other"] (defScope st_Light___and__) := ⟨rfl, rfl, rfl, by decide +kernel, rfl, by decide +kernel, by decide +kernel⟩
def dp_Light___and__ : DefP := { at_ := .meth "Light" (S.nm 2), name := "__and__", qual := "Light.__and__", params := defArgs st_Light___and__, body := defBody st_Light___and__, scope := defScope st_Light___and__, dfl := [], kwd := [] }
abbrev st_Light___bool__ : Stmt := inC 7 12
abbrev n_Light___bool__ : List Str := ["self"]
theorem sc_Light___bool__ : FnScope n_Light___bool__ ["self"] (defScope st_Light___bool__) := ⟨rfl, rfl, rfl, by decide +kernel, rfl, by decide +kernel, by decide +kernel⟩
def dp_Light___bool__ : DefP := { at_ := .meth "Light" (S.nm 8), name := "__bool__", qual := "Light.__bool__", params := defArgs st_Light___bool__, body := defBody st_Light___bool__, scope := defScope st_Light___bool__, dfl := [], kwd := [] }
abbrev st_Ink___init__ : Stmt := inC 14 1
abbrev n_Ink___init__ : List Str := ["self", "off", "on", "takes", "shared"]
theorem sc_Ink___init__ : FnScope n_Ink___init__ ["self", "off", "on", "takes"] (defScope st_Ink___init__) := ⟨rfl, rfl, rfl, by decide +kernel, rfl, by decide +kernel, by decide +kernel⟩
def dp_Ink___init__ : DefP := { at_ := .meth "Ink" (S.nm 13), name := "__init__", qual := "Ink.__init__", params := defArgs st_Ink___init__, body := defBody st_Ink___init__, scope := defScope st_Ink___init__, dfl := [], kwd := [("takes", .str "any")] }
abbrev st_Filter___init__ : Stmt := inC 15 0
abbrev n_Filter___init__ : List Str := ["self", "light", "takes", "__class__"]
theorem sc_Filter___init__ : NScope n_Filter___init__ ["self", "light", "takes"] ["__class__"] (defScope st_Filter___init__) := nscope_by (by decide +kernel)
def ds_Filter___init__ : SupD := { c := .Filter, m := "__init__", qual := "Filter.__init__", params := defArgs st_Filter___init__, body := defBody st_Filter___init__, scope := defScope st_Filter___init__, kwd := [("takes", .str "any")] }
abbrev st_Bleach___init__ : Stmt := inC 16 0
abbrev n_Bleach___init__ : List Str := ["self", "light", "takes", "__class__"]
theorem sc_Bleach___init__ : NScope n_Bleach___init__ ["self", "light", "takes"] ["__class__"] (defScope st_Bleach___init__) := nscope_by (by decide +kernel)
def ds_Bleach___init__ : SupD := { c := .Bleach, m := "__init__", qual := "Bleach.__init__", params := defArgs st_Bleach___init__, body := defBody st_Bleach___init__, scope := defScope st_Bleach___init__, kwd := [("takes", .str "any")] }
abbrev st_Chart_fork : Stmt := inC 12 2
abbrev n_Chart_fork : List Str := ["mask", "when_shut", "when_open"]
theorem sc_Chart_fork : FnScope n_Chart_fork ["mask", "when_shut", "when_open"] (defScope st_Chart_fork) := ⟨rfl, rfl, rfl, by decide +kernel, rfl, by decide +kernel, by decide +kernel⟩
def dp_Chart_fork : DefP := { at_ := .st "Chart" (S.nm 260), name := "fork", qual := "Chart.fork", params := defArgs st_Chart_fork, body := defBody st_Chart_fork, scope := defScope st_Chart_fork, dfl := [], kwd := [] }
abbrev st__law_made_v5 : Stmt := top 24
abbrev n__law_made_v5 : List Str := ["_law_tree_here"]
theorem sc__law_made_v5 : FnScope n__law_made_v5 ["_law_tree_here"] (defScope st__law_made_v5) := ⟨rfl, rfl, rfl, by decide +kernel, rfl, by decide +kernel, by decide +kernel⟩
def dp__law_made_v5 : DefP := { at_ := .glo (S.nm 106), name := "_law_made", qual := "_law_made", params := defArgs st__law_made_v5, body := defBody st__law_made_v5, scope := defScope st__law_made_v5, dfl := [], kwd := [] }
abbrev st__law_is : Stmt := top 22
abbrev n__law_is : List Str := ["_law_actual", "_law_expected"]
theorem sc__law_is : FnScope n__law_is ["_law_actual", "_law_expected"] (defScope st__law_is) := ⟨rfl, rfl, rfl, by decide +kernel, rfl, by decide +kernel, by decide +kernel⟩
def dp__law_is : DefP := { at_ := .glo (S.nm 81), name := "_law_is", qual := "_law_is", params := defArgs st__law_is, body := defBody st__law_is, scope := defScope st__law_is, dfl := [], kwd := [] }
abbrev st__law_plain : Stmt := top 25
abbrev n__law_plain : List Str := ["_law_tree_here", "_law_above"]
theorem sc__law_plain : FnScope n__law_plain ["_law_tree_here", "_law_above"] (defScope st__law_plain) := ⟨rfl, rfl, rfl, by decide +kernel, rfl, by decide +kernel, by decide +kernel⟩
def dp__law_plain : DefP := { at_ := .glo (S.nm 133), name := "_law_plain", qual := "_law_plain", params := defArgs st__law_plain, body := defBody st__law_plain, scope := defScope st__law_plain, dfl := [], kwd := [] }
abbrev st_Light___eq__ : Stmt := inC 7 13
abbrev n_Light___eq__ : List Str := ["self", "other"]
theorem sc_Light___eq__ : FnScope n_Light___eq__ ["self", "other"] (defScope st_Light___eq__) := ⟨rfl, rfl, rfl, by decide +kernel, rfl, by decide +kernel, by decide +kernel⟩
def dp_Light___eq__ : DefP := { at_ := .meth "Light" (S.nm 9), name := "__eq__", qual := "Light.__eq__", params := defArgs st_Light___eq__, body := defBody st_Light___eq__, scope := defScope st_Light___eq__, dfl := [], kwd := [] }
abbrev st_Film___eq__ : Stmt := inC 10 6
abbrev n_Film___eq__ : List Str := ["self", "other"]
theorem sc_Film___eq__ : FnScope n_Film___eq__ ["self", "other"] (defScope st_Film___eq__) := ⟨rfl, rfl, rfl, by decide +kernel, rfl, by decide +kernel, by decide +kernel⟩
def dp_Film___eq__ : DefP := { at_ := .meth "Film" (S.nm 9), name := "__eq__", qual := "Film.__eq__", params := defArgs st_Film___eq__, body := defBody st_Film___eq__, scope := defScope st_Film___eq__, dfl := [], kwd := [] }
abbrev st_Chart___eq__ : Stmt := inC 12 8
abbrev n_Chart___eq__ : List Str := ["self", "other"]
theorem sc_Chart___eq__ : FnScope n_Chart___eq__ ["self", "other"] (defScope st_Chart___eq__) := ⟨rfl, rfl, rfl, by decide +kernel, rfl, by decide +kernel, by decide +kernel⟩
def dp_Chart___eq__ : DefP := { at_ := .meth "Chart" (S.nm 9), name := "__eq__", qual := "Chart.__eq__", params := defArgs st_Chart___eq__, body := defBody st_Chart___eq__, scope := defScope st_Chart___eq__, dfl := [], kwd := [] }
abbrev st_Chart_is_plain_v3 : Stmt := inC 12 7
abbrev n_Chart_is_plain_v3 : List Str := ["self", "chart"]
theorem sc_Chart_is_plain_v3 : FnScope n_Chart_is_plain_v3 ["self"] (defScope st_Chart_is_plain_v3) := ⟨rfl, rfl, rfl, by decide +kernel, rfl, by decide +kernel, by decide +kernel⟩
def dp_Chart_is_plain_v3 : DefP := { at_ := .meth "Chart" (S.nm 267), name := "is_plain", qual := "Chart.is_plain", params := defArgs st_Chart_is_plain_v3, body := defBody st_Chart_is_plain_v3, scope := defScope st_Chart_is_plain_v3, dfl := [], kwd := [] }
abbrev st_law_k29 : Stmt := top 26
abbrev n_law_k29 : List Str := ["_law_script", "_law_box_here", "_law_names_here", "_law_rising", "_law_tree_here", "_law_other", "_law_way", "_law_a", "_law_b", "_law_plain_here"]
theorem sc_law_k29 : FnScope n_law_k29 ["_law_script"] (defScope st_law_k29) := ⟨rfl, rfl, rfl, by decide +kernel, rfl, by decide +kernel, by decide +kernel⟩
def dp_law_k29 : DefP := { at_ := .glo (S.nm 276), name := "law", qual := "law", params := defArgs st_law_k29, body := defBody st_law_k29, scope := defScope st_law_k29, dfl := [], kwd := [] }
abbrev st_InvalidBand : Stmt := inC 3 0
def de_InvalidBand : ErrD := { c := .InvalidBand, f := "band", qual := "InvalidBand.__init__", params := defArgs st_InvalidBand, body := defBody st_InvalidBand, scope := defScope st_InvalidBand }
abbrev st_InvalidInk : Stmt := inC 4 0
def de_InvalidInk : ErrD := { c := .InvalidInk, f := "band", qual := "InvalidInk.__init__", params := defArgs st_InvalidInk, body := defBody st_InvalidInk, scope := defScope st_InvalidInk }
abbrev st_InvalidTakes : Stmt := inC 5 0
def de_InvalidTakes : ErrD := { c := .InvalidTakes, f := "takes", qual := "InvalidTakes.__init__", params := defArgs st_InvalidTakes, body := defBody st_InvalidTakes, scope := defScope st_InvalidTakes }
def moreB (K : Frg) : Bool := (supMB K .Filter .Filter .Ink (S.nm 13) && supMB K .Bleach .Bleach .Ink (S.nm 13)) && (ssB K .Chart (S.nm 250) && ssB K .Chart (S.nm 260))
def want : Want := S.want [dp__law_box, dp__law_draw, dp__law_name, dp__law_names_v3, dp__law_tree_v2, dp_Chart___init__, dp_Chart_end, dp_Film___init__, dp_Light___init__, dp_Film_nothing, dp_Ink_film, dp_Light_numbered, dp_Light___and__, dp_Light___bool__, dp_Ink___init__, dp_Chart_fork, dp__law_made_v5, dp__law_is, dp__law_plain, dp_Light___eq__, dp_Film___eq__, dp_Chart___eq__, dp_Chart_is_plain_v3, dp_law_k29] [de_InvalidBand, de_InvalidInk, de_InvalidTakes] [ds_Filter___init__, ds_Bleach___init__] moreB
abbrev R : PySem.W.OpenRow := PySem.W.OpenLaw.row PySem.Challenge.rw_laidink_k29_plain_charts
abbrev hk : PySem.W.Hook := want.hook
def ob (s : PySem.W.SharedT) : Bool × AlP := want.obs (HandSHeadRun.getT s)
theorem ob_eq (s : PySem.W.SharedT) : ob s = hk.obs s.abs := Want.obs_eq (HandSHeadRun.getT_eq s)
theorem run (w : World) : HandSHeadRun.RunEq R (PySem.W.view R.prog [26]) hk ob 20000 ["_wall", "PrintError", "InvalidBand", "InvalidInk", "InvalidTakes", "Light", "effect_after", "Film", "Chart", "Ink", "Filter", "Bleach", "_law_draw", "_law_box", "_law_name", "_law_names", "_law_is", "_law_tree", "_law_made", "_law_plain"] w := by
  intro os
  kernel_rfl
end K29
namespace Px
open PySem PySem.Spec PyProof.Rows L2
/-- an error that has come down to a try, in the heap h -/
structure Down (X : Cx) (pins : List (Addr × Obj)) (a : Addr) (cls : Value) (d : Option Addr) (σ : L2.St) (H : Hp) (Bs : Heap) (s : Shared) (h : Heap) : Prop where
  fly : HandSPX.FlyingZ Bs (X.env :: X.outer) a (Zi X.K cls d) h
  inv : ∀ h', HandSPX.FlyingZ Bs (X.env :: X.outer) a (Zi X.K cls d) h' → h.UpToSlots h' → Inv X pins σ H { s with heap := h' }
  new : H a = none
  nL : a ≠ X.env.locals
  nF : a ∉ X.fs
section
variable {X : Cx} {pins : List (Addr × Obj)} {a : Addr} {cls : Value} {d : Option Addr} {σ : L2.St} {H : Hp} {Bs : Heap} {s : Shared} {h : Heap} {D : Ends}
theorem Down.here (z : Down X pins a cls d σ H Bs s h) : Inv X pins σ H { s with heap := h } := z.inv h z.fly (Heap.UpToSlots.refl _)
/-- no clause takes it -/
theorem Down.on {Wo : WX} {sI s0 : Shared} (hs : X.stack = X.env :: X.outer) (hf : X.env.frame = some X.env.locals) (tk : TkI X Wo) (z : Down X pins a cls d σ H Bs s h) (xe : ∀ h4, HandSPX.HeldZ Bs (X.env :: X.outer) a (Zi X.K cls d) X.env.locals h4 → h.UpToSlots h4 → XI X Wo (.ref a) { s with heap := h4 }) :
    wpAny (model X.prog X.w) X.A (handleBy (.ref a) X.env []) (SP X pins D) X.xe { s with heap := h } := by
  have fly := z.fly
  refine wpAny_handleBy_nil ?_
  obtain ⟨_, _, _, oe, vs, T, oT, tr, ho, _, hv, v1, _⟩ := id fly
  have up : wpAny (model X.prog X.w) X.A (setFlight (.ref a) X.env.frame) (fun _ s4 => wpAny (model X.prog X.w) X.A (throw (.ref a) : Sem Flow) (SP X pins D) X.xe s4) X.xe { s with heap := h } := by
    rw [hf]
    exact HandSPX.setFlight_upZ fly fun h4 held u4 => wpAny_throw (tk _ _ (xe h4 held u4))
  unfold PySem.passOn
  refine wpAny_bind (wpAny_field ho hv v1 ?_)
  rw [if_neg (by simp : ¬ ((Value.ref T == Value.none) = true))]
  first
    | exact wpAny_bind (wpAny_pure (wpAny_bind up))
    | exact wpAny_bind up
end
end Px
namespace Gk
open PySem
open Sem (wp)
/-- woken, it does nothing that is known -/
def dead : Resume → Sem PySem.Fin := fun _ => .unsupported ""
theorem dead_no {M : Model} {Γ : Ctx} {p : Pos} {fs : List Frame} {s s' : Shared} {e : End} {w : String} (h : Runs M Γ p (.unsupported w) fs s e s') : False := by
  generalize ht : (Sem.unsupported w : Sem PySem.Fin) = t at h
  induction h <;> simp_all
/-- which sleep, and how they truly are -/
abbrev Sl := Nat → Option GenState
def fillA (S : Sl) (a : Array GenState) : Array GenState := a.mapIdx fun i x => (S i).getD x
def fill (S : Sl) (s : Shared) : Shared := { s with gens := fillA S s.gens }
structure Good (S : Sl) (s : Shared) : Prop where
  at_ : ∀ i o, S i = some o → ∃ l c p fs, s.gens[i]? = some (.suspended dead l c p fs false) ∧ o.seen = (GenState.suspended dead l c p fs false).seen
  rest : ∀ i k l c p fs cl, S i = none → s.gens[i]? = some (.suspended k l c p fs cl) → splitAtGen fs = none
theorem fillA_get (S : Sl) (a : Array GenState) (i : Nat) : (fillA S a)[i]? = a[i]?.map fun x => (S i).getD x := by
  unfold fillA; simp
theorem fillA_size (S : Sl) (a : Array GenState) : (fillA S a).size = a.size := by unfold fillA; simp
theorem fillA_set {S : Sl} {i : Nat} (h : S i = none) (a : Array GenState) (x : GenState) : fillA S (a.setIfInBounds i x) = (fillA S a).setIfInBounds i x := by
  apply Array.ext_getElem?
  intro j
  rw [fillA_get]
  by_cases e : i = j
  · subst e
    simp only [Array.getElem?_setIfInBounds, fillA_size]
    simp [h]
  · rw [Array.getElem?_setIfInBounds_ne e, Array.getElem?_setIfInBounds_ne e, fillA_get]
theorem fillA_push {S : Sl} (a : Array GenState) (h : S a.size = none) (x : GenState) : fillA S (a.push x) = (fillA S a).push x := by
  apply Array.ext_getElem?
  intro j
  rw [fillA_get, Array.getElem?_push, Array.getElem?_push, fillA_size, fillA_get]
  split
  · rename_i e; subst e; simp [h]
  · rfl
theorem Good.free {S : Sl} {s : Shared} (G : Good S s) : S s.gens.size = none := by
  cases e : S s.gens.size with
  | none => rfl
  | some o =>
    obtain ⟨l, c, p, fs, h, _⟩ := G.at_ _ o e
    simp at h
theorem Good.heap {S : Sl} {s s' : Shared} (G : Good S s) (h : s'.gens = s.gens) : Good S s' := ⟨fun i o e => by rw [h]; exact G.at_ i o e, fun i k l c p fs cl e q => by rw [h] at q; exact G.rest i k l c p fs cl e q⟩
def StOk : GenState → Prop
  | .suspended _ _ _ _ fs _ => splitAtGen fs = none
  | _ => True
theorem set_get {a : Array GenState} {i j : Nat} {x y : GenState} (h : (a.setIfInBounds i x)[j]? = some y) : (i = j ∧ y = x) ∨ (i ≠ j ∧ a[j]? = some y) := by
  by_cases e : i = j
  · subst e
    rw [Array.getElem?_setIfInBounds] at h
    simp only [if_true] at h
    split at h
    · cases h; exact .inl ⟨rfl, rfl⟩
    · cases h
  · rw [Array.getElem?_setIfInBounds_ne e] at h
    exact .inr ⟨e, h⟩
theorem Good.set {S : Sl} {s : Shared} (G : Good S s) {i : Nat} {x : GenState} (h : S i = none) (hx : StOk x) : Good S (s.setGen i x) := by
  refine ⟨fun j o e => ?_, fun j k l c p fs cl e q => ?_⟩
  · obtain ⟨l, c, p, fs, q, r⟩ := G.at_ j o e
    refine ⟨l, c, p, fs, ?_, r⟩
    show (s.gens.setIfInBounds i x)[j]? = _
    rw [Array.getElem?_setIfInBounds_ne (fun z => by subst z; rw [h] at e; cases e)]
    exact q
  · rcases set_get q with ⟨_, z⟩ | ⟨_, z⟩
    · subst z; exact hx
    · exact G.rest j k l c p fs cl e z
theorem Good.push {S : Sl} {s : Shared} (G : Good S s) {c : Code} : Good S { s with gens := s.gens.push (.fresh c) } := by
  refine ⟨fun j o e => ?_, fun j k l c' p fs cl e q => ?_⟩
  · obtain ⟨l, c', p, fs, q, r⟩ := G.at_ j o e
    refine ⟨l, c', p, fs, ?_, r⟩
    show (s.gens.push _)[j]? = _
    have : j < s.gens.size := by
      rw [Array.getElem?_eq_some_iff] at q
      exact q.1
    rw [Array.getElem?_push_lt this, ← q]
    simp [this]
  · have q : (s.gens.push (.fresh c))[j]? = some _ := q
    rw [Array.getElem?_push] at q
    split at q
    · cases q
    · exact G.rest j k l c' p fs cl e q
theorem fill_set {S : Sl} {i : Nat} (h : S i = none) (s : Shared) (x : GenState) : fill S (s.setGen i x) = (fill S s).setGen i x := by
  show { s with gens := fillA S (s.gens.setIfInBounds i x) } = { s with gens := (fillA S s.gens).setIfInBounds i x }
  rw [fillA_set h]
def EndOk : End → Prop
  | .ret _ => True
  | .susp _ _ _ _ _ _ fs => splitAtGen fs = none
theorem EndOk.st {e : End} (h : EndOk e) : StOk e.genState := by
  cases e with
  | ret _ => trivial
  | susp v g l k c p fs => exact h
theorem split_app : ∀ {fs gs : List Frame}, splitAtGen fs = none → splitAtGen gs = none → splitAtGen (fs ++ gs) = none
  | [], gs, _, h => h
  | .gen _ _ _ _ _ :: fs, gs, h, _ => by simp [splitAtGen] at h
  | .ret k a b c d e f :: fs, gs, h, h2 => by
    have h : (splitAtGen fs).map _ = none := h
    have h1 : splitAtGen fs = none := by
      cases q : splitAtGen fs with
      | none => rfl
      | some x => rw [q] at h; cases h
    show (splitAtGen (fs ++ gs)).map _ = none
    rw [split_app h1 h2]; rfl
theorem split_tail {F : Frame} {fs : List Frame} (h : splitAtGen (F :: fs) = none) : splitAtGen fs = none := by
  cases F with
  | gen _ _ _ _ _ => simp [splitAtGen] at h
  | ret k a b c d e f =>
    have h : (splitAtGen fs).map _ = none := h
    cases q : splitAtGen fs with
    | none => rfl
    | some x => rw [q] at h; cases h
theorem Good.no {S : Sl} {s : Shared} (G : Good S s) {i : Nat} {x : GenState} (h : s.gens[i]? = some x) (hx : ∀ k l c p fs cl, x ≠ .suspended k l c p fs cl) : S i = none := by
  cases e : S i with
  | none => rfl
  | some o =>
    obtain ⟨l, c, p, fs, q, _⟩ := G.at_ i o e
    rw [h] at q; cases q; exact absurd rfl (hx _ _ _ _ _ _)
theorem fill_get {S : Sl} {s : Shared} {i : Nat} {x : GenState} (h : S i = none) (e : s.gens[i]? = some x) : (fill S s).gens[i]? = some x := by
  show (fillA S s.gens)[i]? = _
  rw [fillA_get, e, h]; rfl
theorem seen_fill {S : Sl} {s : Shared} (G : Good S s) {g : Nat} {st : GenState} (q : s.gens[g]? = some st) : ∃ o, (fill S s).gens[g]? = some o ∧ o.seen = st.seen := by
  cases eS : S g with
  | none => exact ⟨st, fill_get eS q, rfl⟩
  | some o =>
    obtain ⟨l, c0, p0, fs0, q0, r0⟩ := G.at_ g o eS
    rw [q] at q0
    cases q0
    refine ⟨o, ?_, r0⟩
    show (fillA S s.gens)[g]? = _
    rw [fillA_get, q, eS]; rfl
theorem fill_push {S : Sl} {s : Shared} (G : Good S s) {x : GenState} : fill S { s with gens := s.gens.push x } = { fill S s with gens := (fill S s).gens.push x } := by
  show { s with gens := fillA S (s.gens.push x) } = { s with gens := (fillA S s.gens).push x }
  rw [fillA_push _ G.free]
theorem runs_fill {M : Model} {S : Sl} {Γ : Ctx} {p : Pos} {t : Sem PySem.Fin} {fs : List Frame} {s s' : Shared} {e : End} (h : Runs M Γ p t fs s e s') : Good S s → splitAtGen fs = none → Good S s' ∧ EndOk e ∧ Runs M Γ p t fs (fill S s) e (fill S s') := by
  induction h with
  | done => exact fun G _ => ⟨G, trivial, .done⟩
  | raise => exact fun G _ => ⟨G, trivial, .raise⟩
  | again q _ ih => exact fun G f => let ⟨a, b, c⟩ := ih G f; ⟨a, b, .again q c⟩
  | rule _ ih => exact fun G f => let ⟨a, b, c⟩ := ih G f; ⟨a, b, .rule c⟩
  | «at» _ ih => exact fun G f => let ⟨a, b, c⟩ := ih G f; ⟨a, b, .at c⟩
  | load q _ ih => exact fun G f => let ⟨a, b, c⟩ := ih G f; ⟨a, b, .load q c⟩
  | update q _ ih => exact fun G f => let ⟨a, b, c⟩ := ih (G.heap rfl) f; ⟨a, b, .update q c⟩
  | loadIfAlive _ ih => exact fun G f => let ⟨a, b, c⟩ := ih G f; ⟨a, b, .loadIfAlive c⟩
  | point _ ih => exact fun G f => let ⟨a, b, c⟩ := ih G f; ⟨a, b, .point c⟩
  | alloc _ ih => exact fun G f => let ⟨a, b, c⟩ := ih (G.heap rfl) f; ⟨a, b, .alloc c⟩
  | fresh _ ih => exact fun G f => let ⟨a, b, c⟩ := ih (G.heap rfl) f; ⟨a, b, .fresh c⟩
  | ask _ ih => exact fun G f => let ⟨a, b, c⟩ := ih G f; ⟨a, b, .ask c⟩
  | choose q _ ih => exact fun G f => let ⟨a, b, c⟩ := ih (G.heap rfl) f; ⟨a, b, .choose q c⟩
  | os _ ih => exact fun G f => let ⟨a, b, c⟩ := ih (G.heap rfl) f; ⟨a, b, .os c⟩
  | handled _ ih => exact fun G f => let ⟨a, b, c⟩ := ih G f; ⟨a, b, .handled c⟩
  | genState q _ ih =>
    intro G f
    obtain ⟨a, b, c⟩ := ih G f
    obtain ⟨o, q1, r⟩ := seen_fill G q
    exact ⟨a, b, .genState q1 (by rw [r]; exact c)⟩
  | stack _ ih => exact fun G f => let ⟨a, b, c⟩ := ih G f; ⟨a, b, .stack c⟩
  | thread _ ih => exact fun G f => let ⟨a, b, c⟩ := ih G f; ⟨a, b, .thread c⟩
  | newGen _ ih =>
    intro G f
    obtain ⟨a, b, c⟩ := ih G.push f
    rw [fill_push G] at c
    exact ⟨a, b, .newGen (by rw [show (fill S _).gens.size = _ from fillA_size _ _]; exact c)⟩
  | call _ _ ih1 ih2 => exact fun G f => let ⟨a, b, c⟩ := ih1 G rfl; let ⟨a2, b2, c2⟩ := ih2 a f; ⟨a2, b2, .call c c2⟩
  | callSusp _ ih => exact fun G f => let ⟨a, b, c⟩ := ih G rfl; ⟨a, split_app b rfl, .callSusp c⟩
  | yield => exact fun G f => ⟨G, rfl, .yield⟩
  | resumeFresh q _ hq _ ih1 ih2 =>
    intro G f
    have n := G.no q (fun _ _ _ _ _ _ z => by cases z)
    obtain ⟨a, b, c⟩ := ih1 (G.set n trivial) rfl
    obtain ⟨a2, b2, c2⟩ := ih2 (a.set n b.st) f
    rw [fill_set n] at c c2
    exact ⟨a2, b2, .resumeFresh (fill_get n q) c hq c2⟩
  | @resumeSuspended Γ p g r l k s k₀ l₀ c₀ p₀ fs cl e₁ s₁ e s' q h1 hq _ ih1 ih2 =>
    intro G f
    cases eS : S g with
    | some o =>
      obtain ⟨l, c0, p0, fs0, q0, r0⟩ := G.at_ g o eS
      rw [q] at q0
      cases q0
      exact (dead_no h1).elim
    | none =>
      obtain ⟨a, b, c⟩ := ih1 (G.set eS trivial) (G.rest _ _ _ _ _ _ _ eS q)
      obtain ⟨a2, b2, c2⟩ := ih2 (a.set eS b.st) f
      rw [fill_set eS] at c c2
      exact ⟨a2, b2, .resumeSuspended (fill_get eS q) c hq c2⟩
  | resumeJustStarted q hv _ ih => exact fun G f => let ⟨a, b, c⟩ := ih G f; ⟨a, b, .resumeJustStarted (fill_get (G.no q (fun _ _ _ _ _ _ z => by cases z)) q) hv c⟩
  | resumeThrowFresh q _ ih =>
    intro G f
    have n := G.no q (fun _ _ _ _ _ _ z => by cases z)
    obtain ⟨a, b, c⟩ := ih (G.set n trivial) f
    rw [fill_set n] at c
    exact ⟨a, b, .resumeThrowFresh (fill_get n q) c⟩
  | resumeRunning q _ ih => exact fun G f => let ⟨a, b, c⟩ := ih G f; ⟨a, b, .resumeRunning (fill_get (G.no q (fun _ _ _ _ _ _ z => by cases z)) q) c⟩
  | resumeFinished q _ ih => exact fun G f => let ⟨a, b, c⟩ := ih G f; ⟨a, b, .resumeFinished (fill_get (G.no q (fun _ _ _ _ _ _ z => by cases z)) q) c⟩
  | segRet _ _ ih1 ih2 => exact fun G f => let ⟨a, b, c⟩ := ih1 G rfl; let ⟨a2, b2, c2⟩ := ih2 a (split_tail f); ⟨a2, b2, .segRet c c2⟩
  | segGen _ _ ih1 ih2 => exact fun G f => by simp [splitAtGen] at f
  | segSuspOut q _ ih => exact fun G f => let ⟨a, b, c⟩ := ih G rfl; ⟨a, split_app b q, .segSuspOut q c⟩
  | segSuspGen q _ _ _ ih1 ih2 => exact fun G f => by rw [f] at q; cases q
theorem wakes_fill {M : Model} {S : Sl} {Γ : Ctx} {p : Pos} {g : Nat} {r : Resume} {s s' : Shared} {res : GenResult} (G : Good S s) (h : Wakes M Γ p g r s res s') : Good S s' ∧ Wakes M Γ p g r (fill S s) res (fill S s') := by
  unfold Wakes at h ⊢
  split at h
  · exact h.elim
  · rename_i c q
    have n := G.no q (fun _ _ _ _ _ _ z => by cases z)
    rw [fill_get n q]
    dsimp only
    split at h
    · obtain ⟨e₁, s₁, hr, hq, hres, rfl⟩ := h
      obtain ⟨a, b, c⟩ := runs_fill hr (G.set n trivial) rfl
      rw [fill_set n] at c
      exact ⟨a.set n b.st, e₁, _, c, hq, hres, fill_set n _ _⟩
    · obtain ⟨h1, rfl⟩ := h
      exact ⟨G, h1, rfl⟩
    · obtain ⟨h1, rfl⟩ := h
      exact ⟨G.set n trivial, h1, fill_set n _ _⟩
  · rename_i k₀ l₀ c₀ p₀ fs cl q
    obtain ⟨e₁, s₁, hr, hq, hres, rfl⟩ := h
    cases eS : S g with
    | some o =>
      obtain ⟨l, c0, p0, fs0, q0, r0⟩ := G.at_ g o eS
      rw [q] at q0
      cases q0
      exact (dead_no hr).elim
    | none =>
      rw [fill_get eS q]
      obtain ⟨a, b, c⟩ := runs_fill hr (G.set eS trivial) (G.rest _ _ _ _ _ _ _ eS q)
      rw [fill_set eS] at c
      exact ⟨a.set eS b.st, e₁, _, c, hq, hres, fill_set eS _ _⟩
  · rename_i q
    obtain ⟨h1, rfl⟩ := h
    rw [fill_get (G.no q (fun _ _ _ _ _ _ z => by cases z)) q]
    exact ⟨G, h1, rfl⟩
  · rename_i q
    obtain ⟨h1, rfl⟩ := h
    rw [fill_get (G.no q (fun _ _ _ _ _ _ z => by cases z)) q]
    exact ⟨G, h1, rfl⟩
/-- what a run's end looks like with the sleepers as they are -/
def Fl (S : Sl) (P : Shared → Prop) (s' : Shared) : Prop := ∃ s1, Good S s1 ∧ s' = fill S s1 ∧ P s1
theorem wp_fill {α : Type} (M : Model) (S : Sl) (Γ : Ctx) (t : Sem α) : ∀ (Q : α → Pos → Shared → Prop) (E : Value → Pos → Shared → Prop) (p : Pos) (s : Shared), Good S s → wp M Γ t Q E p s →
    wp M Γ t (fun a p' => Fl S (Q a p')) (fun e p' => Fl S (E e p')) p (fill S s) := by
  induction t with
  | pure a => intro Q E p s G h; exact ⟨s, G, rfl, h⟩
  | raise e => intro Q E p s G h; exact ⟨s, G, rfl, h⟩
  | unsupported _ => intro Q E p s _ h; exact h
  | finish _ => intro Q E p s _ h; exact h
  | rule _ k ih => intro Q E p s G h; exact ih () Q E p s G h
  | «at» p' k ih => intro Q E p s G h; exact ih () Q E p' s G h
  | load a _ k ih => intro Q E p s G h; obtain ⟨o, ho, h⟩ := h; exact ⟨o, ho, ih o Q E p s G h⟩
  | update a _ f k ih => intro Q E p s G h; exact ⟨h.1, ih () Q E p { s with heap := s.heap.update a f } (G.heap rfl) h.2⟩
  | loadIfAlive a k ih => intro Q E p s G h; exact ih _ Q E p s G h
  | point _ k ih => intro Q E p s G h; exact ih () Q E p s G h
  | register _ _ => intro Q E p s _ h; exact h
  | alloc o k ih => intro Q E p s G h; exact ih _ Q E p { s with heap := s.heap.push o } (G.heap rfl) h
  | fresh k ih => intro Q E p s G h; exact ih _ Q E p { s with toks := s.toks + 1 } (G.heap rfl) h
  | ask k ih => intro Q E p s G h; exact ih _ Q E p s G h
  | choose src m k ih => intro Q E p s G h; exact ⟨h.1, ih _ Q E p { s with drawn := s.drawn.bump src } (G.heap rfl) h.2⟩
  | os q _ k ih => intro Q E p s G h; exact ih _ Q E p { s with os := (Os.step s.os q).1 } (G.heap rfl) h
  | call c hd _ _ k ih =>
    intro Q E p s G h
    obtain ⟨r, s', hr, h⟩ := h
    obtain ⟨a, b, c'⟩ := runs_fill hr G rfl
    exact ⟨r, fill S s', c', ih r Q E p s' a h⟩
  | handled own k ih => intro Q E p s G h; exact ih _ Q E p s G h
  | genState g k ih =>
    intro Q E p s G h
    obtain ⟨st, q, h⟩ := h
    obtain ⟨o, q1, r⟩ := seen_fill G q
    exact ⟨o, q1, by rw [r]; exact ih _ Q E p s G h⟩
  | newGen c k ih =>
    intro Q E p s G h
    have e1 : (fill S s).gens.size = s.gens.size := fillA_size _ _
    show wp M Γ (k (fill S s).gens.size) _ _ p { fill S s with gens := (fill S s).gens.push (.fresh c) }
    rw [e1]
    rw [← fill_push G]
    exact ih _ Q E p _ G.push h
  | resume g r _ k ih =>
    intro Q E p s G h
    obtain ⟨res, s', hw, h⟩ := h
    obtain ⟨a, b⟩ := wakes_fill G hw
    exact ⟨res, fill S s', b, ih res Q E p s' a h⟩
  | yield _ _ _ _ => intro Q E p s _ h; exact h
  | stack k ih => intro Q E p s G h; exact ih _ Q E p s G h
  | fork _ _ => intro Q E p s _ h; exact h
  | thread k ih => intro Q E p s G h; exact ih _ Q E p s G h
  | await _ _ _ _ _ => intro Q E p s _ h; exact h
theorem wpAny_fill {α : Type} {M : Model} {S : Sl} {A : Around} {t : Sem α} {Q : α → Shared → Prop} {E : Value → Shared → Prop} {s : Shared} (G : Good S s) (h : wpAny M A t Q E s) : wpAny M A t (fun a => Fl S (Q a)) (fun e => Fl S (E e)) (fill S s) :=
  fun Γ p hΓ => wp_fill M S Γ t _ _ p s G (h Γ p hΓ)
theorem bare_fill {S : Sl} {s : Shared} (h : PyProof.Rows.AllBare s.gens) (hS : ∀ i o, S i = some o → o.bare = true) : PyProof.Rows.AllBare (fill S s).gens := fun y hy => by
  obtain ⟨i, hi, e⟩ := Array.mem_iff_getElem.mp hy
  have q : (fillA S s.gens)[i]? = some y := by
    have : (fill S s).gens[i]? = some y := by rw [Array.getElem?_eq_getElem hi, e]
    exact this
  rw [fillA_get] at q
  cases z : s.gens[i]? with
  | none => rw [z] at q; cases q
  | some x =>
    rw [z] at q
    cases eS : S i with
    | none => rw [eS] at q; cases q; exact h _ (Array.mem_of_getElem? z)
    | some o => rw [eS] at q; cases q; exact hS i o eS
def NF (s s' : Shared) : Prop := s.heap.objs.size ≤ s'.heap.objs.size ∧ ∀ b, b < s.heap.objs.size → s.heap.get? b = none → s'.heap.get? b = none
theorem NF.refl (s : Shared) : NF s s := ⟨Nat.le_refl _, fun _ _ h => h⟩
theorem NF.trans {a b c : Shared} (x : NF a b) (y : NF b c) : NF a c := ⟨Nat.le_trans x.1 y.1, fun d h e => y.2 d (Nat.lt_of_lt_of_le h x.1) (x.2 d h e)⟩
theorem NF.same {s s1 s' : Shared} (x : NF s1 s') (h : s1.heap = s.heap) : NF s s' := by unfold NF at x ⊢; rw [← h]; exact x
end Gk
namespace Px
open PySem PySem.Spec PyProof.Rows L2
section
variable {M : Model} {A : Around} {F : End → Shared → Prop} {c : Code} {fs : List Frame} {s : Shared}
/-- a generator's code runs until it sleeps or ends, in a state that F tells -/
def Wk (M : Model) (A : Around) (F : End → Shared → Prop) (c : Code) (t : Sem PySem.Fin) (fs : List Frame) (s : Shared) : Prop :=
  ∀ (g : PySem.Ctx) (q : Pos), g.code = c → g.Woken A → ∃ e s', Runs M g q t fs s e s' ∧ F e s'
theorem Wk.mono {F' : End → Shared → Prop} {t : Sem PySem.Fin} (h : Wk M A F c t fs s) (i : ∀ e s1, F e s1 → F' e s1) : Wk M A F' c t fs s := fun G q e hg => by
  obtain ⟨e1, s1, z1, z2⟩ := h G q e hg
  exact ⟨e1, s1, z1, i _ _ z2⟩
/-- what a sleeping or new generator does when it is woken -/
def WkG (M : Model) (A : Around) (F : End → Shared → Prop) (gs : GenState) (s : Shared) : Prop := match gs with
  | .fresh c => Wk M A F c (M.den c) [] s
  | .suspended k _ c _ fs _ => Wk M A F c (k (.send .none)) fs s
  | _ => False
theorem res_wk {α : Type} {g : Nat} {gs : GenState} {l : List Value} {k : GenResult → Sem α} {Q : α → Shared → Prop} {E : Value → Shared → Prop} (hg : s.gens[g]? = some gs) (h : WkG M A F gs (s.setGen g .running))
    (hF : ∀ e s1, F e s1 → s.gens.size ≤ s1.gens.size → e.quiet = true ∧ wpAny M A (k e.result) Q E (s1.setGen g e.genState)) : wpAny M A (.resume g (.send .none) l k) Q E s := fun G q hG => by
  rw [Sem.wp_resume]
  cases gs with
  | running => exact h.elim
  | finished => exact h.elim
  | fresh c1 =>
    obtain ⟨e1, s1, z1, z2⟩ := h (G.wake c1 q) q rfl (hG.wake c1 q)
    have sz := GenW.runs_gsz z1
    rw [GenW.setGen_size] at sz
    obtain ⟨h1, h2⟩ := hF e1 s1 z2 sz
    exact ⟨_, _, by unfold Wakes; rw [hg]; exact ⟨e1, s1, z1, h1, rfl, rfl⟩, h2 G q hG⟩
  | suspended k0 l0 c1 q0 fs0 cl =>
    obtain ⟨e1, s1, z1, z2⟩ := h (G.wake c1 q) q0 rfl (hG.wake c1 q)
    have sz := GenW.runs_gsz z1
    rw [GenW.setGen_size] at sz
    obtain ⟨h1, h2⟩ := hF e1 s1 z2 sz
    exact ⟨_, _, by unfold Wakes; rw [hg]; exact ⟨e1, s1, z1, h1, rfl, rfl⟩, h2 G q hG⟩
/-- it sleeps again: what it handed out, how it sleeps -/
def Slp (e : End) (v : Value) (k : Resume → Sem PySem.Fin) (c : Code) (fs : List Frame) : Prop := ∃ l q, e = .susp v false l k c q fs ∧ fs.any Frame.guarded = false
end
section
variable {P : Program} {w : World} {A : Around} {E : Value → Shared → Prop} {s : Shared} {F : End → Shared → Prop}
/-- next of a generator: no exception comes out -/
theorem next_wk {a : Addr} {g : Nat} {gs : GenState} {Q : Option Value → Shared → Prop} (hh : A.handled = none) (nl : s.heap.NoLimit) (room : A.depth < recursionLimit) (hg : s.heap.IsGen a g) (hgs : s.gens[g]? = some gs)
    (h : WkG (model P w) A.in1 F gs (s.setGen g .running))
    (hF : ∀ e s1, F e s1 → s.gens.size ≤ s1.gens.size → (∃ v k c fs l q, e = .susp v false l k c q fs ∧ fs.any Frame.guarded = false ∧ Q (some v) (s1.setGen g (.suspended k l c q fs false))) ∨
      ((e = .ret (.ok (.ret .none)) ∨ e = .ret (.ok .next)) ∧ ∀ h', (∀ b o, s1.heap.get? b = some o → h'.get? b = some o) → Q none { s1.setGen g .finished with heap := h' })) :
    wpAny (model P w) A (pyNext (.ref a)) Q E s := by
  unfold pyNext
  refine wpAny_bind (wpAny_attempt (wpAny_callSpecial?_slot (name := Str.ofString "__next__") hg.typeIs slot_gen_next (wpAny_call_entry slot_gen_next hg.typeIs entry_gen_next ?_ (args_gen_next _))))
  show wpAny _ A.in1 (Builtin.Generator.genWake (.ref a) (.send .none)) _ _ s
  unfold Builtin.Generator.genWake
  refine wpAny_bind (wpAny_holding (wpAny_genNumber hg (wpAny_bind (wpAny_genState hgs ?_))))
  have go : wpAny (model P w) A.in1 roomToWake (fun _ s1 => s1 = s) (fun _ _ => False) s := wpAny_roomToWake nl room rfl
  cases gs with
  | running => exact h.elim
  | finished => exact h.elim
  | _ =>
    refine wpAny_bind (wpAny_mono go (fun _ s1 e1 => ?_) fun _ _ z => z.elim)
    subst e1
    show wpAny _ A.in1 (.resume g (.send .none) [] _) _ _ _
    refine res_wk hgs h fun e s1 z sz => ?_
    rcases hF e s1 z sz with ⟨v, k, c, fs, l, q, e1, ga, hq⟩ | ⟨he, hq⟩
    · subst e1
      have e2 : (End.susp v false l k c q fs).genState = .suspended k l c q fs false := by
        show GenState.suspended k l c q fs (false || fs.any Frame.guarded) = _
        rw [ga]; rfl
      refine ⟨by show (!(false || fs.any Frame.guarded)) = true; rw [ga]; rfl, ?_⟩
      rw [e2]
      exact wpAny_pure ⟨v, rfl, wpAny_pure hq⟩
    · have hres : e.result = .returned .none ∧ e.genState = .finished ∧ e.quiet = true := by rcases he with he | he <;> (subst he; exact ⟨rfl, rfl, rfl⟩)
      obtain ⟨r1, r2, r3⟩ := hres
      refine ⟨r3, ?_⟩
      rw [r1, r2]
      show wpAny _ A.in1 (newExc (.type "StopIteration") [] >>= _) _ _ _
      refine wpAny_bind ?_
      simp only [newExc, newTuple]
      refine wpAny_bind (wpAny_newObj_type ?_ (by size_fits))
      refine wpAny_bind (m := firstArgMember _ _) (wpAny_of_eq (a := Value.none) (by first | rfl | (simp only [firstArgMember]; rfl)) ?_)
      refine wpAny_newObj_type ?_ (by size_fits)
      simp only [raiseNew]
      refine wpAny_bind (wpAny_bind (wpAny_handled ?_))
      first | rw [show A.in1.handled = none from hh] | rw [hh]
      refine wpAny_throw (wpAny_bind (wpAny_isInstance (T := "StopIteration") (b := true) ⟨_, Heap.get?_push_size _ rfl, rfl⟩ isSubtype_stop (wpAny_pure (hq _ fun b o hb => ?_))))
      exact Heap.get?_push_of_some _ (Heap.get?_push_of_some _ hb)
/-- the loop stands ahead of item i of the list at l -/
structure TailAt (env : Env) (it l : Addr) (i : Nat) (h : Heap) : Prop where
  iter : h.IsListIter it l i
  ns : ∃ m, h.Ns env.locals m
  nl : l ≠ it
  nL : env.locals ≠ it
  lL : l ≠ env.locals
theorem TailAt.at_ {env : Env} {it l : Addr} {i : Nat} {h h' : Heap} (t : TailAt env it l i h) (k1 : ∀ o, h.get? it = some o → h'.get? it = some o) (k2 : ∀ o, h.get? env.locals = some o → h'.get? env.locals = some o) : TailAt env it l i h' :=
  ⟨t.iter.at k1, let ⟨m, o, es, ep, e, r⟩ := t.ns; ⟨m, o, es, ep, k2 _ e, r⟩, t.nl, t.nL, t.lL⟩
/-- written: the iterator and the locals alone -/
def Two (it L : Addr) (s s' : Shared) : Prop := s'.os = s.os ∧ s'.gens = s.gens ∧ ∀ b o, b ≠ it → b ≠ L → s.heap.get? b = some o → s'.heap.get? b = some o
/-- a sleeping loop ahead of item i, at most n items to come: woken, it does as T says -/
def SleepsOf (M : Model) (A : Around) (env : Env) (it l : Addr) (T : Array Value → Shared → End → Shared → Prop) (n i : Nat) (k : Resume → Sem PySem.Fin) (c : Code) (fs : List Frame) : Prop :=
  ∀ (s : Shared) (its : Array Value), TailAt env it l i s.heap → s.heap.IsList l its → its.size ≤ i + n → Wk M A (T its s) c (k (.send .none)) fs s
def TailF (M : Model) (A : Around) (env : Env) (it l : Addr) : Nat → Nat → Array Value → Shared → End → Shared → Prop
  | 0, i, its, s, e, s' => e = .ret (.ok (.ret .none)) ∧ its[i]? = none ∧ Two it env.locals s s'
  | n + 1, i, its, s, e, s' => (e = .ret (.ok (.ret .none)) ∧ its[i]? = none ∧ Two it env.locals s s') ∨
    ∃ v k c fs, Slp e v k c fs ∧ its[i]? = some v ∧ TailAt env it l (i + 1) s'.heap ∧ Two it env.locals s s' ∧ SleepsOf M A env it l (TailF M A env it l n (i + 1)) n (i + 1) k c fs
abbrev Sleeps (M : Model) (A : Around) (env : Env) (it l : Addr) (n i : Nat) := SleepsOf M A env it l (TailF M A env it l n i) n i
theorem TailF.done {M : Model} {A : Around} {env : Env} {it l : Addr} {n i : Nat} {its : Array Value} {s s' : Shared} (h1 : its[i]? = none) (h2 : Two it env.locals s s') : TailF M A env it l n i its s (.ret (.ok (.ret .none))) s' := by
  cases n with
  | zero => exact ⟨rfl, h1, h2⟩
  | succ n => exact .inl ⟨rfl, h1, h2⟩
end
end Px
namespace Px
open PySem PySem.Spec PyProof.Rows L2
/-- no exception -/
abbrev noE : XK := fun _ _ _ => False
/-- the context of a generator's body: no exception leaves it -/
abbrev gX (P : Program) (w : World) (K : Frg) (mg : Str → Option Value) (base : Heap) (N : List Str) (qual : Str) (scope : Scope) (f : Addr) (cd : Value) (A : Around) (outer : List Env) (s : Shared) (H : Hp) (pn : List (Addr × Obj)) : Cx :=
  { cxOf (CXI K P w) P w K mg base N qual scope f cd A outer s H noE with pn := pn, xe := fun _ _ => False }
/-- the state behind the first wake: e: it sleeps or has ended -/
structure Woke (P : Program) (w : World) (A : Around) (outer : List Env) (H : Hp) (s : Shared) (env : Env) (pins : List (Addr × Obj)) (Q : VK) (e : End) (s3 : Shared) (l it : Addr) (H3 : Hp) (its : Array Value) (xs : List V) : Prop where
  os : s3.os = s.os
  bare : AllBare s3.gens
  un : Un (frs outer) [] H H3 s.heap s3.heap
  hok : HOk P w H3 s3.heap
  pin : ∀ p ∈ pins, s3.heap.get? p.1 = some p.2 ∧ H3 p.1 = none ∧ p.1 < it
  lst : H3 l = some (.lst xs)
  q : Q (.ref l) H3
  hit : H3 it = none
  hL : H3 env.locals = none
  new : s.heap.objs.size ≤ it
  end_ : (e = .ret (.ok (.ret .none)) ∧ xs = []) ∨ ∃ v k c fs, Slp e v k c fs ∧ (∃ x, xs[0]? = some x ∧ RelV x v) ∧ TailAt env it l 1 s3.heap ∧ Sleeps (model P w) A env it l sizeLine 1 k c fs
def FirstF (P : Program) (w : World) (A : Around) (outer : List Env) (H : Hp) (s : Shared) (env : Env) (pins : List (Addr × Obj)) (Q : VK) (e : End) (s3 : Shared) : Prop := ∃ l it H3 its xs, Woke P w A outer H s env pins Q e s3 l it H3 its xs
/-- a new generator u behind the state s -/
structure GNew (P : Program) (w : World) (k : Nat) (outer : List Env) (H : Hp) (s : Shared) (sp : Sp) (vs : List V) (s1 : Shared) (a : Addr) (g : Nat) (gs : GenState) (env : Env) (oa : Obj) : Prop where
  a1 : s.heap.objs.size ≤ a
  a2 : a < s1.heap.objs.size
  ge : s1.heap.get? a = some oa
  isg : ∀ h : Heap, h.get? a = some oa → h.IsGen a g
  noc : ∀ v, oa.data ≠ .cell v
  gen : s1.gens[g]? = some gs
  os : s1.os = s.os
  bare : AllBare s1.gens
  keep : ∀ b o, s.heap.get? b = some o → s1.heap.get? b = some o
  L1 : s.heap.objs.size ≤ env.locals
  L2 : env.locals < a
  wake : ∀ (A : Around) (s2 : Shared) (H2 : Hp) (Q : VK) (pins : List (Addr × Obj)), A.handled = none → Rm k A → A.frames = some outer → (∀ b o, s1.heap.get? b = some o → s2.heap.get? b = some o) → s2.os = s.os → AllBare s2.gens → HOk P w H2 s2.heap →
    Un (frs outer) [] H H2 s.heap s2.heap → (∀ b, s.heap.get? b = none → b < s1.heap.objs.size → H2 b = none) → (∀ p ∈ pins, s2.heap.get? p.1 = some p.2 ∧ H2 p.1 = none ∧ s1.heap.objs.size ≤ p.1 ∧ ∀ v, p.2.data ≠ .cell v) → sp vs H2 Q noE →
    WkG (model P w) A (FirstF P w A outer H s env ((a, oa) :: pins) Q) gs s2
/-- the generator def at f -/
def GnS (P : Program) (w : World) (K : Frg) (mg : Str → Option Value) (base : Heap) (k : Nat) (f : Addr) (n : Nat) (sp : Sp) : Prop :=
  ∀ (A : Around) (outer : List Env) (s : Shared) (H : Hp) (us : List Value) (vs : List V), A.handled = none → Rm k A → Env0 P w K mg base A outer s H → us.length = n → Vals vs us →
    codeAny (model P w) A (.call (.ref f) ⟨us, []⟩) (fun r s1 => ∃ a g gs env oa, r = .ok (.ret (.ref a)) ∧ GNew P w k outer H s sp vs s1 a g gs env oa) s
end Px
namespace Px
open PySem PySem.Spec PyProof.Rows L2
section
variable {X : Cx} {pins : List (Addr × Obj)} {σ : L2.St} {H : Hp} {s : Shared}
/-- what is wanted of an exception does not hang on who sleeps -/
def XeK (X : Cx) : Prop := ∀ (S : Gk.Sl) (e : Value) (s : Shared), Gk.Good S s → (∀ i o, S i = some o → o.bare = true) → X.xe e s → X.xe e (Gk.fill S s)
theorem xek_cx {cm : Bool} {P : Program} {w : World} {K : Frg} {mg : Str → Option Value} {base : Heap} {N : List Str} {qual : Str} {scope : Scope} {f : Addr} {cd : Value} {A : Around} {outer : List Env} {s : Shared} {H : Hp} {E : XK} {pn : List (Addr × Obj)} :
    XeK { cxOf (CXI K P w) P w K mg base N qual scope f cd A outer s H E with calm := cm, pn := pn } := fun S e s1 G hS h => by
  have cx : ∀ e' s2, Gk.Fl S (CXI K P w outer H s E e') s2 → CXI K P w outer H s E e' s2 := fun e' s2 ⟨s3, G3, e3, a, B, H', cls, d, h1, h2, h3, h4, h5, h6, h7, h8⟩ => by
    subst e3
    exact ⟨a, B, H', cls, d, h1, h2, h3, h4, h5, h6, Gk.bare_fill h7 hS, h8⟩
  exact wpAny_mono (Gk.wpAny_fill G h) (fun _ s2 z => cx _ s2 z) fun e' s2 z => cx e' s2 z
/-- an expression whose value is a new generator -/
structure PGn (X : Cx) (k n : Nat) (m : Bool) (e : Expr) (ga : TA) (sp : Sp) : Prop where
  run : ∀ (pins : List (Addr × Obj)) (s : Shared) (σ : L2.St) (H : Hp) (R : List V → Hp → Prop), Inv X pins σ H s → ga σ H (fun vs H1 => vs.length = n ∧ (m = true ∧ R vs H1)) → wpAny (model X.prog X.w) X.A (eval e X.env)
    (fun u s1 => ∃ vs H1 sc a g gs env oa, u = .ref a ∧ Inv X pins σ H1 sc ∧ R vs H1 ∧ GNew X.prog X.w k X.stack H1 sc sp vs s1 a g gs env oa ∧ Gk.NF sc s1) X.xe s
end
/-- asleep ahead of item i -/
structure Asleep (X : Cx) (pins : List (Addr × Obj)) (env : Env) (oa : Obj) (a it l : Addr) (g i : Nat) (H : Hp) (s : Shared) : Prop where
  ge : s.heap.get? a = some oa
  tail : TailAt env it l i s.heap
  gen : ∃ k lv c p fs m, s.gens[g]? = some (.suspended k lv c p fs false) ∧ Sleeps (model X.prog X.w) X.A.in1 env it l m i k c fs ∧ m + i = sizeLine + 1
  fa : FpOk X pins H a
  fi : FpOk X pins H it
  fL : FpOk X pins H env.locals
  ne : a ≠ it ∧ a ≠ env.locals
section
variable {X : Cx} {pins : List (Addr × Obj)} {σ : L2.St} {H : Hp} {s : Shared}
theorem fpAt {b : Addr} {H' : Hp} (h : FpOk X pins H b) (n : H' b = none) : FpOk X pins H' b := ⟨n, h.2⟩
theorem Asleep.tnc {env : Env} {oa : Obj} {a it l : Addr} {g i : Nat} (z : Asleep X pins env oa a it l g i H s) (hoa : ∀ v, oa.data ≠ .cell v) : ∀ b ∈ [a, it, env.locals], ∃ o, s.heap.get? b = some o ∧ ∀ v, o.data ≠ .cell v := fun b hb => by
  simp only [List.mem_cons, List.not_mem_nil, or_false] at hb
  rcases hb with rfl | rfl | rfl
  · exact ⟨oa, z.ge, hoa⟩
  · obtain ⟨o, e, _, d⟩ := z.tail.iter
    exact ⟨o, e, fun v q => by rw [d] at q; cases q⟩
  · obtain ⟨m, o, es, ep, e, d, _⟩ := z.tail.ns
    exact ⟨o, e, fun v q => by rw [d] at q; cases q⟩
theorem Asleep.fp {env : Env} {oa : Obj} {a it l : Addr} {g i : Nat} (z : Asleep X pins env oa a it l g i H s) : ∀ b ∈ [a, it, env.locals], FpOk X pins H b := fun b hb => by
  simp only [List.mem_cons, List.not_mem_nil, or_false] at hb
  rcases hb with rfl | rfl | rfl
  · exact z.fa
  · exact z.fi
  · exact z.fL
/-- the consumer ran on: the sleeper sleeps -/
theorem Asleep.keep {env : Env} {oa : Obj} {a it l : Addr} {g i : Nat} {σ' : L2.St} {H' : Hp} {s' : Shared} (z : Asleep X pins env oa a it l g i H s) (hoa : ∀ v, oa.data ≠ .cell v) (I : Inv X (pins ++ pinsAt [a, it, env.locals] s.heap) σ' H' s')
    (hg : ∀ k l c p fs cl, s.gens[g]? = some (GenState.suspended k l c p fs cl) → s'.gens[g]? = some (GenState.suspended k l c p fs cl)) : Asleep X pins env oa a it l g i H' s' := by
  have pin : ∀ b ∈ [a, it, env.locals], ∀ o, s.heap.get? b = some o → s'.heap.get? b = some o ∧ H' b = none := fun b hb o e => by
    have q := I.pin (b, o) (List.mem_append_right _ (List.mem_append_right _ (mem_pinsAt hb e)))
    exact ⟨q.1, q.2.1⟩
  have nn : ∀ b ∈ [a, it, env.locals], H' b = none := fun b hb => by
    obtain ⟨o, e, _⟩ := z.tnc hoa b hb
    exact (pin b hb o e).2
  obtain ⟨k, lv, c, p, fs, m, h1, h2, h3⟩ := z.gen
  exact ⟨(pin a (by simp) _ z.ge).1, z.tail.at_ (fun o e => (pin it (by simp) o e).1) (fun o e => (pin env.locals (by simp) o e).1), ⟨k, lv, c, p, fs, m, hg _ _ _ _ _ _ h1, h2, h3⟩, fpAt z.fa (nn a (by simp)), fpAt z.fi (nn it (by simp)), fpAt z.fL (nn env.locals (by simp)), z.ne⟩
/-- woken again: the next item, or the end -/
theorem Asleep.next {env : Env} {oa : Obj} {a it l : Addr} {g i : Nat} {xs : List V} {E : Value → Shared → Prop} {Q : Option Value → Shared → Prop} (z : Asleep X pins env oa a it l g i H s) (isg : ∀ h : Heap, h.get? a = some oa → h.IsGen a g) (hc : X.calm = true) (room : Rm 0 X.A) (I : Inv X pins σ H s) (hl : SqL X.K H l xs)
    (hY : ∀ x v s', xs[i]? = some x → RelV x v → Inv X pins σ H s' → Asleep X pins env oa a it l g (i + 1) H s' → Q (some v) s') (hN : ∀ s', xs.length ≤ i → Inv X pins σ H s' → Q none s') : wpAny (model X.prog X.w) X.A (pyNext (.ref a)) Q E s := by
  obtain ⟨k, lv, c, p, fs, m, h1, h2, h3⟩ := z.gen
  obtain ⟨its, rv, ⟨ol, nn, el, ec, ed, ed2⟩, hz⟩ := I.list hl
  have isl : s.heap.IsList l its.toArray := ⟨ol, el, by first | exact ec | exact ed, nn, by first | exact ed2 | exact ed⟩
  have hil : its.toArray.size = xs.length := by rw [List.size_toArray, rv.length]
  have hgs : g < s.gens.size := (Array.getElem?_eq_some_iff.mp h1).1
  have nit : ∀ s' : Shared, s'.os = s.os → (∀ b o, b ≠ it → b ≠ env.locals → s.heap.get? b = some o → s'.heap.get? b = some o) → AllBare s'.gens → Inv X pins σ H s' := fun s' ho hk hb => by
    have J := I.turnedL (t' := s'.toks) (h' := s'.heap) (ch := [it, env.locals]) (fun b o hb e => hk b o (fun q => hb (by simp [q])) (fun q => hb (by simp [q])) e) (fun b hb => by
      simp only [List.mem_cons, List.not_mem_nil, or_false] at hb
      rcases hb with rfl | rfl
      · exact z.fi
      · exact z.fL)
    exact ⟨J.ok, ho.trans I.os, hb, J.base, J.loc, J.cell, J.free, J.freeC, J.pin, J.hok, J.len⟩
  have bareS : ∀ s1 : Shared, s1.gens = (s.setGen g .running).gens → ∀ x : GenState, x.bare = true → AllBare (s1.setGen g x).gens := fun s1 e x hx => by
    refine allBare_setGen ?_ hx
    rw [e]
    exact allBare_setGen I.bare rfl
  refine next_wk (g := g) (gs := .suspended k lv c p fs false) (I.ok.hd hc) I.nolimit (by have := room.dp; omega) (isg _ z.ge) h1 (h2 (s.setGen g .running) its.toArray z.tail isl (by rw [hil]; omega)) fun e s1 tf sz => ?_
  have done : e = .ret (.ok (.ret .none)) → its.toArray[i]? = none → Two it env.locals (s.setGen g .running) s1 → (∃ v k c fs l q, e = .susp v false l k c q fs ∧ fs.any Frame.guarded = false ∧ Q (some v) (s1.setGen g (.suspended k l c q fs false))) ∨
      ((e = .ret (.ok (.ret .none)) ∨ e = .ret (.ok .next)) ∧ ∀ h', (∀ b o, s1.heap.get? b = some o → h'.get? b = some o) → Q none { s1.setGen g .finished with heap := h' }) := fun e1 e2 two => by
    refine .inr ⟨.inl e1, fun h' kp => hN _ ?_ ?_⟩
    · have := Array.getElem?_eq_none_iff.mp e2
      omega
    · exact nit _ two.1 (fun b o n1 n2 e => kp b o (two.2.2 b o n1 n2 e)) (bareS s1 two.2.1 _ rfl)
  cases m with
  | zero => exact done tf.1 tf.2.1 tf.2.2
  | succ m =>
    rcases tf with ⟨e1, e2, two⟩ | ⟨v, k', c', fs', ⟨lv', q, e1, gd⟩, e2, t2, two, sl⟩
    · exact done e1 e2 two
    · have e2' : its[i]? = some v := by simpa using e2
      have hi : i < its.length := (List.getElem?_eq_some_iff.mp e2').1
      have hx : xs[i]? = some xs[i] := List.getElem?_eq_getElem (by rw [rv.length]; exact hi)
      obtain ⟨u, hu, ru⟩ := rv.get hx
      rw [e2'] at hu
      cases hu
      refine .inl ⟨v, k', c', fs', lv', q, e1, gd, hY _ v _ hx ru (nit _ two.1 two.2.2 (bareS s1 two.2.1 _ rfl)) ⟨?_, t2, ⟨k', lv', c', q, fs', m, setGen_at (by omega), sl, by omega⟩, z.fa, z.fi, z.fL, z.ne⟩⟩
      exact two.2.2 a oa z.ne.1 z.ne.2 z.ge
end
end Px
namespace Px
open PySem PySem.Spec PyProof.Rows L2
/-- attributes of the class are read as the builtin way reads them -/
theorem cread_ok {K : Frg} {C : Addr} (h : PySem.W.readsIn K C (.type "type") = true) : ClX.CRead K C (.type "type") := by
  refine ⟨h, ?_⟩
  unfold PySem.W.readsIn at h
  obtain ⟨h, _⟩ := He.ba h
  obtain ⟨h, _⟩ := He.ba h
  obtain ⟨h, h3⟩ := He.ba h
  obtain ⟨_, h2⟩ := He.ba h
  unfold PySem.W.specialIn
  rw [beq_iff_eq.mp h2, Option.bind_some]
  exact beq_iff_eq.mp h3
/-- a class is read as type.__getattribute__ reads it; its classmethod m -/
theorem cmB_ok {K : Frg} {c : Cl} {m : Str} (h : cmB K c m = true) : ClX.CRead K (ca K c) (.type "type") ∧ ClX.CMet K (ca K c) (.type "type") m (cmRec K (ca K c) m) (cmFn K (ca K c) m) := by
  obtain ⟨h1, h⟩ := He.ba h
  obtain ⟨h2, h3⟩ := He.ba h
  exact ⟨cread_ok h1, He5.cmet_of h2 h3⟩
/-- C.NAME is an int -/
theorem isVal_ok {i : Int} {r : Option PySem.W.CFound} (h : isVal i r = true) : ∃ t, r = some (.val (.int i t)) := by
  unfold isVal at h
  split at h
  · split at h
    · rename_i j t
      have e := of_decide_eq_true h
      exact ⟨t, by rw [e]⟩
    · cases h
  · cases h
theorem cvB_ok {K : Frg} {c : Cl} {f : Str} {i : Int} (h : cvB K c f i = true) : ClX.CRead K (ca K c) (.type "type") ∧ ∃ u, ClX.CVal K (ca K c) (.type "type") f (.int i) u := by
  obtain ⟨h1, h2⟩ := He.ba h
  obtain ⟨t, e⟩ := isVal_ok h2
  exact ⟨cread_ok h1, _, ⟨e, ⟨t, rfl⟩⟩⟩
theorem law_end {l : PySem.W.OpenLaw} {q : Program} {loose : List Str} {XP : (Str → Option Value) → Heap → Prop} {d : DefRec} {t : Want} {k : Nat} {x : Str} {sp : Frg → Sp} (hn : l.most = some 63) (hdf : d.params.defaults = []) (hr : RoomG k callerA)
    (Fn : ∀ (w : World) (mg : Str → Option Value) (fa : Addr) (h : Heap) (K : Frg), K.In h → Says t K → h.Ns mainGlobals mg → mg d.name = some (.ref fa) → ∃ (fd : FuncData), (∀ (s : Shared) (u : Value), BindsTo s fd ⟨[u], []⟩ [(x, u)]) ∧ ∀ base : Heap, K.In base → base.Ns mainGlobals mg → (∀ p ∈ csK K, LamX.TabB base mg p.1 p.2) → FnOkG l.prog w K mg base (CXI K l.prog w) k fa fd [x] (sp K))
    (hsp : ∀ (K : Frg) (H : Hp) (a : Addr) (ns : List Int), ns.length ≤ 63 → (∀ z ∈ ns, Builtin.Int.intBits z ≤ 1048576) → (∀ p ∈ Tbs K, H p.1 = some (.tbl #[])) → SqL K H a (ns.map V.int) → sp K [.ref a] H (fun v _ => v = .bl true) fun _ _ _ => False) :
    PySem.W.WalkO q loose XP t.hook.says l.row.toRowW d [] (fun f vs => PySem.call f vs) := by
  refine Att.attach_callB hn hdf fun w s₀ s₁ mg mb fa o pm cd doc a vs ns G Y ho hd hcd hmg hobj hints hlen hbits hg => ?_
  obtain ⟨K, KX, cs, T⟩ := Y
  obtain ⟨fd, hb, hF⟩ := Fn w mg fa _ K KX cs G.T.g hmg
  refine law_callTsG (cs := csK K) KX G.T.g G.T.b G.T.builtins G.T.nolimit hg (fun p hp => (T p hp).1) (fun p hp => ?_) (fun p hp => codeB_ok KX (T p hp).2) G.T.bmain hobj hints (Nat.le_trans hlen (by decide)) hr hF hb (fun H hT hS => hsp K H a ns hlen hbits (fun p hp => ?_) hS) fun H e s' z => ?_
  · obtain ⟨nm, _, e⟩ := List.mem_filterMap.mp hp
    exact tabP_out e
  · obtain ⟨c, hc⟩ := Tbs_cs hp
    exact hT _ hc
  · obtain ⟨_, _, _, _, _, _, _, _, _, _, _, _, zz⟩ := z
    exact zz.elim
end Px
namespace Px
open PySem PySem.Spec PyProof.Rows L2
/-- the step that it is, in the plain store -/
theorem Ok.lam {K : Frg} {B : BX} {μ : Mu} {G H : Hp} (o : Ok K B μ G H) {P c' : Addr} {q : Str} {ps more : Array Value} (hu : ∀ p ∈ Tbs K, p.1 = P → p.2 = q) (gP : G P = none) (hP : H P = some (.tbl ps)) (n : H c' = none) (ht : TriplesOk (ps ++ more).toList)
    (ha : ∀ (p' : Pos) (cv : Value), codeAmong p' (ps ++ more).toList = some cv → codeAmong p' ps.toList = some cv ∨ cv = .ref c') : Go K B μ G H μ (upd G c' (LamX.CodeO c' q)) (upd (upd H P (.tbl (ps ++ more))) c' (LamX.CodeO c' q)) := by
  have nPc : P ≠ c' := ne_of_none hP n
  have gc : G c' = none := o.sub.free n
  have at_ : ∀ b u, H b = some u → NT u → upd (upd H P (.tbl (ps ++ more))) c' (LamX.CodeO c' q) b = some u := fun b u e nt => by
    rw [upd_ne (ne_of_none e n), upd_ne fun z => by rw [z, hP] at e; cases e; exact nt ps rfl]
    exact e
  refine ⟨⟨fun a x e => ?_, fun a c e => ?_, fun b c e => ?_, fun p hp => ?_⟩, ⟨.upd gc, fun a e => ?_, fun a x e _ _ nt => at_ a x e nt, fun a x e _ => ?_, fun a e => .inl e⟩⟩
  · by_cases z : a = c'
    · subst z; rw [upd_same] at e ⊢; exact e
    · rw [upd_ne z] at e
      have e1 := o.sub a x e
      by_cases z2 : a = P
      · subst z2
        rw [gP] at e
        cases e
      · rw [upd_ne z, upd_ne z2]; exact e1
  · obtain ⟨g1, nb, v, e1, r⟩ := o.cell a c e
    exact ⟨by rw [upd_ne (ne_of_none e1 n)]; exact g1, nb, v, at_ a v e1 r.nt, r.mono (.upd gc)⟩
  · obtain ⟨bt, gb, gcc⟩ := o.box b c e
    obtain ⟨nbc, ns, p, st, e1, e2, r⟩ := bt
    exact ⟨⟨nbc, ns, p, st, at_ _ _ e1 (by intro _ e; cases e), at_ _ _ e2 (by intro _ e; cases e), r⟩, by rw [upd_ne (ne_of_none e1 n)]; exact gb, by rw [upd_ne (ne_of_none e2 n)]; exact gcc⟩
  · obtain ⟨g, ps', a1, a2, a3⟩ := o.tab p hp
    have np : p.1 ≠ c' := ne_of_none a1 n
    refine ⟨by rw [upd_ne np]; exact g, ?_⟩
    by_cases hb : p.1 = P
    · rw [hb] at a1
      rw [hP] at a1
      cases a1
      refine ⟨ps ++ more, by rw [hb, upd_ne nPc, upd_same], ht, fun p' cv hcv => ?_⟩
      rcases ha p' cv hcv with z | z
      · obtain ⟨c0, e1, e2⟩ := a3 p' cv z
        exact ⟨c0, e1, by rw [upd_ne (ne_of_none e2 gc)]; exact e2⟩
      · exact ⟨c', z, by rw [upd_same, hu p hp hb]⟩
    · refine ⟨ps', by rw [upd_ne np, upd_ne hb]; exact a1, a2, fun p' cv hcv => ?_⟩
      obtain ⟨c0, e1, e2⟩ := a3 p' cv hcv
      exact ⟨c0, e1, by rw [upd_ne (ne_of_none e2 gc)]; exact e2⟩
  · by_cases z : a = c'
    · subst z; exact n
    · rw [upd_ne z] at e
      by_cases z2 : a = P
      · subst z2; rw [upd_same] at e; cases e
      · rw [upd_ne z2] at e; exact e
  · by_cases z : a = c'
    · subst z; exact .inr (.inl n)
    · rw [upd_ne z] at e; exact .inl e
/-- the def's own table is known -/
def LamC (X : Cx) : Prop := ∃ c P, X.env.code = .ref c ∧ LamX.TabB X.base X.mg c P ∧ (P, X.env.qual ++ "<lambda>") ∈ Tbs X.K ∧ ∀ p ∈ Tbs X.K, p.1 = P → p.2 = X.env.qual ++ "<lambda>"
end Px
namespace Px
open PySem PySem.Spec PyProof.Rows L2
/-- the def at f returns (len(x), x) -/
def KeyF (K : Frg) (f : Addr) : Prop := ∃ (oc : Value) (od : Option Addr) (nm qual : Str) (params : Arguments) (scope : Scope) (dV kV doc pm : Value) (an : Option Addr) (cdv ct : Value) (osl : Array (Option Value)) (x : Str) (p1 p2 p3 p4 p5 p6 : Pos) (kk : Nat) (fd : FuncData),
  fd = PySem.W.fnOf nm qual params [.Return (some (.Tuple [.Call (.Name "len" p1) [.Name x p2] [] p3, .Name x p4] kk p5)) p6] scope dV kV doc pm an cdv ct ∧ K.lookup f = some ⟨oc, od, .func fd, osl⟩ ∧ PySem.W.codeIn K cdv qual = true ∧ (∀ v, bindArgs fd ⟨[v], []⟩ = pure [(x, v)]) ∧
  scope.isCoroutine = false ∧ scope.isGenerator = false ∧ scope.kind = .function ∧ scope.names.lookup x = some .local ∧ scope.names.lookup ("len" : Str) = some NameKind.globalImplicit ∧ (∀ y ∈ scope.names, y.2 ≠ .cell) ∧ (x == ("__debug__" : Str)) = false
end Px
namespace Px
open PySem PySem.Spec PyProof.Rows L2
def genP (p : PV) (q : List PV → Prop) : Prop := match p with
  | .lst xs => q xs
  | _ => False
/-- the items of a generator: its promise tells them as a list; nothing may be raised -/
def iGen (m : Bool) (n : Nat) (ct : Ct) (ds : DA) : DI := fun ρ μ q x => ds ρ μ (fun ps μ1 => ps.length = n ∧ (m = true ∧ ct ps μ1 (fun p μ2 => genP p fun xs => q xs μ2) (fun _ _ => False))) x
/-- more room asked -/
theorem GnS.up {P : Program} {w : World} {K : Frg} {mg : Str → Option Value} {base : Heap} {k j n : Nat} {f : Addr} {sp : Sp} (F : GnS P w K mg base k f n sp) (h : k ≤ j) : GnS P w K mg base j f n sp := fun A outer s H us vs hA hr e0 hl r =>
  codeAny_mono (F A outer s H us vs hA (hr.mono h) e0 hl r) fun rr s1 ⟨a, g, gs, env, oa, er, G⟩ =>
    ⟨a, g, gs, env, oa, er, ⟨G.a1, G.a2, G.ge, G.isg, G.noc, G.gen, G.os, G.bare, G.keep, G.L1, G.L2, fun A s2 H2 Q pins hA hr hfr kp ho hb hok un yg hp hs => G.wake A s2 H2 Q pins hA (hr.mono h) hfr kp ho hb hok un yg hp hs⟩⟩
end Px
namespace Px
open PySem PySem.Spec PyProof.Rows L2
end Px
namespace Px
open PySem PySem.Spec PyProof.Rows L2
/-- the state as it was below L -/
def cutHs (L : Addr) (s : Shared) : Shared := { s with heap := ⟨s.heap.objs.extract 0 L, s.heap.life⟩ }
theorem cut_size {L : Addr} {s : Shared} (h : L ≤ s.heap.objs.size) : (cutHs L s).heap.objs.size = L := by
  show (s.heap.objs.extract 0 L).size = L
  rw [Array.size_extract]
  exact Nat.min_eq_left h
theorem ext_get {α : Type} (a : Array α) (L b : Nat) : (a.extract 0 L)[b]? = if b < L then a[b]? else none := by
  rw [Array.getElem?_extract]
  by_cases h : b < L
  · by_cases h2 : b < a.size
    · rw [if_pos (by omega), if_pos h, Nat.zero_add]
    · rw [if_neg (by omega), if_pos h, Array.getElem?_eq_none (by omega)]
  · rw [if_neg (by omega), if_neg h]
theorem cut_get (L b : Addr) (s : Shared) : (cutHs L s).heap.get? b = if b < L then s.heap.get? b else none := by
  have e : (s.heap.objs.extract 0 L)[b]? = if b < L then s.heap.objs[b]? else none := ext_get _ _ _
  show Heap.get? ⟨s.heap.objs.extract 0 L, s.heap.life⟩ b = _
  unfold Heap.get?
  show (match (s.heap.objs.extract 0 L)[b]? with | some ⟨_, _, .freed, _⟩ => none | o => o) = _
  rw [e]
  by_cases h : b < L
  · rw [if_pos h, if_pos h]; rfl
  · rw [if_neg h, if_neg h]
theorem cut_some {L b : Addr} {s : Shared} {o : Obj} (e : (cutHs L s).heap.get? b = some o) : b < L ∧ s.heap.get? b = some o := by
  rw [cut_get] at e
  split at e
  · exact ⟨‹_›, e⟩
  · cases e
theorem cut_of {L b : Addr} {s : Shared} {o : Obj} (h : b < L) (e : s.heap.get? b = some o) : (cutHs L s).heap.get? b = some o := by
  rw [cut_get, if_pos h]; exact e
/-- how a generator runs: its def, its frame at L, what is around a wake -/
structure GP where
  P : Program
  w : World
  K : Frg
  mg : Str → Option Value
  base : Heap
  N : List Str
  qual : Str
  scope : Scope
  f : Addr
  cd : Value
  A : Around
  outer : List Env
  L : Addr
  B : BX
  ks : List Addr
/-- the state at a wake; pn: what else stands above L and is not tracked -/
structure WD where
  s : Shared
  H : Hp
  pn : List (Addr × Obj)
  μ : Mu
  G : Hp
abbrev GP.env (Γ : GP) : Env := envOfC Γ.qual Γ.scope Γ.L Γ.f Γ.cd
def GP.X (Γ : GP) (d : WD) : Cx :=
  { gX Γ.P Γ.w Γ.K Γ.mg Γ.base Γ.N Γ.qual Γ.scope Γ.f Γ.cd Γ.A Γ.outer (cutHs Γ.L d.s) d.H d.pn with A := Γ.A.deeper Γ.env, env := Γ.env, stack := Γ.env :: Γ.outer }
/-- within a wake: what is so -/
structure GnA (Γ : GP) (d : WD) (its : List (Addr × Obj)) (hist : Hp) (ρ : En) (μ : Mu) (σ : L2.St) (G H : Hp) (s : Shared) : Prop where
  big : Γ.L ≤ d.s.heap.objs.size
  inv : Inv (Γ.X d) its σ H s
  rel : Rel Γ.K Γ.B ρ μ σ G H
  go : Go Γ.K Γ.B d.μ d.G d.H μ G H
  sep : ∀ p ∈ d.pn, ∀ q ∈ its, p.1 ≠ q.1
  past : Sub hist G
  lo : ∀ q ∈ its, Γ.L ≤ q.1
theorem Rel.reo {K : Frg} {B : BX} {ρ : En} {μ μ1 : Mu} {σ : L2.St} {G H G1 H1 : Hp} (R : Rel K B ρ μ σ G H) (o : Ok K B μ1 G1 H1) (s : Sub G G1) : Rel K B ρ μ1 σ G1 H1 := ⟨o, R.len, fun i x e => by obtain ⟨v, e1, e2⟩ := R.at_ i x e; exact ⟨v, e1, e2.mono s⟩⟩
/-- the state d2 fits a generator that fell asleep in the state s' -/
structure Ready (Γ : GP) (its : List (Addr × Obj)) (μ : Mu) (G H : Hp) (s' : Shared) (d : WD) : Prop where
  big : Γ.L ≤ d.s.heap.objs.size
  bare : AllBare d.s.gens
  hok : HOk Γ.P Γ.w d.H d.s.heap
  bs : ∀ b o, Γ.base.get? b = some o → d.s.heap.get? b = some o ∧ d.H b = none
  bsz : Γ.base.objs.size ≤ Γ.L
  funs : (cutHs Γ.L d.s).heap.FunFrames Γ.base Γ.outer
  frf : ∀ b ∈ frs Γ.outer, d.H b = none
  own : ∀ o, s'.heap.get? Γ.L = some o → d.s.heap.get? Γ.L = some o
  ownF : d.H Γ.L = none
  pin : ∀ p ∈ d.pn ++ its, d.s.heap.get? p.1 = some p.2 ∧ d.H p.1 = none ∧ p.1 ≠ Γ.L ∧ p.1 ∉ frs Γ.outer ∧ ∀ v, p.2.data ≠ .cell v
  go : Ok Γ.K Γ.B d.μ d.G d.H ∧ Sub G d.G
  fit : ∀ a ∈ Γ.ks, d.μ a = μ a
  sep : ∀ p ∈ d.pn, ∀ q ∈ its, p.1 ≠ q.1
/-- what a wake does, while ys are to come -/
def TF (Γ : GP) : List PV → WD → End → Shared → Prop
  | [], d, e, s' => e = .ret (.ok (.ret .none)) ∧ ∃ hist ρ σ G H, GnA Γ d [] hist ρ d.μ σ G H s'
  | y :: r, d, e, s' => ∃ v k c fs hist ρ σ G H its u, Slp e v k c fs ∧ GnA Γ d its hist ρ d.μ σ G H s' ∧ RelV u v ∧ Rep Γ.K Γ.B G y u ∧
      ∀ d2, Ready Γ its d.μ G H s' d2 → Wk (model Γ.P Γ.w) Γ.A (TF Γ r d2) c (k (.send .none)) fs d2.s
/-- woken: all is as it was -/
theorem Ready.at_ {Γ : GP} {d d2 : WD} {its : List (Addr × Obj)} {hist : Hp} {ρ : En} {μ : Mu} {σ : L2.St} {G H : Hp} {s' : Shared} (a : GnA Γ d its hist ρ μ σ G H s') (nc : Γ.env.cells = []) (r : Ready Γ its μ G H s' d2) : GnA Γ d2 its hist ρ d2.μ σ d2.G d2.H d2.s := by
  have I := a.inv
  have ok := I.ok
  have nocell : ∀ x c, Γ.env.cells.lookup x = some c → False := fun x c e => by rw [nc] at e; cases e
  have gX_env : (Γ.X d).env = Γ.env := rfl
  have sz2 : (Γ.X d2).s_0.heap.objs.size = Γ.L := cut_size r.big
  refine ⟨r.big, ⟨?_, rfl, r.bare, ?_, ?_, fun x c e => (nocell x c e).elim, r.ownF, fun x c e => (nocell x c e).elim, r.pin, r.hok, I.len⟩, a.rel.reo r.go.1 r.go.2, .refl r.go.1, r.sep, a.past.trans r.go.2, a.lo⟩
  · refine ⟨ok.mod, ok.kind, ok.glob, ok.blt, ?_, ok.inj, ok.has, fun x c _ e => (nocell x c e).elim, ok.hd, ok.frames, ok.stk, fun b z => absurd z (by show b ∉ ([] : List Addr); simp), fun b o e => ?_, ?_, fun b o _ => by show b ∉ ([] : List Addr); simp, fun b z => absurd z (by show b ∉ ([] : List Addr); simp), r.funs, r.frf⟩
    · show (Γ.X d2).s_0.heap.objs.size ≤ Γ.L
      rw [sz2]; exact Nat.le_refl _
    · obtain ⟨h1, h2⟩ := r.bs b o e
      exact ⟨cut_of (Nat.lt_of_lt_of_le (Heap.lt_size e) r.bsz) h1, h2⟩
    · rw [sz2]; exact r.bsz
  · exact Un.kept fun b o e => (cut_some e).2
  · obtain ⟨m, ⟨o, es, ep, e, q⟩, hl⟩ := I.loc
    refine ⟨m, ⟨o, es, ep, r.own _ e, q⟩, fun i x v h1 h2 h3 => ?_⟩
    obtain ⟨u, ru, lk⟩ := hl i x v h1 h2 h3
    refine ⟨u, ru, ?_⟩
    rcases lk with z | ⟨_, c, z, _⟩
    · exact .inl z
    · exact (nocell x c z).elim
/-- behind a statement: what is still to come, the store at the wake, names, store -/
structure GE where
  nx : List PV → Mu → En → Mu → Prop
  bk : List PV → Mu → En → Mu → Prop := fun _ _ _ _ => False
  ct : List PV → Mu → En → Mu → Prop := fun _ _ _ _ => False
abbrev DG := GE → List PV → Mu → En → Mu → Prop
structure GCd (Γ : GP) (c : Code) (fs : List Frame) (gd : Bool → Bool) : Prop where
  over : Γ.A.over c fs = Γ.A.deeper Γ.env
  split : splitAtGen fs = none
  guard : fs.any Frame.guarded = false
  gd : gd false = false
structure GKt (Γ : GP) (its : List (Addr × Obj)) (hist : Hp) (c : Code) (fs : List Frame) (J : Flow → Sem PySem.Fin) (E : GE) : Prop where
  nx : ∀ ys d ρ μ σ G H s, GnA Γ d its hist ρ μ σ G H s → E.nx ys d.μ ρ μ → Wk (model Γ.P Γ.w) Γ.A (TF Γ ys d) c (J .next) fs s
  bk : ∀ ys d ρ μ σ G H s, GnA Γ d its hist ρ μ σ G H s → E.bk ys d.μ ρ μ → Wk (model Γ.P Γ.w) Γ.A (TF Γ ys d) c (J .brk) fs s
  ct : ∀ ys d ρ μ σ G H s, GnA Γ d its hist ρ μ σ G H s → E.ct ys d.μ ρ μ → Wk (model Γ.P Γ.w) Γ.A (TF Γ ys d) c (J .cont) fs s
structure GnJ (Γ : GP) (st : List Stmt) (dg : DG) : Prop where
  run : ∀ (its : List (Addr × Obj)) (hist : Hp) (c : Code) (fs : List Frame) (J : Flow → Sem PySem.Fin) (Jx : Value → Sem PySem.Fin) (gd : Bool → Bool) (lv : List Value → List Value) (E : GE), GCd Γ c fs gd → GKt Γ its hist c fs J E →
    ∀ ys d ρ μ σ G H s, GnA Γ d its hist ρ μ σ G H s → dg E ys d.μ ρ μ → Wk (model Γ.P Γ.w) Γ.A (TF Γ ys d) c ((execs st Γ.env).wrap J Jx gd lv) fs s
section
variable {Γ : GP} {st : Stmt} {rest : List Stmt}
theorem GnA.step {its : List (Addr × Obj)} {hist : Hp} {d : WD} {ρ ρ' : En} {μ μ' : Mu} {σ σ' : L2.St} {G H G' H' : Hp} {s s' : Shared} (a : GnA Γ d its hist ρ μ σ G H s) (I : Inv (Γ.X d) its σ' H' s') (R : Rel Γ.K Γ.B ρ' μ' σ' G' H') (g : Go Γ.K Γ.B μ G H μ' G' H') : GnA Γ d its hist ρ' μ' σ' G' H' s' :=
  ⟨a.big, I, R, a.go.trans g, a.sep, a.past.trans g.gx, a.lo⟩
end
end Px
namespace Px
open PySem PySem.Spec PyProof.Rows L2
end Px
namespace Px
open PySem PySem.Spec PyProof.Rows L2
end Px
namespace Px
open PySem PySem.Spec PyProof.Rows L2
def tInt (t : TE) : TE := tCB (fun xs H Q => (∃ i, xs = [.int i] ∧ Q (.int i) H) ∨ ∃ k, xs = [.bl k] ∧ Q (.int (if k then 1 else 0)) H) (tCons t tNil)
def tLen (K : Frg) (t : TE) : TE := tCB (fun xs H Q => ∃ x n, xs = [x] ∧ LenV K x H n ∧ Q (.int n) H) (tCons t tNil)
def tAdd (a b : TE) : TE := tOp (rI0 fun i j => .int (i + j)) a b
def tMul (a b : TE) : TE := tOp (rI CMul fun i j => .int (i * j)) a b
def tMod (a b : TE) : TE := tOp (rI (fun _ j => 0 < j) fun i j => .int (i % j)) a b
def tFdv (a b : TE) : TE := tOp (rI CDivW fun i j => .int (i / j)) a b
/-- [[int(c) for c in script[:63]], 0, 1] -/
def tBox (K : Frg) : TS := tRet (tLst (tCons (tLc (iList K (L2.tSl (rSlL K) (tVar 0) tNoPart (tPart (tC (.int 63))))) (gName 1) tYes (tInt (tVar 1)) [1]) (tCons (tC (.int 0)) (tCons (tC (.int 1)) tNil))))
theorem box_run {K : Frg} {D : Ends} {H : Hp} {a : Addr} {ns : List Int} {N : List Str} (hN : N.length = 2) (hl : ns.length ≤ 63) (hs : SqL K H a (ns.map V.int))
    (h : ∀ (b c : Addr) (H' : Hp) (ms : List Int), Sub H H' → H b = none → H c = none → b ≠ c → ms.length ≤ 63 → H' b = some (.lst [.ref c, .int 0, .int 1]) → H' c = some (.lst (ms.map V.int)) → D.rt (.ref b) H') : tBox K D (L2.start N [.ref a]) H := by
  have s0 : L2.start N [.ref a] = [some (.ref a), none] := by
    unfold L2.start
    rw [hN] <;> rfl
  rw [s0]
  refine ⟨_, rfl, 63, rfl, a, _, rfl, hs, fun p hp => ⟨p, rfl, ⟨_, SqL.of upd_same⟩, fun c hc => ?_⟩⟩
  have hcl : ∃ ms : List Int, cutV (ns.map V.int) none (some 63) = ms.map V.int ∧ ms.length ≤ 63 := by
    refine ⟨(ns.drop (HT.sIx (ns.map V.int).length 0 none)).take (HT.sIx (ns.map V.int).length (ns.map V.int).length (some 63) - HT.sIx (ns.map V.int).length 0 none), ?_, ?_⟩
    · unfold cutV
      rw [List.map_take, List.map_drop]
    · rw [List.length_take, List.length_drop]; omega
  obtain ⟨ms, em, lm⟩ := hcl
  rw [em] at hc ⊢
  have np : c ≠ p := fun z => by rw [z, upd_same] at hc; cases hc
  have hc0 : H c = none := by rw [upd_ne np] at hc; exact hc
  refine lc_list (K := K) (a := p) (xs := ms.map V.int) (fun i H' => H' = upd (upd H p (.lst (ms.map V.int))) c (.lst ((ms.take i).map V.int))) (by rfl) (fun i H' _ e => ?_) (fun i x H' hx e => ?_) (fun H' e => ?_)
  · rw [e]; exact SqL.of (by rw [upd_ne np.symm]; exact upd_same)
  · rw [List.getElem?_map] at hx
    cases q : ms[i]? with
    | none => rw [q] at hx; cases hx
    | some z =>
      rw [q] at hx
      cases hx
      have hi : i < ms.length := (List.getElem?_eq_some_iff.mp q).1
      refine ⟨rfl, ?_⟩
      simp only [tYes, if_true]
      refine ⟨.int z, rfl, .inl ⟨z, rfl, (ms.take i).map V.int, ?_, ?_, ?_⟩⟩
      · rw [e]; exact upd_same
      · rw [List.length_map, List.length_take]
        exact Nat.lt_of_le_of_lt (Nat.min_le_left _ _) (Nat.lt_of_lt_of_le hi (Nat.le_trans lm (by decide)))
      · rw [e, upd_upd, List.take_add_one, q, List.map_append] <;> rfl
  · rw [List.length_map, List.take_length] at e
    refine ⟨by show 3 ≤ sizeLine; decide, fun b hb => ?_⟩
    rw [e] at hb ⊢
    have nc : b ≠ c := fun z => by rw [z, upd_same] at hb; cases hb
    have nb : b ≠ p := fun z => by rw [z, upd_ne np.symm, upd_same] at hb; cases hb
    have hb0 : H b = none := by rw [upd_ne nc, upd_ne nb] at hb; exact hb
    refine h b c _ ms (fun y o ey => ?_) hb0 hc0 nc lm upd_same ?_
    · rw [upd_ne (ne_of_none ey hb0), upd_ne (ne_of_none ey hc0), upd_ne (ne_of_none ey hp)]; exact ey
    · rw [upd_ne nc.symm, upd_same]
def tPlc (K : Frg) : TT := tTest (tOp (rI0 fun i j => V.bl (decide (i < j))) (tVar 3) (tLen K (tVar 2)))
def tCel (K : Frg) : TE := tOp (rIx K) (tVar 2) (tVar 3)
def tDrawA (K : Frg) : TS := tSeq (tAsg (tCel K) (gName 4)) (tSeq (tAsg (tFdv (tVar 4) (tVar 1)) (gSub (tVar 2) (tVar 3) rSetL)) (tRet (tMod (tInt (tVar 4)) (tVar 1))))
def tDrawB (K : Frg) : TS := tSeq (tAsg (tAdd (tVar 3) (tC (.int 1))) (gSub (tVar 0) (tC (.int 1)) rSetL))
  (tSeq (tAsg (tMod (tInt (tAdd (tAdd (tAdd (tMul (tOp (rIx K) (tVar 0) (tC (.int 2))) (tC (.int 48271))) (tMul (tMod (tInt (tVar 4)) (tC (.int 2147483629))) (tC (.int 69621)))) (tVar 3)) (tC (.int 1)))) (tC (.int 2147483647))) (gName 5))
  (tSeq (tAsg (tVar 5) (gSub (tVar 0) (tC (.int 2)) rSetL))
  (tSeq (tAsg (tMod (tInt (tAdd (tMul (tVar 5) (tVar 5)) (tMul (tVar 5) (tC (.int 16807))))) (tC (.int 998244353))) (gName 6))
  (tRet (tMod (tInt (tFdv (tVar 6) (tC (.int 5)))) (tVar 1))))))
def tDraw (K : Frg) : TS := tSeq (tAsg (tOp (rIx K) (tVar 0) (tC (.int 0))) (gName 2)) (tSeq (tAsg (tOp (rIx K) (tVar 0) (tC (.int 1))) (gName 3)) (tSeq (tIfS (tTest (tOp rEq (tLen K (tVar 2)) (tC (.int 0)))) (tRet (tC (.int 0))) tNext)
  (tSeq (tIfS (tAnd (tPlc K) (tTest (tOp (rI0 fun i j => V.bl (decide (j ≤ i))) (tCel K) (tOp (rI CPow fun i j => .int (i ^ j.toNat)) (tC (.int 10)) (tC (.int 18)))))) (tDrawA K) tNext)
  (tSeq (tAsg (tC (.int 0)) (gName 4)) (tSeq (tIfS (tPlc K) (tAsg (tCel K) (gName 4)) tNext) (tDrawB K))))))
structure Drw (n : Int) (A : Prop) : Prop where
  pos : 0 < n
  sm : n.natAbs < 2 ^ 9000
  go : A
theorem draw_of {n : Int} {A : Prop} (h0 : 0 < n) (h1 : n < 100000) (h : A) : Drw n A := by
  exact ⟨h0, Nat.lt_of_lt_of_le (show n.natAbs < 100000 by omega) (Nat.le_trans (by decide : 100000 ≤ 2 ^ 17) (Nat.pow_le_pow_right (by decide) (by decide))), h⟩
def cDraw : Ct := fun ps μ q _ => match ps with
  | [.box, .int n] => Drw n (∀ r : Int, 0 ≤ r → r < n → q (.int r) μ)
  | _ => False
theorem cDraw_inv {ps : List PV} {μ : Mu} {q : QV} {x : QX} (h : cDraw ps μ q x) : ∃ n : Int, ps = [.box, .int n] ∧ 0 < n ∧ n.natAbs < 2 ^ 9000 ∧ ∀ r : Int, 0 ≤ r → r < n → q (.int r) μ := by
  unfold cDraw at h
  split at h
  · exact ⟨_, rfl, h.pos, h.sm, h.go⟩
  · exact h.elim
structure Drawn (b c : Addr) (H H' : Hp) : Prop where
  box : BoxAt H' b c
  keep : ∀ a, a ≠ b → a ≠ c → H' a = H a
section
variable {K : Frg} {D : Ends} {b c : Addr} {n : Int} {H : Hp}
theorem drawB_run {p st z : Int} {ns : List Int} {H : Hp} (hn : 0 < n) (hn2 : n.natAbs < 2 ^ 9000) (hbc : b ≠ c) (e1 : H b = some (.lst [.ref c, .int p, .int st])) (e2 : H c = some (.lst (ns.map V.int))) (h0 : 0 ≤ p) (h1 : 0 ≤ st) (h2 : st < 2147483647) (h3 : ns.length ≤ 63)
    (h : ∀ r H', 0 ≤ r → r < n → Drawn b c H H' → D.rt (.int r) H') : tDrawB K D [some (.ref b), some (.int n), some (.ref c), some (.int p), some (.int z), none, none] H := by
  refine ⟨_, rfl, _, _, rfl, rfl, _, rfl, b, _, 1, 1, rfl, rfl, e1, rfl, ?_⟩
  have e1' : ∀ v, upd H b (.lst ([V.ref c, .int p, .int st].set 1 v)) b = some (.lst [V.ref c, v, .int st]) := fun v => upd_same
  have m1 := Int.emod_nonneg z (b := 2147483629) (by decide)
  have m2 := Int.emod_lt_of_pos z (b := 2147483629) (by decide)
  refine ⟨_, rfl, .inl ⟨b, _, 2, .int st, rfl, rfl, SqL.of (e1' _), rfl, _, _, rfl, rfl, .inl ⟨by omega, by omega⟩, ?_⟩⟩
  refine ⟨_, rfl, .inl ⟨_, rfl, _, _, rfl, rfl, (by show (0 : Int) < 2147483629; decide), _, _, rfl, rfl, .inl ⟨by omega, by omega⟩, _, _, rfl, rfl, _, rfl, _, _, rfl, rfl, _, _, rfl, rfl, .inl ⟨_, rfl, _, _, rfl, rfl, (by show (0 : Int) < 2147483647; decide), ?_⟩⟩⟩
  have s1 : 0 ≤ (st * 48271 + z % 2147483629 * 69621 + p + 1) % 2147483647 := Int.emod_nonneg _ (by decide)
  have s3 : (st * 48271 + z % 2147483629 * 69621 + p + 1) % 2147483647 < 2147483647 := Int.emod_lt_of_pos _ (by decide)
  refine ⟨_, rfl, _, rfl, b, _, 2, 2, rfl, rfl, e1' _, rfl, ?_⟩
  refine ⟨_, rfl, _, rfl, _, _, rfl, rfl, .inl ⟨by omega, by omega⟩, _, rfl, _, _, rfl, rfl, .inl ⟨by omega, by omega⟩, _, _, rfl, rfl, .inl ⟨_, rfl, _, _, rfl, rfl, (by show (0 : Int) < 998244353; decide), ?_⟩⟩
  refine ⟨_, rfl, _, _, rfl, rfl, wide_div (b := 8) (by decide) (by decide) (by decide) (by decide), .inl ⟨_, rfl, _, rfl, _, _, rfl, rfl, hn, ?_⟩⟩
  refine h _ _ (Int.emod_nonneg _ (by omega)) (Int.emod_lt_of_pos _ hn) ⟨⟨hbc, ns, p + 1, _, upd_same, ?_, by omega, s1, s3, h3⟩, fun a n1 n2 => ?_⟩
  · rw [upd_ne hbc.symm, upd_ne hbc.symm]; exact e2
  · rw [upd_ne n1, upd_ne n1]
theorem draw_run {N : List Str} (hN : N.length = 7) (hn : 0 < n) (hn2 : n.natAbs < 2 ^ 9000) (hb : BoxAt H b c) (h : ∀ r H', 0 ≤ r → r < n → Drawn b c H H' → D.rt (.int r) H') : tDraw K D (L2.start N [.ref b, .int n]) H := by
  have s0 : L2.start N [.ref b, .int n] = [some (.ref b), some (.int n), none, none, none, none, none] := by
    unfold L2.start
    rw [hN] <;> rfl
  rw [s0]
  have hb' := hb
  obtain ⟨hbc, ns, p, st, e1, e2, h0, h1, h2, h3⟩ := hb'
  refine ⟨_, rfl, .inl ⟨b, _, 0, .ref c, rfl, rfl, SqL.of e1, rfl, ?_⟩⟩
  refine ⟨_, rfl, .inl ⟨b, _, 1, .int p, rfl, rfl, SqL.of e1, rfl, ?_⟩⟩
  refine ⟨_, rfl, _, _, rfl, .inl ⟨_, SqL.of e2, rfl⟩, rfl, _, rfl, ?_⟩
  refine ite2 (fun z => h 0 H (Int.le_refl _) hn ⟨hb, fun _ _ _ => rfl⟩) fun z => ?_
  have rest : tSeq (tAsg (tC (.int 0)) (gName 4)) (tSeq (tIfS (tPlc K) (tAsg (tCel K) (gName 4)) tNext) (tDrawB K)) D [some (.ref b), some (.int n), some (.ref c), some (.int p), none, none, none] H := by
    refine ⟨_, rfl, _, rfl, _, _, rfl, .inl ⟨_, SqL.of e2, rfl⟩, _, _, rfl, rfl, _, rfl, ?_⟩
    refine ite2 (fun z => ?_) fun z => ?_
    · have z := of_decide_eq_true z
      rw [List.length_map] at z
      obtain ⟨j, rfl⟩ := Int.eq_ofNat_of_zero_le h0
      have hj : j < ns.length := by omega
      refine ⟨_, rfl, _, rfl, .inl ⟨c, _, _, _, rfl, rfl, SqL.of e2, atI_cell hj, ?_⟩⟩
      exact drawB_run hn hn2 hbc e1 e2 h0 h1 h2 h3 h
    · exact drawB_run hn hn2 hbc e1 e2 h0 h1 h2 h3 h
  refine ⟨_, rfl, _, rfl, _, _, rfl, .inl ⟨_, SqL.of e2, rfl⟩, _, _, rfl, rfl, _, rfl, ?_⟩
  refine ite2 (fun z => ?_) fun z => ?_
  · have z := of_decide_eq_true z
    rw [List.length_map] at z
    obtain ⟨j, rfl⟩ := Int.eq_ofNat_of_zero_le h0
    have hj : j < ns.length := by omega
    refine ⟨_, rfl, _, rfl, .inl ⟨c, _, _, _, rfl, rfl, SqL.of e2, atI_cell hj, _, _, rfl, rfl, ⟨by decide, by decide, by decide⟩, _, _, rfl, rfl, _, rfl, ?_⟩⟩
    refine ite2 (fun z2 => ?_) fun z2 => rest
    refine ⟨_, rfl, _, rfl, .inl ⟨c, _, _, _, rfl, rfl, SqL.of e2, atI_cell hj, ?_⟩⟩
    refine ⟨_, rfl, _, rfl, _, _, rfl, rfl, wide_div hn hn2 (by decide) (by decide), _, rfl, _, rfl, c, _, _, j, rfl, rfl, e2, ?_, ?_⟩
    · unfold ixN
      rw [if_pos (by omega), if_pos (by rw [List.length_map]; omega)] <;> rfl
    · refine ⟨_, rfl, .inl ⟨_, rfl, _, rfl, _, _, rfl, rfl, hn, ?_⟩⟩
      refine h _ _ (Int.emod_nonneg _ (by omega)) (Int.emod_lt_of_pos _ hn) ⟨⟨hbc, ns.set j (cellOf ns j / n), j, st, ?_, ?_, h0, h1, h2, ?_⟩, fun a n1 n2 => ?_⟩
      · rw [upd_ne hbc]; exact e1
      · rw [upd_same, List.map_set]
      · rw [List.length_set]; exact h3
      · rw [upd_ne n2]
  · exact rest
end
def spBox (K : Frg) : Sp := fun vs H Q _ => ∃ (a : Addr) (ns : List Int), vs = [.ref a] ∧ ns.length ≤ 63 ∧ SqL K H a (ns.map V.int) ∧ ∀ (b c : Addr) (H' : Hp) (ms : List Int), Sub H H' → H b = none → H c = none → b ≠ c → ms.length ≤ 63 → H' b = some (.lst [.ref c, .int 0, .int 1]) → H' c = some (.lst (ms.map V.int)) → Q (.ref b) H'
theorem Drawn.go {K : Frg} {B : BX} {μ : Mu} {G H H' : Hp} {b c : Addr} (o : Ok K B μ G H) (hb : B = some (b, c)) (d : Drawn b c H H') : Go K B μ G H μ G H' := by
  obtain ⟨bt, gb, gc⟩ := o.box b c hb
  have kp : ∀ a u, H a = some u → a ≠ b → a ≠ c → H' a = some u := fun a u e n1 n2 => by rw [d.keep a n1 n2]; exact e
  refine ⟨⟨fun a u e => ?_, fun a cc e => ?_, fun b' c' e => ?_, o.tab.up (.refl _) fun a ps e g => ⟨kp a _ e (fun z => by obtain ⟨_, _, _, _, e1, _⟩ := bt; rw [z, e1] at e; cases e) (fun z => by obtain ⟨_, _, _, _, _, e1, _⟩ := bt; rw [z, e1] at e; cases e), g⟩⟩, ⟨.refl _, fun a e => ?_, fun a u e nb _ _ => kp a u e (fun z => nb ⟨b, c, hb, .inl z⟩) (fun z => nb ⟨b, c, hb, .inr z⟩), fun a u e _ => .inl e, fun a e => .inl e⟩⟩
  · exact kp a u (o.sub a u e) (fun z => by rw [z, gb] at e; cases e) (fun z => by rw [z, gc] at e; cases e)
  · obtain ⟨g1, nb, u, e1, r⟩ := o.cell a cc e
    exact ⟨g1, nb, u, kp a u e1 (fun z => nb ⟨b, c, hb, .inl z⟩) (fun z => nb ⟨b, c, hb, .inr z⟩), r⟩
  · rw [hb] at e
    cases e
    exact ⟨d.box, gb, gc⟩
  · by_cases z1 : a = b
    · obtain ⟨u, e1⟩ := d.box.some1
      rw [z1, e1] at e; cases e
    · by_cases z2 : a = c
      · obtain ⟨u, e1⟩ := d.box.some2
        rw [z2, e1] at e; cases e
      · rw [d.keep a z1 z2] at e
        exact e
section
variable {P : Program} {w : World} {K : Frg} {mg : Str → Option Value} {base : Heap} {x qual : Str} {params : Arguments} {body : List Stmt} {scope : Scope} {dvs : List V} {kws : List (Str × V)} {f : Addr} {fd : FuncData} {N ps : List Str} {k : Nat}
theorem fn_box (Fn : FunD K x qual params body scope dvs kws f fd) (S : FnScope N ps scope) (hN : N.length = 2) (hp : ps.length = 1)
    (der : ∀ (pn : List (Addr × Obj)) (cd : Value) (A : Around) (outer : List Env) (s : Shared) (H : Hp) (E : XK), PSs (cxG true pn P w K mg base N qual scope f cd A outer s H E) body (tBox K)) : FnO false P w K mg base (k + 1) f fd ps (spBox K) := by
  refine fn_o false Fn S (fun vs H Q E ⟨a, ns, e, _⟩ => by rw [e, hp] <;> rfl) fun cm pn cd A outer s H vs Q E hcm he hs => ?_
  obtain rfl := hcm rfl
  obtain ⟨a, ns, rfl, hl, hq, h⟩ := hs
  exact ⟨_, der pn cd A outer s H E, box_run hN hl hq h⟩
theorem fn_draw (Fn : FunD K x qual params body scope dvs kws f fd) (S : FnScope N ps scope) (hN : N.length = 7) (hp : ps.length = 2)
    (der : ∀ (pn : List (Addr × Obj)) (cd : Value) (A : Around) (outer : List Env) (s : Shared) (H : Hp) (E : XK), PSs (cxG true pn P w K mg base N qual scope f cd A outer s H E) body (tDraw K)) : FnO false P w K mg base (k + 1) f fd ps (spP K cDraw) := by
  refine fn_o false Fn S (fun vs H Q E ⟨B, μ, G, as, q, z, _, r, hc, _⟩ => by obtain ⟨n, e, _⟩ := cDraw_inv hc; rw [r.length, e, hp] <;> rfl) fun cm pn cd A outer s H vs Q E hcm he hs => ?_
  obtain rfl := hcm rfl
  obtain ⟨B, μ, G, as, q, z, o, r, hc, hq, hx⟩ := hs
  obtain ⟨n, rfl, n0, n1, hq0⟩ := cDraw_inv hc
  refine ⟨_, der pn cd A outer s H E, ?_⟩
  obtain ⟨v0, ws, rfl, r0, r⟩ := r.cons_inv
  obtain ⟨v1, ws, rfl, r1, r⟩ := r.cons_inv
  obtain rfl := r.nil_inv
  obtain ⟨b, c, hb, rfl⟩ := r0.box_inv
  obtain rfl := r1.int_inv
  refine draw_run hN n0 n1 (o.box _ _ hb).1 fun i H' i0 i1 d => ?_
  exact hq (.int i) _ μ G H' (hq0 i i0 i1) (d.go o hb) (rep_int i)
/-- a call by a raw promise -/
def tRaw (W : WX) (sp : Sp) (t : TA) : TE := fun σ H Q => t σ H fun vs H1 => sp vs H1 Q fun cls d H' => W cls d σ H'
theorem pe_raw {X : Cx} {W : WX} {hot : Bool} {k : Nat} {f : Addr} {sp : Sp} {x : Str} {p0 pos : Pos} {e : Expr} {es : List Expr} {t : TA} (Fn : FnS hot X.prog X.w X.K X.mg X.base k f [] sp) (md : Md X hot) (hr : Rm k X.A) (tk : TkI X W) (hm : X.mg x = some (.ref f)) (hk : PySem.W.keepIn X.K (.ref f) = true) (ha : PA X (e :: es) t) (hg : Gl X x := by rfl)
    (h1 : (x == ("__debug__" : Str)) = false := by decide) (h2 : starEach (e :: es) X.env = (false, eval e X.env) :: starEach es X.env := by rfl) (h3 : (backTo pos (starEach es X.env)).any (·.1) = false := by rfl) : PE X (.Call (.Name x p0) (e :: es) [] pos) (tRaw W sp t) := by
  refine ⟨fun pins s σ H Q J h => ?_⟩
  refine wpAny_Call_Name_kw (ld_glob J hg hm ?_ h1)
  refine PySem.W.callWith_K (h₀ := X.base) J.ok.mod.kin hk (thn (ha.run pos pins s σ H _ J h) fun us s1 ⟨vs, H1, J1, r, q1⟩ => ⟨J1.kIn, ?_⟩) h2 h3
  exact run_s (ws := []) Fn md hr tk J1 rfl (by rw [List.append_nil]; exact r) q1
/-- all but the tables -/
def noTb (H : Hp) : Hp := fun a => match H a with
  | some (.tbl _) => none
  | x => x
theorem noTb_sub (H : Hp) : Sub (noTb H) H := fun a o e => by
  unfold noTb at e
  split at e
  · cases e
  · exact e
theorem noTb_none {H : Hp} {a : Addr} (h : H a = none) : noTb H a = none := by
  unfold noTb
  rw [h]
def spLaw (K : Frg) : Sp := fun vs H Q _ => ∃ (a : Addr) (ns : List Int), vs = [.ref a] ∧ ns.length ≤ 63 ∧ SqL K H a (ns.map V.int) ∧ (∀ p ∈ Tbs K, H p.1 = some (.tbl #[])) ∧ ∀ H', Q (.bl true) H'
def lawE (n : Nat) : En := none :: some .box :: List.replicate n none
def lawEnds : DEn := { nx := fun _ _ => False, rt := fun p _ => p = .bl true, xc := fun _ _ _ => False }
def mu0 : Mu := fun _ => none
theorem fn_law {n : Nat} {st : Stmt} {rest : List Stmt} {d : DS} (Fn : FunD K x qual params body scope dvs kws f fd) (S : FnScope N ps scope) (hb : body = st :: rest) (hN : N.length = n + 2) (hp : ps.length = 1)
    (first : ∀ (pn : List (Addr × Obj)) (cd : Value) (A : Around) (outer : List Env) (s : Shared) (H : Hp) (E : XK), Here false (cxG true pn P w K mg base N qual scope f cd A outer s H E) (fun cls dd _ H' => E cls dd H') k →
      PS (cxG true pn P w K mg base N qual scope f cd A outer s H E) st (tAsg (tRaw (fun cls dd _ H' => E cls dd H') (spBox K) (tCons (tVar 0) tNil)) (gName 1)))
    (der : ∀ (pn : List (Addr × Obj)) (cd : Value) (A : Around) (outer : List Env) (s : Shared) (H : Hp) (E : XK), Here false (cxG true pn P w K mg base N qual scope f cd A outer s H E) (fun cls dd _ H' => E cls dd H') k →
      BJ (cxG true pn P w K mg base N qual scope f cd A outer s H E) (fun cls dd _ H' => E cls dd H') rest d)
    (pure_ : d lawEnds (lawE n) mu0) : FnO false P w K mg base (k + 1) f fd ps (spLaw K) := by
  refine fn_o false Fn S (fun vs H Q E ⟨a, ns, e, _⟩ => by rw [e, hp] <;> rfl) fun cm pn cd A outer s H vs Q E hcm he hs => ?_
  obtain rfl := hcm rfl
  obtain ⟨a, ns, rfl, hl, hq, hT, h⟩ := hs
  refine ⟨_, by rw [hb]; exact pss_cons (first pn cd A outer s H E he) (der pn cd A outer s H E he), ?_⟩
  have s0 : L2.start N [.ref a] = some (.ref a) :: none :: List.replicate n none := by
    unfold L2.start
    rw [hN] <;> rfl
  rw [s0]
  refine ⟨_, rfl, a, ns, rfl, hl, hq, fun b c H' ms sub hb hc nbc lm e1 e2 => ?_⟩
  refine ⟨some (b, c), lawE n, mu0, noTb H, lawEnds, ⟨⟨fun a o e => sub a o (noTb_sub H a o e), fun _ _ z => (nomatch z), fun b' c' e => ?_, fun p hp => ⟨by unfold noTb; rw [hT p hp], #[], sub _ _ (hT p hp), True.intro, fun pos cv hc => by
      have z : codeAmong pos [] = some cv := hc
      simp [codeAmong] at z⟩⟩, ?_, fun i t e => ?_⟩, pure_, ⟨fun _ _ _ _ _ z => z.elim, fun p v μ' G' H'' e _ r => ?_, fun _ _ _ _ _ z => z.elim, fun _ _ _ _ _ z => z.elim, fun _ _ _ _ _ _ _ z => z.elim⟩⟩
  · cases e
    exact ⟨⟨nbc, ms, 0, 1, e1, e2, by decide, by decide, by decide, lm⟩, noTb_none hb, noTb_none hc⟩
  · show (List.set (some (V.ref a) :: none :: List.replicate n none) 1 (some (V.ref b))).length = (lawE n).length
    unfold lawE
    simp
  · unfold lawE at e
    match i, e with
    | 0, e => cases e
    | 1, e => cases e; exact ⟨.ref b, rfl, (by show Rep K (some (b, c)) (noTb H) .box (.ref b); simp only [Rep]; exact ⟨b, c, rfl, rfl⟩)⟩
    | i + 2, e =>
      have e : (List.replicate n (none : Option PV))[i]? = some (some t) := e
      rw [List.getElem?_replicate] at e
      split at e <;> cases e
  · have e : p = .bl true := e
    subst e
    obtain rfl := r.bl_inv
    exact h H''
end
section
variable {X : Cx} {W : WX} {y : Str} {py spos : Pos} {elt tg iter : Expr} {ifs : List Expr} {scope : Scope} {own : List (Str × Nat)} {pos : Pos} {di : DI} {dt : DT} {de : DE} {t : Tg}
theorem s_setLC (i : Nat) (hc : X.calm = true) (nd : X.N.Nodup) (hsw : swapsWith (.ListComp elt [⟨tg, iter, ifs, 0⟩] scope pos) (some (.Name y py)) spos.line X.env = pure true) (hi : IJ X W tg iter di) (ok : BlkOk X.N X.env.scope scope own)
    (hg : ∀ (s : Shared) (H : Hp) (C : Addr) (cl : List (Str × Addr)) (fp : List Addr), PG (X.blk s H scope (compEnvC scope cl C X.env) fp) tg (tgOf X.K t)) (ht : ∀ (s : Shared) (H : Hp) (C : Addr) (cl : List (Str × Addr)) (fp : List Addr), TsJ (X.blk s H scope (compEnvC scope cl C X.env) fp) Wno ifs dt)
    (he : ∀ (s : Shared) (H : Hp) (C : Addr) (cl : List (Str × Addr)) (fp : List Addr), EJ (X.blk s H scope (compEnvC scope cl C X.env) fp) Wno elt de) (hw : ∀ i ∈ t.idx, i ∈ own.map (·.2) := by decide) (hy : X.N[i]? = some y := by rfl) (hyl : X.env.scope.names.lookup y = some .local := by rfl) (hs : ∀ x, foldedSetIterable iter X.env x = pure x := by intro _; rfl) :
    SJ X W (.Assign [.Name y py] (.ListComp elt [⟨tg, iter, ifs, 0⟩] scope pos) spos) (dSet i (dNew (lComp t (own.map (·.2)) di dt de))) := ps_imp (ps_setLc (i := i) hc nd hy hyl hsw hi ok hg ht he hs) fun D σ H ⟨B, ρ, μ, G, P, R, h, eo⟩ =>
  tlc_of hw ⟨B, ρ, μ, G, _, _, R, h, fun ps l vs μ' G' H' hp g hl gl ml h2 rs => by
    have g2 := g.take hl h2 gl (R.ok.notB hl) (c := .lst ps) ⟨vs, rfl, rs⟩
    exact eo.nx _ _ _ _ _ (hp l ml) ((R.go g2).set i (rep_cell l)) g2, eo.gx R⟩
/-- .. and it is never changed -/
theorem s_setLN (i : Nat) (hc : X.calm = true) (nd : X.N.Nodup) (hsw : swapsWith (.ListComp elt [⟨tg, iter, ifs, 0⟩] scope pos) (some (.Name y py)) spos.line X.env = pure true) (hi : IJ X W tg iter di) (ok : BlkOk X.N X.env.scope scope own)
    (hg : ∀ (s : Shared) (H : Hp) (C : Addr) (cl : List (Str × Addr)) (fp : List Addr), PG (X.blk s H scope (compEnvC scope cl C X.env) fp) tg (tgOf X.K t)) (ht : ∀ (s : Shared) (H : Hp) (C : Addr) (cl : List (Str × Addr)) (fp : List Addr), TsJ (X.blk s H scope (compEnvC scope cl C X.env) fp) Wno ifs dt)
    (he : ∀ (s : Shared) (H : Hp) (C : Addr) (cl : List (Str × Addr)) (fp : List Addr), EJ (X.blk s H scope (compEnvC scope cl C X.env) fp) Wno elt de) (hw : ∀ i ∈ t.idx, i ∈ own.map (·.2) := by decide) (hy : X.N[i]? = some y := by rfl) (hyl : X.env.scope.names.lookup y = some .local := by rfl) (hs : ∀ x, foldedSetIterable iter X.env x = pure x := by intro _; rfl) :
    SJ X W (.Assign [.Name y py] (.ListComp elt [⟨tg, iter, ifs, 0⟩] scope pos) spos) (dSet i (dLst (lComp t (own.map (·.2)) di dt de))) := ps_imp (ps_setLc (i := i) hc nd hy hyl hsw hi ok hg ht he hs) fun D σ H ⟨B, ρ, μ, G, P, R, h, eo⟩ =>
  tlc_of hw ⟨B, ρ, μ, G, _, _, R, h, fun ps l vs μ' G' H' hp g hl gl ml h2 rs => by
    have g2 := g.take1 hl h2 gl ml (R.ok.notB hl)
    exact eo.nx _ _ _ _ _ hp ((R.go g2).set i (rep_lst upd_same (rs.mono (.upd gl)))) g2, eo.gx R⟩
end
end Px
namespace Px
open PySem PySem.Spec PyProof.Rows L2
theorem relv_ni {v : V} (h : RelV v .notImplemented) : False := by
  cases v <;> first | (obtain ⟨_, h⟩ := h; cases h) | cases h
theorem back_of {X : Cx} {pins : List (Addr × Obj)} {σ : L2.St} {Q : VK} {u : Value} {s' : Shared} (h : EP X pins σ Q u s') : PySem.W.CmpBack (EP X pins σ Q) u s' := by
  cases u
  case notImplemented =>
    obtain ⟨v, H', J, r, _⟩ := h
    exact relv_ni r
  all_goals exact h
section
open PySem.Calls PySem.W
theorem bool_own {prog : Program} {w : World} {A : Around} {E : Value → Shared → Prop} {s : Shared} {K : Frag} {x C f : Addr} {ox : Obj} {od : Option Obj} {Q : Value → Shared → Prop} {h₀ : Heap} {L : Addr} {m : Str → Option Value} (FF : Fr h₀ L s.heap m) (X₀ : K.In h₀) (I : InstAt s.heap x ox C od) (hs : findIn K (.ref C) "__bool__" = some (some (.ref f))) (hf : isFn K (.ref f) = true)
    (h : wpAny (model prog w) A.in1.in1 (call (.ref f) [.ref x]) (PySem.W.BoolBack fun b s' => Q (.bool b) s') E s) : wpAny (model prog w) A (call (.type "bool") [.ref x]) Q E s := by
  refine callType_codes (T := "bool") (Bi := Builtin.«object.__init__») (Q₁ := fun r s₁ => ∃ y, r = .bool y ∧ Q r s₁) PySem.F.called_bool (PySem.F.typeCall_bool_1 _) PySem.F.entry_object_init ?_ ?_
  · refine codeAny_of_tree ?_
    show wpAny _ A.in1.in1 (do checkBuiltinCall "bool.__new__" ⟨[.type "bool", .ref x], []⟩; again (.builtin "bool.__new__" ⟨[.type "bool", .ref x], []⟩)) _ _ s
    refine wpAny_bind (wpAny_of_eq (PySem.F.newCall_bool_1 _) (wpAny_pure ⟨plainId_quiet (by decide +kernel) _, codeAny_builtin PySem.F.entry_bool_new ?_⟩))
    rw [Around.under_plainId (by decide +kernel) _]
    obtain ⟨hp, g, d, tk, os⟩ := s
    have f1 := PySem.F.conv_sub_bool
    repeat (any_goals (first | assumption | (with_reducible refine PySem.W.truthy_K FF X₀ I hs hf (wpAny_mono h (fun u s' hu => ?_) fun _ _ z => z)) | wp_step))
    cases u <;> first | exact hu.elim | skip
    rename_i b
    show wpAny _ _ (ret (Value.bool b)) _ _ _
    exact wpAny_pure ⟨b, rfl, hu⟩
  · rintro obj s₁ ⟨y, rfl, hq⟩
    exact ⟨PySem.typeIs_bool _ _, PySem.F.args_object_init_2 _ _, object_init_meets PySem.F.called_bool.init.lookup PySem.F.called_bool.made (by decide) prog w A.in1 _ s₁ ⟨PySem.typeIs_bool _ _, rfl, hq⟩⟩
end
section
open PySem.Calls PySem.W
/-- a class without __add__ and __radd__ -/
theorem fills_none {M : Model} {h : Heap} {K : Frag} {D : Addr} {nm : String} {cd : ClassData} (X : K.In h) (hc : clsIn K D = some cd) (hm : cd.mro = [.ref D, .type "object"]) (h1 : findIn K (.ref D) (PySem.dunder nm) = some none) (h2 : findIn K (.ref D) (PySem.dunderR nm) = some none)
    (h3 : findIn K (.type "object") (PySem.dunder nm) = some none) (h4 : findIn K (.type "object") (PySem.dunderR nm) = some none) : Looks M h (fillsNumberSlot (.ref D) nm) false := by
  intro A Q E s k q
  have Lm : Looks M h (mroOf (.ref D)) cd.mro := (looks_clsIn X hc).andThen (f := fun cd => pure cd.mro) .now
  have Lm' := Lm.keeps k
  obtain ⟨hh, g, d, tt, os⟩ := s
  have X' : K.In hh := X.keeps k
  have L1 : Looks M hh (typeLookup (.ref D) (PySem.dunder nm)) none := looks_findIn X' h1
  have L2 : Looks M hh (typeLookup (.ref D) (PySem.dunderR nm)) none := looks_findIn X' h2
  have L3 : Looks M hh (typeLookup (.type "object") (PySem.dunder nm)) none := looks_findIn X' h3
  have L4 : Looks M hh (typeLookup (.type "object") (PySem.dunderR nm)) none := looks_findIn X' h4
  unfold fillsNumberSlot
  refine wpAny_bind (Lm'.at ?_)
  rw [hm, List.anyM_cons]
  refine wpAny_bind ?_
  repeat lk
  exact q
theorem binop_other {prog : Program} {w : World} {A : Around} {E : Value → Shared → Prop} {s : Shared} {K : Frag} {x C L f D : Addr} {h₀ : Heap} {m : Str → Option Value} {ox : Obj} {od : Option Obj} {op : Operator} {b : Value} {cd' : ClassData} {Q : Value → Shared → Prop} (F : Fr h₀ L s.heap m) (X₀ : K.In h₀) (I : InstAt s.heap x ox C od) (hb : Looks (model prog w) s.heap (typeOf b) (.ref D)) (ne : D ≠ C) (hc : selfFirst K C = true)
    (hs : findIn K (.ref C) (PySem.dunder op.info.2) = some (some (.ref f))) (hf : isFn K (.ref f) = true) (hd : clsIn K D = some cd') (hm' : cd'.mro = [.ref D, .type "object"]) (h1 : findIn K (.ref D) (PySem.dunder op.info.2) = some none) (h2 : findIn K (.ref D) (PySem.dunderR op.info.2) = some none)
    (h3 : findIn K (.type "object") (PySem.dunder op.info.2) = some none) (h4 : findIn K (.type "object") (PySem.dunderR op.info.2) = some none)
    (h : wpAny (model prog w) A (call (.ref f) [.ref x, b]) (PySem.W.CmpBack Q) E s) : wpAny (model prog w) A (binaryOp op (.ref x) b) Q E s := by
  have X := X₀.keeps F.keep
  obtain ⟨cd, rest, hcd, hm⟩ := ksp_first hc
  rcases hi : op.info with ⟨sym, nm'⟩
  rw [hi] at hs h1 h2 h3 h4
  dsimp only at hs h1 h2 h3 h4
  have one := ksp_try X I hs hf h
  obtain ⟨hh, g, d, tt, os⟩ := s
  have L1 : Looks (model prog w) hh (typeOf (.ref x)) (.ref C) := I.type
  have L2 : Looks (model prog w) hh (typeOf b) (.ref D) := hb
  have L3 : Looks (model prog w) hh (fillsNumberSlot (.ref C) nm') true := fills_K X hcd hm hs
  have L4 : Looks (model prog w) hh (fillsNumberSlot (.ref D) nm') false := fills_none X hd hm' h1 h2 h3 h4
  have hne : (Value.ref C == Value.ref D) = false := Bool.eq_false_iff.mpr fun q => by cases beq_iff_eq.mp q; exact ne rfl
  simp only [binaryOp, hi]
  refine wpAny_holding (wpAny_bind ?_)
  unfold binaryOp1
  refine wpAny_bind (L1.at (wpAny_bind (L2.at (wpAny_bind (L3.at ?_)))))
  simp only [hne, Bool.false_eq_true, if_false]
  ksp_lk
  refine wpAny_mono one (fun r s' hr' => ?_) fun _ _ e => e
  obtain ⟨v, rfl, hq⟩ := hr'
  ksp_lk
  exact hq
end
def ownB (tab : Cl → Option Ct) : FO := fun a b μ q x => match a with
  | .obj c xs => (match b with
    | .obj d ys => br (decide (d = c)) (match tab c with
      | some ct => ct [.obj c xs, .obj d ys] μ q x
      | none => False) False
    | _ => False)
  | _ => False
def binD (f : F2) (tab : Cl → Option Ct) : FO := fun a b μ q x => match a with
  | .obj c xs => ownB tab (.obj c xs) b μ q x
  | a => f μ a b (fun p => q p μ)
theorem ownB_inv {tab : Cl → Option Ct} {a b : PV} {μ : Mu} {q : QV} {x : QX} (h : ownB tab a b μ q x) : ∃ c xs ys ct, a = .obj c xs ∧ b = .obj c ys ∧ tab c = some ct ∧ ct [a, b] μ q x := by
  cases a with
  | obj c xs =>
    cases b with
    | obj d ys =>
      obtain ⟨e, h⟩ := br_and h
      have e := of_decide_eq_true e
      subst e
      cases e2 : tab d with
      | none => simp only [e2] at h
      | some ct => simp only [e2] at h; exact ⟨d, xs, ys, ct, rfl, rfl, e2, h⟩
    | _ => exact h.elim
  | _ => exact h.elim
section
variable {X : Cx} {W : WX} {hot : Bool} {k : Nat} {m : Str} {pos : Pos} {a b : Expr} {da db : DE} {tab : Cl → Option Ct}
theorem inst_at {pins : List (Addr × Obj)} {σ : L2.St} {H : Hp} {s : Shared} {p C dx : Addr} {fs : List (Str × V)} (J : Inv X pins σ H s) (e : H p = some (.ins C dx fs)) : ∃ od, PySem.W.InstAt s.heap p (PySem.W.instObj C dx) C (some od) := by
  obtain ⟨mA, O, _⟩ := ins_get J.hok e
  obtain ⟨od, I, _⟩ := O.look
  exact ⟨od, I⟩
theorem oj_own {op : Operator} (T : MTab hot X k m [] tab) (sf : ∀ c ct, tab c = some ct → PySem.W.selfFirst X.K (ca X.K c) = true) (md : Md X hot) (hr : Rm k X.A) (tk : TkI X W) (hop : PySem.dunder op.info.2 = m := by rfl) : OpJ X W (binaryOp op) (ownB tab) := fun pins s σ H B ρ μ G p r va vb u u2 q z Q J R rp rr rv rw2 h gv gx => by
  obtain ⟨c, fs, gs, ct, rfl, rfl, et, hc⟩ := ownB_inv h
  obtain ⟨x, dx, vs, rfl, _, ex, _⟩ := rp.obj_inv
  obtain ⟨y, dy, ws, rfl, _, ey, _⟩ := rr.obj_inv
  obtain rfl : u = Value.ref x := rv
  obtain rfl : u2 = Value.ref y := rw2
  obtain ⟨_, f, _, me, Fn⟩ := T c ct et
  obtain ⟨od, I1⟩ := inst_at J (R.ok.sub _ _ ex)
  obtain ⟨od2, I2⟩ := inst_at J (R.ok.sub _ _ ey)
  obtain ⟨mm, fr⟩ := J.fr
  exact PySem.W.binop_K fr J.ok.mod.kin I1 I2.type (sf c ct et) (by rw [hop]; exact me.at_) me.fn (wpAny_mono (run_s (us := [.ref x, .ref y]) (ws := []) (vs := [.ref x, .ref y]) (Q := Q) Fn md hr tk J rfl (by rw [List.append_nil]; exact .cons rfl (.cons rfl .nil)) (spP_of R (.cons rp (.cons rr .nil)) hc gv gx)) (fun _ _ z => back_of z) fun _ _ z => z)
/-- own + own, of one class or of another one that bo knows -/
def ownA (tab : Cl → Option Ct) (bo : Cl → Bool) : FO := fun a b μ q x => match a with
  | .obj c xs => (match b with
    | .obj d ys => br (decide (d = c) || bo d) (match tab c with
      | some ct => ct [.obj c xs, .obj d ys] μ q x
      | none => False) False
    | _ => False)
  | _ => False
def binA (f : F2) (tab : Cl → Option Ct) (bo : Cl → Bool) : FO := fun a b μ q x => match a with
  | .obj c xs => ownA tab bo (.obj c xs) b μ q x
  | a => f μ a b (fun p => q p μ)
theorem oj_add_own {bo : Cl → Bool} (T : MTab hot X k "__add__" [] tab) (sf : ∀ c ct, tab c = some ct → PySem.W.selfFirst X.K (ca X.K c) = true) (hbo : ∀ d, bo d = true → noAddB X.K d = true) (md : Md X hot) (hr : Rm k X.A) (tk : TkI X W) : OpJ X W (binaryOp .Add) (ownA tab bo) := fun pins s σ H B ρ μ G p r va vb u u2 q z Q J R rp rr rv rw2 h gv gx => by
  cases p with
  | obj c fs =>
    cases r with
    | obj d gs =>
      obtain ⟨e, h⟩ := br_and h
      by_cases ecd : d = c
      · exact (oj_own (op := .Add) T sf md hr tk) pins s σ H B ρ μ G _ _ va vb u u2 q z Q J R rp rr rv rw2 (show ownB tab (.obj c fs) (.obj d gs) μ q z from ⟨fun _ => h, fun z => by rw [decide_eq_true ecd] at z; cases z⟩) gv gx
      · have e : bo d = true := by rcases Bool.or_eq_true_iff.mp e with z | z; exact absurd (of_decide_eq_true z) ecd; exact z
        cases et : tab c with
        | none => simp only [et] at h
        | some ct =>
          simp only [et] at h
          obtain ⟨x, dx, vs, rfl, k1, ex, _⟩ := rp.obj_inv
          obtain ⟨y, dy, ws, rfl, k2, ey, _⟩ := rr.obj_inv
          obtain rfl : u = Value.ref x := rv
          obtain rfl : u2 = Value.ref y := rw2
          obtain ⟨_, f, _, me, Fn⟩ := T c ct et
          obtain ⟨od, I1⟩ := inst_at J (R.ok.sub _ _ ex)
          obtain ⟨od2, I2⟩ := inst_at J (R.ok.sub _ _ ey)
          obtain ⟨mm, fr⟩ := J.fr
          have hn := hbo d e
          obtain ⟨n0, hn⟩ := He.ba hn
          obtain ⟨n1, hn⟩ := He.ba hn
          obtain ⟨n2, hn⟩ := He.ba hn
          obtain ⟨n3, n4⟩ := He.ba hn
          obtain ⟨cd, hcd, hm⟩ := PySem.W.any_some n0
          have hm := of_decide_eq_true hm
          have ne : ca X.K d ≠ ca X.K c := fun z => by
            have f1 : PySem.W.findIn X.K (.ref (ca X.K c)) (PySem.dunder "add") = some (some (.ref f)) := me.at_
            rw [← z, of_decide_eq_true n1] at f1
            cases f1
          exact binop_other fr J.ok.mod.kin I1 I2.type ne (sf c ct et) me.at_ me.fn hcd hm (of_decide_eq_true n1) (of_decide_eq_true n2) (of_decide_eq_true n3) (of_decide_eq_true n4) (wpAny_mono (run_s (us := [.ref x, .ref y]) (ws := []) (vs := [.ref x, .ref y]) (Q := Q) Fn md hr tk J rfl (by rw [List.append_nil]; exact .cons rfl (.cons rfl .nil)) (spP_of R (.cons rp (.cons rr .nil)) h gv gx)) (fun _ _ z => back_of z) fun _ _ z => z)
    | _ => exact h.elim
  | _ => exact h.elim
theorem OpJ.withAdd {op : Value → Value → Sem Value} {f : F2} {bo : Cl → Bool} (h : OpJ X W op (fo f)) (g : OpJ X W op (ownA tab bo)) : OpJ X W op (binA f tab bo) := h.or g fun a b μ q x z => by
  cases a with
  | obj c xs => exact .inr z
  | _ => exact .inl z
theorem OpJ.withOwn {op : Value → Value → Sem Value} {f : F2} (h : OpJ X W op (fo f)) (g : OpJ X W op (ownB tab)) : OpJ X W op (binD f tab) := h.or g fun a b μ q x z => by
  cases a with
  | obj c xs => exact .inr z
  | _ => exact .inl z
theorem run_in {A' : Around} {pins : List (Addr × Obj)} {σ : L2.St} {H : Hp} {s : Shared} {Q : VK} {f : Addr} {sp : Sp} {us : List Value} {vs : List V} {E : Value → Shared → Prop} (Fn : FnS hot X.prog X.w X.K X.mg X.base k f [] sp) (hc : Md X hot) (hf : A'.frames = X.A.frames) (hh : A'.handled = X.A.handled) (hr : Rm k A') (J : Inv X pins σ H s)
    (r : Vals vs us) (h : sp vs H Q (fun _ _ _ => False)) : wpAny (model X.prog X.w) A' (call (.ref f) us) (EP X pins σ Q) E s := by
  have e := J.env0
  have e0 : Env0 X.prog X.w X.K X.mg X.base A' X.stack s H := ⟨by rw [hf]; exact e.frames, e.mod, e.bs, e.bsz, e.funs, e.frf, e.hok, e.bare⟩
  have hm : A'.handled = none ∨ (hot = true ∧ ∃ p, L2H.Hot1 A' p ∧ L2H.PinOk X.stack H s p) := by
    rcases hc with z | ⟨z, p, hp, mem⟩
    · exact .inl (by rw [hh]; exact J.ok.hd z)
    · have P1 := J.pin p (List.mem_append_left _ mem)
      exact .inr ⟨z, p, ⟨by rw [hh]; exact hp.1, hp.2⟩, ⟨P1.1, P1.2.1, fun hq => (List.mem_cons.mp (J.stkSub p.1 hq)).elim P1.2.2.1 P1.2.2.2.1, P1.2.2.2.2⟩⟩
  refine wpAny_call (codeAny_mono (Fn A' X.stack s H us [] vs Q _ hm hr e0 rfl (by rw [List.append_nil]; exact r) h) fun rr s' hq => ?_)
  cases rr with
  | error er =>
    have z : XI X Wno er s' := XI.of_call J (fun _ _ _ z => z) hq
    obtain ⟨_, _, _, _, _, _, _, _, _, _, _, _, _, _, _, _, w⟩ := z
    exact w.elim
  | ok fl =>
    cases fl with
    | ret u => exact J.after hq
    | next => exact False.elim hq
    | brk => exact False.elim hq
    | cont => exact False.elim hq
theorem room_in {k n : Nat} {A : Around} (h : Rm (k + 1) A) (hn : n ≤ 16) : Rm k { A with units := A.units + n } := ⟨by have := h.dp; show A.depth + 3 * k + 5 < _; omega, by have := h.un; show A.units + n + 16 * k + 200 < _; omega, h.gd⟩
theorem spP_ok {K : Frg} {ct : Ct} {B : BX} {μ : Mu} {G H : Hp} {ps : List PV} {vs : List V} {q : QV} {Q : VK} (o : Ok K B μ G H) (r : Reps K B G ps vs) (h : ct ps μ q (fun _ _ => False)) (gv : GoodV K B μ G H q Q) : spP K ct vs H Q (fun _ _ _ => False) :=
  ⟨B, μ, G, ps, q, fun _ _ => False, o, r, h, gv, fun _ _ _ _ _ z => z.elim⟩
/-- what a builtin does with an own object: the def's promise, its value in ok -/
def rOwn1 (K : Frg) (tab : Cl → Option Ct) (ok : V → Prop) : List V → Hp → VK → Prop := fun vs H Q => ∃ c ct x dx ws, tab c = some ct ∧ vs = [.ref x] ∧ H x = some (.ins (ca K c) dx ws) ∧ spP K ct vs H (fun v H' => ok v ∧ Q v H') (fun _ _ _ => False)
def own1 (tab : Cl → Option Ct) (ok : QV → QV) : FC := fun ps μ q _ => match ps with
  | [.obj c xs] => (match tab c with
    | some ct => ct [.obj c xs] μ (ok q) noX
    | none => False)
  | _ => False
theorem cj_own {fn : Value} {ok : QV → QV} {okv : V → Prop} (h1 : ∀ (B : BX) (G : Hp) p v q μ, ok q p μ → Rep X.K B G p v → okv v ∧ q p μ) (ho : CallR X fn (rOwn1 X.K tab okv)) : CaJ X W fn (own1 tab ok) := fun pins s σ H B ρ μ G ps vs us q x Q J R rs ru h gv gx => by
  unfold own1 at h
  split at h
  · rename_i c xs
    cases et : tab c with
    | none => simp only [et] at h
    | some ct =>
      simp only [et] at h
      refine ho pins s σ H vs us Q J ru ?_
      obtain ⟨v, ws, rfl, r1, rn⟩ := rs.cons_inv
      obtain rfl := rn.nil_inv
      obtain ⟨y, dx, ys, rfl, _, ey, _⟩ := r1.obj_inv
      exact ⟨c, ct, y, dx, _, et, rfl, R.ok.sub _ _ ey, spP_ok R.ok rs h fun p v μ' G' H' hp g rr => by
        obtain ⟨o1, o2⟩ := h1 _ _ p v q μ' hp rr
        exact ⟨o1, gv p v μ' G' H' o2 g rr⟩⟩
  · exact h.elim
def okLen (q : QV) : QV := fun p μ => match p with
  | .int n => 0 ≤ n ∧ n < 2 ^ 63 ∧ q (.int n) μ
  | _ => False
def okStr (q : QV) : QV := fun p μ => match p with
  | .str z => q (.str z) μ
  | _ => False
def okBl (q : QV) : QV := fun p μ => match p with
  | .bl z => q (.bl z) μ
  | _ => False
theorem ow_len {K : Frg} (B : BX) (G : Hp) (p : PV) (v : V) (q : QV) (μ : Mu) (h : okLen q p μ) (r : Rep K B G p v) : (∃ n : Int, v = .int n ∧ 0 ≤ n ∧ n < 2 ^ 63) ∧ q p μ := by
  cases p with
  | int n => exact ⟨⟨n, r.int_inv, h.1, h.2.1⟩, h.2.2⟩
  | _ => exact h.elim
theorem ow_str {K : Frg} (B : BX) (G : Hp) (p : PV) (v : V) (q : QV) (μ : Mu) (h : okStr q p μ) (r : Rep K B G p v) : (∃ z : Str, v = .str z) ∧ q p μ := by
  cases p with
  | str n => exact ⟨⟨n, r.str_inv⟩, h⟩
  | _ => exact h.elim
theorem ow_bl {K : Frg} (B : BX) (G : Hp) (p : PV) (v : V) (q : QV) (μ : Mu) (h : okBl q p μ) (r : Rep K B G p v) : (∃ z : Bool, v = .bl z) ∧ q p μ := by
  cases p with
  | bl n => exact ⟨⟨n, r.bl_inv⟩, h⟩
  | _ => exact h.elim
theorem cr_len (T : MTab hot X k "__len__" [] tab) (hc : Md X hot) (hr : Rm (k + 1) X.A) : CallR X (.builtin "len") (rOwn1 X.K tab fun v => ∃ n : Int, v = .int n ∧ 0 ≤ n ∧ n < 2 ^ 63) := by
  intro pins s σ H xs us Q J r h
  obtain ⟨c, ct, x, dx, ws, et, rfl, ex, hs⟩ := h
  obtain ⟨_, f, _, me, Fn⟩ := T c ct et
  cases r with
  | cons r0 rn =>
    cases rn
    cases r0
    obtain ⟨od, I⟩ := inst_at J ex
    obtain ⟨mm, fr⟩ := J.fr
    refine PySem.W.len_K fr J.ok.mod.kin I me.at_ me.fn (wpAny_mono (run_in (A' := X.A.in1) (vs := [.ref x]) Fn hc rfl rfl (room_in hr (n := 1) (by decide)) J (.cons rfl .nil) hs) (fun u s' hu => ?_) fun _ _ z => z)
    obtain ⟨v, H', J', rv, ⟨n, rfl, n0, n1⟩, hQ⟩ := hu
    obtain ⟨t, rfl⟩ := rv
    exact ⟨⟨n0, n1⟩, .int n, H', J'.tok _, ⟨_, rfl⟩, hQ⟩
theorem cr_repr (T : MTab hot X k "__repr__" [] tab) (hc : Md X hot) (hr : Rm (k + 1) X.A) : CallR X (.builtin "repr") (rOwn1 X.K tab fun v => ∃ z : Str, v = .str z) := by
  intro pins s σ H xs us Q J r h
  obtain ⟨c, ct, x, dx, ws, et, rfl, ex, hs⟩ := h
  obtain ⟨_, f, _, me, Fn⟩ := T c ct et
  cases r with
  | cons r0 rn =>
    cases rn
    cases r0
    obtain ⟨od, I⟩ := inst_at J ex
    obtain ⟨mm, fr⟩ := J.fr
    refine PySem.W.repr_K (by have := hr.un; show X.A.units + 1 < _; omega) fr J.ok.mod.kin I me.at_ me.fn (wpAny_mono (run_in (A' := X.A.in1) (vs := [.ref x]) Fn hc rfl rfl (room_in hr (n := 1) (by decide)) J (.cons rfl .nil) hs) (fun u s' hu => ?_) fun _ _ z => z)
    obtain ⟨v, H', J', rv, ⟨z, rfl⟩, hQ⟩ := hu
    obtain ⟨t, rfl⟩ := rv
    exact ⟨.str z, H', J', ⟨_, rfl⟩, hQ⟩
theorem cr_str (T : MTab hot X k "__str__" [] tab) (hc : Md X hot) (hr : Rm (k + 1) X.A) : CallR X (.type "str") (rOwn1 X.K tab fun v => ∃ z : Str, v = .str z) := by
  intro pins s σ H xs us Q J r h
  obtain ⟨c, ct, x, dx, ws, et, rfl, ex, hs⟩ := h
  obtain ⟨_, f, _, me, Fn⟩ := T c ct et
  cases r with
  | cons r0 rn =>
    cases rn
    cases r0
    obtain ⟨od, I⟩ := inst_at J ex
    refine PySem.W.kso_call (by have := hr.un; show X.A.units + 1 + 1 < _; omega) J.kIn I me.at_ me.fn (wpAny_mono (run_in (A' := X.A.in1.in1) (vs := [.ref x]) Fn hc rfl rfl (room_in hr (n := 2) (by decide)) J (.cons rfl .nil) hs) (fun u s' hu => ?_) fun _ _ z => z)
    obtain ⟨v, H', J', rv, ⟨z, rfl⟩, hQ⟩ := hu
    obtain ⟨t, rfl⟩ := rv
    exact ⟨.str z, H', J', ⟨_, rfl⟩, hQ⟩
theorem cr_bool (T : MTab hot X k "__bool__" [] tab) (hc : Md X hot) (hr : Rm (k + 1) X.A) : CallR X (.type "bool") (rOwn1 X.K tab fun v => ∃ z : Bool, v = .bl z) := by
  intro pins s σ H xs us Q J r h
  obtain ⟨c, ct, x, dx, ws, et, rfl, ex, hs⟩ := h
  obtain ⟨_, f, _, me, Fn⟩ := T c ct et
  cases r with
  | cons r0 rn =>
    cases rn
    cases r0
    obtain ⟨od, I⟩ := inst_at J ex
    obtain ⟨mm, fr⟩ := J.fr
    refine bool_own fr J.ok.mod.kin I me.at_ me.fn (wpAny_mono (run_in (A' := X.A.in1.in1) (vs := [.ref x]) Fn hc rfl rfl (room_in hr (n := 2) (by decide)) J (.cons rfl .nil) hs) (fun u s' hu => ?_) fun _ _ z => z)
    obtain ⟨v, H', J', rv, ⟨z, rfl⟩, hQ⟩ := hu
    cases rv
    exact ⟨.bl z, H', J', rfl, hQ⟩
/-- a builtin of one value: own objects answer by their table -/
def bltD (f : Mu → List PV → (PV → Prop) → Prop) (tab : Cl → Option Ct) (ok : QV → QV) : FC := fun ps μ q x => match ps with
  | [.obj c xs] => own1 tab ok [.obj c xs] μ q x
  | ps => f μ ps (fun p => q p μ)
theorem CaJ.withOwn {fn : Value} {f : Mu → List PV → (PV → Prop) → Prop} {ok : QV → QV} (h : CaJ X W fn (fc f)) (g : CaJ X W fn (own1 tab ok)) : CaJ X W fn (bltD f tab ok) := h.or g fun ps μ q x z => by
  unfold bltD at z
  split at z
  · exact .inr z
  · exact .inl z
theorem cj_lenO (T : MTab hot X k "__len__" [] tab) (hc : Md X hot) (hr : Rm (k + 1) X.A) : CaJ X W (.builtin "len") (bltD fLen tab okLen) := cj_len.withOwn (cj_own ow_len (cr_len T hc hr))
theorem cj_boolO (T : MTab hot X k "__bool__" [] tab) (hc : Md X hot) (hr : Rm (k + 1) X.A) : CaJ X W (.type "bool") (bltD fBool tab okBl) := cj_bool.withOwn (cj_own ow_bl (cr_bool T hc hr))
theorem cj_reprO (T : MTab hot X k "__repr__" [] tab) (hc : Md X hot) (hr : Rm (k + 1) X.A) : CaJ X W (.builtin "repr") (own1 tab okStr) := cj_own ow_str (cr_repr T hc hr)
/-- str(..) of an int -/
def fStr : Mu → List PV → (PV → Prop) → Prop := fun _ ps q => match ps with
  | [.int i] => i.natAbs.log2 < 1920 ∧ q (.str (toString i))
  | _ => False
theorem pcl_str {K : Frg} : PCl K (fun xs H Q => ∃ i, xs = [.int i] ∧ i.natAbs.log2 < 1920 ∧ Q (.str (toString i)) H) fStr := fun B μ G H ps vs q Q o rs h gv => by
  unfold fStr at h
  split at h
  · exact ⟨_, rs.int1, h.1, gv _ _ _ _ h.2 (.refl o) (rep_str _)⟩
  · exact h.elim
theorem cj_strO (T : MTab hot X k "__str__" [] tab) (hc : Md X hot) (hr : Rm (k + 1) X.A) : CaJ X W (.type "str") (bltD fStr tab okStr) := CaJ.withOwn (.of call_str_int pcl_str) (cj_own ow_str (cr_str T hc hr))
def trD (tab : Cl → Option Ct) : FT := fun p μ q x => match p with
  | .bl b => q b μ
  | .obj c xs => (match tab c with
    | some ct => ct [.obj c xs] μ (qB q) noX
    | none => False)
  | _ => False
theorem tj_own (T : MTab hot X k "__bool__" [] tab) (hc : Md X hot) (hr : Rm k X.A) : TrJ X W (trD tab) := fun pins s σ H B ρ μ G p v u q x Q J R rp ru h gv gx => by
  cases p with
  | bl b =>
    rw [rp.bl_inv] at ru
    cases ru
    exact wpAny_truthy_bool ⟨H, J, gv b μ G H h (.refl R.ok)⟩
  | obj c fs =>
    unfold trD at h
    cases et : tab c with
    | none => simp only [et] at h
    | some ct =>
      simp only [et] at h
      obtain ⟨y, dx, vs, rfl, _, ey, _⟩ := rp.obj_inv
      obtain rfl : u = Value.ref y := ru
      obtain ⟨_, f, _, me, Fn⟩ := T c ct et
      obtain ⟨od, I⟩ := inst_at J (R.ok.sub _ _ ey)
      obtain ⟨mm, fr⟩ := J.fr
      refine PySem.W.truthy_K fr J.ok.mod.kin I me.at_ me.fn (wpAny_mono (run_in (A' := X.A) (vs := [.ref y]) (Q := fun v H' => ∃ b, v = .bl b ∧ Q b H') Fn hc rfl rfl hr J (.cons rfl .nil) (spP_ok R.ok (.cons rp .nil) h fun p v μ' G' H' h0 g rr => ?_)) (fun w s' hw => ?_) fun _ _ z => z)
      · obtain ⟨b, rfl, hb⟩ := qB_inv h0
        exact ⟨b, rr.bl_inv, gv b μ' G' H' hb g⟩
      · obtain ⟨z, H', J', rz, b, rfl, hQ⟩ := hw
        cases rz
        exact ⟨H', J', hQ⟩
  | _ => exact h.elim
def inD (tab : Cl → Option Ct) : FO := fun y p μ q x => match p with
  | .obj c xs => (match tab c with
    | some ct => ct [.obj c xs, y] μ (okBl q) noX
    | none => False)
  | p => inF false μ y p (fun r => q r μ)
theorem oj_inO (T : MTab hot X k "__contains__" [] tab) (hc : Md X hot) (hr : Rm k X.A) : OpJ X W (compareOp .In) (inD tab) := by
  refine OpJ.or (f := fo (inF false)) (g := fun y p μ q x => ∃ c xs ct, p = .obj c xs ∧ tab c = some ct ∧ ct [p, y] μ (okBl q) noX) oj_in (fun pins s σ H B ρ μ G y p vy vp uy up q x Q J R ry rp ruy rup ⟨c, xs, ct, e, et, h⟩ gv gx => ?_) fun y p μ q x h => ?_
  · subst e
    obtain ⟨z, dx, vs, rfl, _, ez, _⟩ := rp.obj_inv
    obtain rfl : up = Value.ref z := rup
    obtain ⟨_, f, _, me, Fn⟩ := T c ct et
    obtain ⟨od, I⟩ := inst_at J (R.ok.sub _ _ ez)
    obtain ⟨mm, fr⟩ := J.fr
    refine PySem.W.in_K fr J.ok.mod.kin I me.at_ me.fn (wpAny_mono (run_in (A' := X.A) (vs := [.ref z, vy]) (Q := fun v H' => ∃ b, v = .bl b ∧ Q (.bl b) H') Fn hc rfl rfl hr J (.cons rfl (.cons ruy .nil)) (spP_ok R.ok (.cons rp (.cons ry .nil)) h fun p v μ' G' H' h0 g rr => ?_)) (fun w s' hw => ?_) fun _ _ z => z)
    · cases p with
      | bl b => obtain rfl := rr.bl_inv; exact ⟨b, rfl, gv _ _ _ _ _ h0 g (rep_bl b)⟩
      | _ => exact h0.elim
    · obtain ⟨zz, H', J', rz, b, rfl, hQ⟩ := hw
      cases rz
      exact wpAny_truthy_bool ⟨.bl b, H', J', rfl, hQ⟩
  · cases p with
    | obj c xs =>
      unfold inD at h
      cases et : tab c with
      | none => simp only [et] at h
      | some ct => simp only [et] at h; exact .inr ⟨c, xs, ct, rfl, et, h⟩
    | _ => exact .inl h
end
end Px
namespace Px
open PySem PySem.Spec PyProof.Rows L2
open NdefX (NF NScope CellsAt startF envF ncx inv_startN)
open PySem.W (findIn typeIn keepIn subIn clsIn nsIn codeIn alongIn fnX envX)
section
variable {P : Program} {w : World} {K : Frg} {mg : Str → Option Value} {base : Heap} {x qual : Str} {params : Arguments} {body : List Stmt} {scope : Scope} {kws : List (Str × V)} {f : Addr} {fd : FuncData} {ps ks : List Str} {k : Nat} {sp : Sp}
/-- parameters by place, then those of ks by keyword -/
def BindsK (fd : FuncData) (ps ks : List Str) : Prop := ∀ (s : Shared) (us ws : List Value), ws.length = ks.length → us.length + ws.length = ps.length → BindsTo s fd ⟨us, ks.zip ws⟩ (ps.zip (us ++ ws))
theorem bindsK_of (F : FunD K x qual params body scope [] kws f fd) (h : ∀ (kV doc pm : Value) (an : Option Addr) (cdv ct : Value) (us ws : List Value), ws.length = ks.length → us.length + ws.length = ps.length → bindArgs (PySem.W.fnOf x qual params body scope .none kV doc pm an cdv ct) ⟨us, ks.zip ws⟩ = pure (ps.zip (us ++ ws))) : BindsK fd ps ks := by
  obtain ⟨oc, od, dV, kV, doc, pm, an, cdv, ct, osl, rfl, lk, hcd, hD, _⟩ := F.ex
  rcases hD with ⟨_, rfl⟩ | ⟨e, _⟩
  · exact fun s us ws h1 h2 => BindsTo.of_eq (h kV doc pm an cdv ct us ws h1 h2)
  · exact absurd rfl e
theorem FnO.sK {hot : Bool} (Fn : FnO hot P w K mg base k f fd ps sp) (b : BindsK fd ps ks) : FnS hot P w K mg base k f ks sp := fun A outer s H us ws vs Q E hm hr e0 hl r h => by
  have hv : us.length + ws.length = ps.length := by
    rw [← List.length_append, ← r.length]
    exact Fn.calm.len _ _ _ _ h
  have bb := b s us ws hl hv
  rcases hm with z | ⟨z, p, h1, h2⟩
  · exact Fn.calm.run A outer s H ⟨us, ks.zip ws⟩ (us ++ ws) vs Q E ⟨z, hr.dp, hr.un, hr.gd⟩ e0 bb r h
  · exact (Fn.hot z).run A outer s H ⟨us, ks.zip ws⟩ (us ++ ws) vs Q E p hr h1 h2 e0 bb r h
end
structure SupF (P : Program) (K : Frg) (f D : Addr) (x qual : Str) (params : Arguments) (body : List Stmt) (scope : Scope) (kwd : List (Str × V)) (cda cc : Addr) : Prop where
  fn : ∃ (oc : Value) (od : Option Addr) (kV doc pm : Value) (an : Option Addr) (ct : Value) (osl : Array (Option Value)), K.lookup f = some ⟨oc, od, .func (fnX x qual params body scope [("__class__", cc)] .none kV doc pm an (.ref cda) ct), osl⟩ ∧ KwdV K kV kwd
  cd : codeIn K (.ref cda) qual = true
  cel : ∃ o : Obj, K.lookup cc = some o ∧ o.data = .cell (some (.ref D))
  fil : ∃ (o : Obj) (vs : Array Value) (file : Str) (tf : Tok), K.lookup cda = some o ∧ o.data = .fields vs ∧ vs[2]? = some (.str file tf) ∧ ((P.main.file : Str) == file) = true
  cls : ∃ c, clsIn K D = some c
  sup : (P.main.scope.names.lookup ("super" : Str)).isSome = false
  op : nsIn K cStatics "thirdparty.any" = some none
/-- in objects of the class at C: super().m is the def at f2 -/
structure SupM (K : Frg) (C D : Addr) (m : Str) (f2 : Addr) : Prop where
  sub : subIn K (.ref C) (.ref D) = some true
  at_ : PySem.W.ks_superIn K C D m = some (some (.ref f2))
  ty : typeIn K (.ref f2) = some (.type "function")
  fi : PySem.W.fnIn K f2 = true
  nm : (m == ("__class__" : Str)) = false
section
variable {X : Cx} {f D C x cda cc f2 L : Addr} {nm qual m : Str} {kwd : List (Str × V)} {params : Arguments} {body : List Stmt} {scope : Scope} {pins : List (Addr × Obj)} {σ : L2.St} {H : Hp} {s : Shared} {dx : Addr} {ws : List (Str × V)}
/-- super(), then .m: a bound method, pinned -/
theorem sup_meth {E : Value → Shared → Prop} {body' : List Stmt} {p0 p1 : Pos} {ar : Arg} {pl : Sem Bool} {whole : Sem Value} {Q : Value → Shared → Prop} {cont : Value → List Value → Sem Value} (T : SupF X.prog X.K f D nm qual params body scope kwd cda cc) (M : SupM X.K C D m f2) (J : Inv X pins σ H s) (hC : Cls X.K C) (henv : X.env = envX qual scope L f (.ref cda) [("__class__", cc)])
    (hk : scope.kind = .function) (hks : scope.names.lookup ("super" : Str) = some .globalImplicit) (hkc : scope.names.lookup ("__class__" : Str) = some .free) (hka : scope.names.lookup ar.arg = some .local) (hp : (params.posonlyargs ++ params.args).head? = some ar) (hN : X.N[0]? = some ar.arg) (h0 : σ[0]? = some (some (.ref x))) (hx : H x = some (.ins C dx ws))
    (hsu : X.mg "super" = none)
    (h : ∀ q s', Inv X ((q, PySem.W.methodObj (.ref f2) (.ref x)) :: pins) σ H s' → wpAny (model X.prog X.w) X.A (cont (.ref q) []) Q E s') :
    _root_.PySem.wpAt (model X.prog X.w) X.A (.func body' X.env) (attributeBase (.Call (.Name "super" p0) [] [] p1) m X.env whole) (fun ov s₁ => wpAny (model X.prog X.w) X.A (getMethod ov m pl) (fun fx s₂ => wpAny (model X.prog X.w) X.A (cont fx.1 fx.2) Q E s₂) E s₁) E s := by
  obtain ⟨oc, od, kV, doc, pm, an, ct, osl, ho, _⟩ := T.fn
  obtain ⟨o2, hcc, hcell⟩ := T.cel
  obtain ⟨o3, vs, file, tf, hcda, hfl, hvs, hfile⟩ := T.fil
  obtain ⟨cdD, hD⟩ := T.cls
  have KX := J.kIn
  obtain ⟨mA, O, _⟩ := ins_get J.hok hx
  obtain ⟨odx, I, _⟩ := O.look
  obtain ⟨oD, hD1, hD2⟩ : ∃ oD, s.heap.get? D = some oD ∧ oD.data = .cls cdD := by
    unfold clsIn at hD
    split at hD
    · rename_i c d cd' sl hd
      cases hD
      exact ⟨_, KX _ _ hd, rfl⟩
    · cases hD
  obtain ⟨mm, hn, hloc⟩ := J.loc
  obtain ⟨u, ru, l⟩ := hloc 0 ar.arg (.ref x) hN h0 (.inl (by rw [henv]; exact hka))
  obtain rfl : u = Value.ref x := ru
  have hself : mm ar.arg = some (.ref x) := by
    rcases l with ⟨_, hm⟩ | ⟨hk', _⟩
    · exact hm
    · have hk' : X.env.scope.names.lookup ar.arg = some .cell ∨ X.env.scope.names.lookup ar.arg = some .free := hk'
      rw [henv] at hk'
      have e : scope.names.lookup ar.arg = some .local := hka
      rcases hk' with z | z
      · have z : scope.names.lookup ar.arg = some .cell := z
        rw [e] at z; cases z
      · have z : scope.names.lookup ar.arg = some .free := z
        rw [e] at z; cases z
  obtain ⟨mb, hb1, hb2⟩ := J.mod.blt
  have hkc' : X.env.kindOf ("__class__" : Str) = some .free := by rw [henv]; exact hkc
  have hks' : X.env.kindOf ("super" : Str) = some .globalImplicit := by rw [henv]; exact hks
  have hka' : X.env.kindOf ar.arg = some .local := by rw [henv]; exact hka
  have hkk : X.env.scope.kind = .function := by rw [henv]; exact hk
  refine ks_wpAt_super_base (env := X.env) (f := f) (cc := cda) hks' hkc' M.nm (by rw [henv]) (KX _ _ ho) rfl hp (by rw [henv]) (KX _ _ hcda) hfl hvs hfile T.sup ?_
  refine PySem.W.ks_loadName_global hkk hks' (Calls.loadGlobal_builtin (env := X.env) (by rw [J.ok.glob]; exact J.mod.glob.keeps J.bk) hsu (by rw [J.ok.blt]; exact hb1.keeps J.bk) ((hb2 _ (by decide)).trans (by decide +kernel)) ⟨rfl, ?_⟩)
  refine wpAny_loadName_free hkk hkc' (c := cc) (by rw [henv]; simp [envX, List.lookup]) ⟨o2, KX _ _ hcc, hcell⟩ ?_
  refine wpAny_loadName_local hkk hka' hn hself ?_
  refine ks_wpAny_isType_cls hD1 hD2 ⟨rfl, ?_⟩
  refine ks_wpAny_call_super hD1 hD2 I.at_ I.cls (fun c e => ?_) (PySem.W.looks_subIn KX M.sub) fun h1 hso k1 => ?_
  · have := I.no
    unfold PySem.W.notCls at this
    rw [e] at this
    exact Bool.noConfusion this
  · obtain ⟨hp, g, dd, tk, os⟩ := s
    have J1 : Inv X pins σ H ⟨h1, g, dd, tk, os⟩ := J.kept (t' := tk) k1
    have KX1 := J1.kIn
    obtain ⟨mA1, O1, _⟩ := ins_get J1.hok hx
    obtain ⟨odx1, I1, _⟩ := O1.look
    cases hc : clsIn X.K C with
    | none =>
      have z := M.at_
      unfold PySem.W.ks_superIn at z
      rw [hc] at z; cases z
    | some cd =>
      have hm := M.at_
      unfold PySem.W.ks_superIn at hm
      rw [hc] at hm
      obtain ⟨of, hof, hofc⟩ : ∃ of, h1.get? f2 = some of ∧ of.cls = .type "function" := by
        have ht' : (X.K.lookup f2).map (·.cls) = some (.type "function") := M.ty
        cases z : X.K.lookup f2 with
        | none => rw [z] at ht'; cases ht'
        | some of => rw [z] at ht'; exact ⟨of, KX1 _ _ z, Option.some.inj ht'⟩
      refine ks_wpAny_getMethod_super hso (PySem.W.looks_opaque KX1 T.op) (l₀ := cd.mro) ?_ rfl KX1 hm hof hofc (PySem.W.ks_ne KX1 I1 hc) M.nm ?_
      · exact fun A Q E s k q => wpAny_bind ((PySem.W.looks_clsIn KX1 hc) A _ E s k (wpAny_pure q))
      · exact h _ _ (ClX.met_new J1)
end
/-- super().m(e, .., k=..) as the whole body: an __init__ -/
def dSup (tab : Cl → Option Ct) (n : Nat) (ds dk : DA) : DS := fun P ρ μ => match nth ρ 0 with
  | some p => (match rcv μ p with
    | some c => (match tab c with
      | some ct => ds ρ μ (fun ps μ1 => dk ρ μ1 (fun zs μ2 => zs.length = n ∧ ct (p :: (ps ++ zs)) μ2 (fun _ μ3 => P.nx ρ μ3) (fun xv μ3 => P.xc xv ρ μ3)) (fun xv μ3 => P.xc xv ρ μ3)) (fun xv μ3 => P.xc xv ρ μ3)
      | none => False)
    | none => False)
  | none => False
/-- the context of such a def's body -/
abbrev cxS (P : Program) (w : World) (K : Frg) (mg : Str → Option Value) (base : Heap) (N : List Str) (F : NF) (f : Addr) (A : Around) (outer : List Env) (s : Shared) (H : Hp) (E : XK) : Cx := ncx (CXI K P w) P w K mg base N F f A outer s H E
section
variable {P : Program} {w : World} {K : Frg} {mg : Str → Option Value} {base : Heap} {k : Nat} {f D cda cc : Addr} {nm qual m : Str} {kwd : List (Str × V)} {params : Arguments} {body : List Stmt} {scope : Scope} {N ps ks : List Str}
theorem here_S {F : NF} {A : Around} {outer : List Env} {s : Shared} {H : Hp} {E : XK} (hr : Rm k (A.deeper (envF F f s.heap.objs.size))) : Here false (cxS P w K mg base N F f A outer s H E) (fun cls dd _ H' => E cls dd H') k :=
  ⟨.inl rfl, hr, takesI_of rfl rfl rfl rfl, L2.passes_of rfl⟩
/-- what super().m means in an object of the class c -/
def STab (K : Frg) (P : Program) (w : World) (mg : Str → Option Value) (base : Heap) (k : Nat) (D : Addr) (m : Str) (ks : List Str) (tab : Cl → Option Ct) : Prop := ∀ c ct, tab c = some ct → m ∉ c.flds ∧ Cls K (ca K c) ∧ ∃ f2, SupM K (ca K c) D m f2 ∧ FnS false P w K mg base k f2 ks (spP K ct)
/-- what such a def's body does, at the place -/
def BodyOk (P : Program) (w : World) (K : Frg) (mg : Str → Option Value) (base : Heap) (k : Nat) (f cda cc : Addr) (nm qual : Str) (params : Arguments) (body : List Stmt) (scope : Scope) (N : List Str) (c : Ct) : Prop :=
  ∀ (A : Around) (outer : List Env) (s : Shared) (H : Hp) (vs : List V) (Q : VK) (E : XK) (s1 : Shared), Rm k (A.deeper (envF ⟨nm, qual, params, body, scope, [("__class__", cc)], cda⟩ f s.heap.objs.size)) → spP K c vs H Q E →
      Inv (cxS P w K mg base N ⟨nm, qual, params, body, scope, [("__class__", cc)], cda⟩ f A outer s H E) [] (L2.start N vs) H s1 →
      _root_.PySem.wpAt (model P w) (cxS P w K mg base N ⟨nm, qual, params, body, scope, [("__class__", cc)], cda⟩ f A outer s H E).A (.func body (envF ⟨nm, qual, params, body, scope, [("__class__", cc)], cda⟩ f s.heap.objs.size)) (execs body (envF ⟨nm, qual, params, body, scope, [("__class__", cc)], cda⟩ f s.heap.objs.size))
        (fun fl s' => match fl with
          | .ret u => ∃ v H' σ', Inv (cxS P w K mg base N ⟨nm, qual, params, body, scope, [("__class__", cc)], cda⟩ f A outer s H E) [] σ' H' s' ∧ RelV v u ∧ Q v H'
          | .next => ∃ H' σ', Inv (cxS P w K mg base N ⟨nm, qual, params, body, scope, [("__class__", cc)], cda⟩ f A outer s H E) [] σ' H' s' ∧ Q .non H'
          | _ => False) (cxS P w K mg base N ⟨nm, qual, params, body, scope, [("__class__", cc)], cda⟩ f A outer s H E).xe s1
/-- how the values of a call are bound: ds, the defaults' values -/
def BndOk (K : Frg) (nm qual : Str) (params : Arguments) (body : List Stmt) (scope : Scope) (kwd : List (Str × V)) (cda cc : Addr) (ps ks : List Str) (dv : List V) : Prop := ∀ kV : Value, KwdV K kV kwd → ∃ ds : List Value, Vals dv ds ∧ ∀ (s : Shared) (doc pm : Value) (an : Option Addr) (ct : Value) (us ws : List Value), K.In s.heap → ws.length = ks.length → (us ++ ws ++ ds).length = ps.length →
  BindsTo s (fnX nm qual params body scope [("__class__", cc)] .none kV doc pm an (.ref cda) ct) ⟨us, ks.zip ws⟩ (ps.zip (us ++ ws ++ ds))
/-- such a def, by its body at the place -/
theorem fn_at {c : Ct} {dv : List V} {dp : List PV} (T : SupF P K f D nm qual params body scope kwd cda cc) (S : NScope N ps ["__class__"] scope) (hb : BndOk K nm qual params body scope kwd cda cc ps ks dv) (rd : ∀ B G, Reps K B G dp dv)
    (len : ∀ as μ q z, c as μ q z → as.length = ps.length) (hbody : BodyOk P w K mg base k f cda cc nm qual params body scope N c) :
    FnS false P w K mg base (k + 1) f ks (spP K fun as μ q z => c (as ++ dp) μ q z) := fun A outer s H us wz vs' Q E hm hr e0 hl r' h' => by
  have hd : A.handled = none := by
    rcases hm with z | ⟨z, _⟩
    · exact z
    · cases z
  obtain ⟨oc, od, kV, doc, pm, an, ct, osl, ho, hkw⟩ := T.fn
  obtain ⟨ds, rv, hb⟩ := hb kV hkw
  obtain ⟨vs, evs⟩ : ∃ vs, vs = vs' ++ dv := ⟨_, rfl⟩
  have h : spP K c vs H Q E := by
    obtain ⟨B, μ, G, as, q, z, o, rr, hc, hq⟩ := h'
    exact ⟨B, μ, G, as ++ dp, q, z, o, by rw [evs]; exact rr.append (rd _ _), hc, hq⟩
  have r : Vals vs (us ++ wz ++ ds) := by rw [evs]; exact r'.append rv
  have KX : K.In s.heap := e0.mod.kin.keeps fun b o e => (e0.bs b o e).1
  have lim : s.heap.NoLimit := e0.mod.nolimit.keeps fun b o e => (e0.bs b o e).1
  have hlen : vs.length = ps.length := by
    obtain ⟨B, μ, G, as, q, z, _, rr, hc, _⟩ := h
    rw [rr.length]; exact len as μ q z hc
  have hv : (us ++ wz ++ ds).length = ps.length := by rw [← r.length]; exact hlen
  obtain ⟨o2, hcc, hcell⟩ := T.cel
  have hcB : base.get? cc = some o2 := e0.mod.kin _ _ hcc
  have CA : CellsAt [("__class__", cc)] ["__class__"] [none] s.heap H := by
    refine ⟨rfl, fun y c0 e => ?_, fun x y c0 e1 e2 => ?_, fun i y e => ?_⟩
    · have e : (if (y == ("__class__" : Str)) = true then some cc else none) = some c0 := by
        have := e
        simp only [List.lookup] at this
        split at this
        · rename_i z; rw [if_pos z]; exact this
        · cases this
      split at e
      · cases e
        exact ⟨(e0.bs _ _ hcB).2, _, o2, KX _ _ hcc, hcell⟩
      · cases e
    · have key : ∀ z : Str, ([("__class__", cc)] : List (Str × Addr)).lookup z = some c0 → z = "__class__" := fun z hz => by
        simp only [List.lookup] at hz
        split at hz
        · rename_i q; exact beq_iff_eq.mp q
        · cases hz
      rw [key x e1, key y e2]
    · match i, e with
      | 0, e =>
        cases e
        refine ⟨cc, by simp [List.lookup], fun v hv => by cases hv⟩
      | i + 1, e => simp at e
  have hNl : ps.length + 1 ≤ N.length := by
    have q := congrArg List.length S.pre
    rw [List.length_take, List.length_append] at q
    simp only [List.length_cons, List.length_nil] at q
    omega
  have hst : startF N vs [none] = L2.start N vs := by
    unfold startF L2.start
    have e : N.length - vs.length = (N.length - vs.length - 1) + 1 := by omega
    rw [e, List.replicate_succ]
    rfl
  refine ks_codeAny_call_defAt (binds := ps.zip (us ++ wz ++ ds)) (by have := hr.dp; omega) (KX _ _ ho) rfl lim (PySem.W.codeRec_of KX T.cd) rfl (hb s doc pm an ct us wz KX hl hv) S.nocell (fun y hy => S.par y.1 (List.of_mem_zip hy).1) (fun h0 hns k0 => ?_) S.co S.gen S.kind
  have J0 := inv_startN (CX := CXI K P w) (P := P) (w := w) (K := K) (mg := mg) (base := base) (E := E) (f := f) (F := ⟨nm, qual, params, body, scope, [("__class__", cc)], cda⟩) (tk := s.toks + (ps.zip (us ++ wz ++ ds)).length) S hd e0 hlen r CA hns k0
  rw [hst] at J0
  refine ks_wpAt_mono (hbody A outer s H vs Q E _ (hr.deeper _) h J0) (fun fl s' hs => ?_) fun e s' z => z
  have fin : ∀ {σ' : L2.St} {H' : Hp} {v : V} {u : Value}, Inv (cxS P w K mg base N ⟨nm, qual, params, body, scope, [("__class__", cc)], cda⟩ f A outer s H E) [] σ' H' s' → RelV v u → Q v H' → CE outer P w H s Q u s' :=
    fun {σ' H' v u} J rv q => ⟨v, H', J.os, J.bare, J.base, J.hok, rv, q⟩
  cases fl with
  | ret u =>
    obtain ⟨v, H', σ', J, rv, q⟩ := hs
    exact fin J rv q
  | next =>
    obtain ⟨H', σ', J, q⟩ := hs
    exact fin (v := V.non) (u := Value.none) J rfl q
  | brk => exact hs.elim
  | cont => exact hs.elim
theorem BndOk.all (hb : ∀ (kV doc pm : Value) (an : Option Addr) (ct : Value) (us ws : List Value), ws.length = ks.length → us.length + ws.length = ps.length → bindArgs (fnX nm qual params body scope [("__class__", cc)] .none kV doc pm an (.ref cda) ct) ⟨us, ks.zip ws⟩ = pure (ps.zip (us ++ ws))) : BndOk K nm qual params body scope kwd cda cc ps ks [] := fun kV _ =>
  ⟨[], .nil, fun s doc pm an ct us ws _ h1 h2 => by
    rw [List.append_nil] at h2 ⊢
    exact BindsTo.of_eq (hb kV doc pm an ct us ws h1 (by rw [← List.length_append]; exact h2))⟩
/-- the keyword-only ones are left out -/
theorem BndOk.dfl (n : Nat) (hk : kwd ≠ []) (hn : n + kwd.length = ps.length) (h : ∀ (D0 : Addr) (doc pm : Value) (an : Option Addr) (ct : Value) (us vs : List Value), us.length = n → vs.length = kwd.length →
      KwChain D0 ((kwd.map (·.1)).zip vs) (bindArgs (fnX nm qual params body scope [("__class__", cc)] .none (.ref D0) doc pm an (.ref cda) ct) ⟨us, []⟩) (ps.zip (us ++ vs))) : BndOk K nm qual params body scope kwd cda cc ps [] (kwd.map (·.2)) := fun kV hK => by
  rcases hK with e | ⟨D0, rfl, hq⟩
  · exact absurd e hk
  · obtain ⟨vs, hl, rk, hks⟩ := kwd_vals hq
    refine ⟨vs, rk, fun s doc pm an ct us ws X h1 h2 => ?_⟩
    have hw : ws = [] := List.eq_nil_of_length_eq_zero h1
    subst hw
    rw [List.append_nil] at h2 ⊢
    have l2 : us.length = n := by
      rw [List.length_append, hl] at h2
      omega
    exact BindsTo.of_looks fun M => KwChain.looks X hks (h D0 doc pm an ct us vs l2 hl)
theorem FnS.nil {hot : Bool} {g : Addr} {c : Ct} (F : FnS hot P w K mg base k g ks (spP K fun as μ q z => c (as ++ []) μ q z)) : FnS hot P w K mg base k g ks (spP K c) := by
  have e : (fun as μ q z => c (as ++ []) μ q z) = c := by
    funext as μ q z
    rw [List.append_nil]
  rw [e] at F
  exact F
end
section
variable {X : Cx} {W : WX} {k : Nat} {ks : List Str}
theorem run_cmsK {pins : List (Addr × Obj)} {σ : L2.St} {H : Hp} {s : Shared} {C u g : Addr} {sp : Sp} {Q : VK} {us wz : List Value} {vs : List V} (Fn : FnS false X.prog X.w X.K X.mg X.base k g ks sp) (hc : X.calm = true) (hr : Rm k X.A) (tk : TkI X W) (J : Inv X ((u, PySem.W.methodObj (.ref g) (.ref C)) :: pins) σ H s)
    (hl : wz.length = ks.length) (r : Vals vs (us ++ wz)) (h : sp (.ref C :: vs) H Q (fun cls d H' => W cls d σ H')) : wpAny (model X.prog X.w) X.A (call (.ref u) us (ks.zip wz)) (EP X pins σ Q) X.xe s := by
  refine wpAny_call (ks_codeAny_call_bound (ClX.pin_at J) (codeAny_mono (Fn X.A X.stack s H (.ref C :: us) wz (.ref C :: vs) Q _ (.inl (J.ok.hd hc)) hr J.env0 hl (.cons rfl r) h) fun rr s' hq => ?_))
  cases rr with
  | error er => exact tk er s' (XI.of_call (ClX.unpin J) (fun _ _ _ z => z) hq)
  | ok fl =>
    cases fl with
    | ret u => exact ClX.unpinE (J.after hq)
    | next => exact False.elim hq
    | brk => exact False.elim hq
    | cont => exact False.elim hq
end
section
variable {P : Program} {w : World} {K : Frg} {mg : Str → Option Value} {base : Heap} {k : Nat} {f D cda cc : Addr} {nm qual m : Str} {kwd : List (Str × V)} {params : Arguments} {scope : Scope} {N ps ks k2 : List Str} {e : Expr} {es : List Expr} {kws : List Keyword} {p0 p1 p2 pos pos' : Pos} {c : Ct} {ds dk : DA} {tab : Cl → Option Ct} {ar : Arg}
theorem body_supI (T : SupF P K f D nm qual params [.Expr (.Call (.Attribute (.Call (.Name "super" p0) [] [] p1) m p2) (e :: es) kws pos) pos'] scope kwd cda cc) (S : NScope N ps ["__class__"] scope)
    (ST : STab K P w mg base k D m k2 tab) (hsu : mg "super" = none)
    (hks : scope.names.lookup ("super" : Str) = some .globalImplicit) (hkc : scope.names.lookup ("__class__" : Str) = some .free) (hka : scope.names.lookup ar.arg = some .local) (hp : (params.posonlyargs ++ params.args).head? = some ar) (hN : N[0]? = some ar.arg)
    (der : ∀ (F : NF) (A : Around) (outer : List Env) (s : Shared) (H : Hp) (E : XK), F.scope = scope → F.qual = qual → Here false (cxS P w K mg base N F f A outer s H E) (fun cls dd _ H' => E cls dd H') k → AJ (cxS P w K mg base N F f A outer s H E) (fun cls dd _ H' => E cls dd H') (e :: es) ds ∧ KJ (cxS P w K mg base N F f A outer s H E) (fun cls dd _ H' => E cls dd H') kws dk)
    (pure_ : ∀ as μ q z, c as μ q z → dSup tab k2.length ds dk (endsOf q z) (startE N.length as) μ)
    (hev : ∀ env : Env, ∃ pl : Sem Bool, eval (.Call (.Attribute (.Call (.Name "super" p0) [] [] p1) m p2) (e :: es) kws pos) env = (do
      let ov ← attributeBase (.Call (.Name "super" p0) [] [] p1) m env (eval (.Call (.Name "super" p0) [] [] p1) env)
      standAt p2.atName
      let (g, first) ← holding [ov] (getMethod ov m pl)
      callWith pos g first (backTo pos (starEach (e :: es) env)) (backToKw pos (keywordEach kws env))))
    (hst : ∀ env : Env, starEach (e :: es) env = (false, eval e env) :: starEach es env) (k1 : ∀ env : Env, (backToKw pos (keywordEach kws env)).all (·.1.isSome) = true) (kk : ∀ env : Env, (backToKw pos (keywordEach kws env)).filterMap (·.1) = k2)
    (h3 : ∀ env : Env, ((backTo pos (starEach (e :: es) env)).any (·.1) || (backToKw pos (keywordEach kws env)).any (·.1.isNone)) = false) (hsw : ∀ env : Env, swapsWith (.Call (.Attribute (.Call (.Name "super" p0) [] [] p1) m p2) (e :: es) kws pos) none pos'.line env = pure false) (hit : ∀ L, interactive (envX qual scope L f (.ref cda) [("__class__", cc)]) = false) :
    BodyOk P w K mg base k f cda cc nm qual params [.Expr (.Call (.Attribute (.Call (.Name "super" p0) [] [] p1) m p2) (e :: es) kws pos) pos'] scope N c := fun A outer s H vs Q E s1 hr hsp J => by
  have he : Here false (cxS P w K mg base N ⟨nm, qual, params, [.Expr (.Call (.Attribute (.Call (.Name "super" p0) [] [] p1) m p2) (e :: es) kws pos) pos'], scope, [("__class__", cc)], cda⟩ f A outer s H E) (fun cls dd _ H' => E cls dd H') k := here_S hr
  obtain ⟨ha, hkw⟩ := der _ A outer s H E rfl rfl he
  obtain ⟨B, μ, G, as, q, z, o, r, hc, gq, gz⟩ := hsp
  have R : Rel K B (startE N.length as) μ (L2.start N vs) G H := rel_start o r
  have hd := pure_ as μ q z hc
  unfold dSup at hd
  cases e0 : nth (startE N.length as) 0 with
  | none => simp only [e0] at hd
  | some p =>
    simp only [e0] at hd
    cases e1 : rcv μ p with
    | none => simp only [e1] at hd
    | some c0 =>
      simp only [e1] at hd
      cases e2 : tab c0 with
      | none => simp only [e2] at hd
      | some ct =>
        simp only [e2] at hd
        obtain ⟨hmf, hcl, f2, M, Fn⟩ := ST c0 ct e2
        obtain ⟨v, ev, rp⟩ := R.at_ 0 p (nth_some e0)
        obtain ⟨x, dx, ws, rfl, hx, hlk⟩ := rcv_ok R.ok rp e1 hmf
        obtain ⟨pl, hev'⟩ := hev (envX qual scope s.heap.objs.size f (.ref cda) [("__class__", cc)])
        refine ks_wpAt_execs_cons (ks_wpAt_Expr_any ?_ (hit _) (hsw _))
        show _root_.PySem.wpAt _ _ _ (eval (.Call (.Attribute (.Call (.Name "super" p0) [] [] p1) m p2) (e :: es) kws pos) (envX qual scope s.heap.objs.size f (.ref cda) [("__class__", cc)])) _ _ _
        rw [hev']
        refine _root_.PySem.wpAt_bind (_root_.PySem.wpAt_mono (sup_meth (X := cxS P w K mg base N ⟨nm, qual, params, [.Expr (.Call (.Attribute (.Call (.Name "super" p0) [] [] p1) m p2) (e :: es) kws pos) pos'], scope, [("__class__", cc)], cda⟩ f A outer s H E) (pl := pl) (cont := fun g first => callWith pos g first (backTo pos (starEach (e :: es) (envX qual scope s.heap.objs.size f (.ref cda) [("__class__", cc)]))) (backToKw pos (keywordEach kws (envX qual scope s.heap.objs.size f (.ref cda) [("__class__", cc)]))))
          T M J hcl rfl S.kind hks hkc hka hp hN ev hx hsu (fun q' s' J2 => ?_)) (fun ov s₁ h₁ => _root_.PySem.wpAt_of_wpAny (wpAny_bind (wpAny_standAt (wpAny_bind (wpAny_holding (wpAny_mono h₁ (fun fx s₂ h₂ => h₂) fun _ _ x => x)))))) fun _ _ x => x)
        have X0 := he.tk
        refine PySem.W.callWith_of (P := PySem.W.MethP K q' f2 (.ref x)) (h3 _) (PySem.W.keeps_M M.fi) (evalArgs_kw2 (k1 _) (thn (ha.run pos _ s' _ H (fun us H1 => tA K (fun cls dd _ H' => E cls dd H') dk (L2.start N vs) H1 fun zs H2 => zs.length = k2.length ∧ spP K ct (.ref x :: (us ++ zs)) H2 (fun _ H3 => Q .non H3) (fun cls dd H' => E cls dd H')) J2
          ⟨B, _, μ, G, _, _, R, hd, fun as1 us1 μ1 G1 H1 h1 g1 r1 => ⟨B, _, μ1, G1, _, _, R.go g1, h1, fun zs ws2 μ2 G2 H2 ⟨hz, h2⟩ g2 r2 => ⟨by rw [r2.length]; exact hz, ⟨B, μ2, G2, _, _, _, g2.ok, .cons (rp.mono (g1.trans g2).gx) ((r1.mono g2.gx).append r2), h2, fun p3 v3 μ3 G3 H3 h3 g3 r3 => gq _ _ μ3 G3 H3 h3 ((g1.trans g2).trans g3) rep_non, fun xv d μ3 G3 H3 h3 g3 r3 => gz xv d μ3 G3 H3 h3 ((g1.trans g2).trans g3) r3⟩⟩, fun xv d μ3 G3 H3 h3 g3 r3 => gz xv d μ3 G3 H3 h3 (g1.trans g3) r3⟩, fun xv d μ3 G3 H3 h3 g3 r3 => gz xv d μ3 G3 H3 h3 g3 r3⟩) fun us s2 ⟨us1, H1, J3, ru, q1⟩ => ?_) (hst _))
        refine thn (hkw.run pos _ s2 _ H1 _ J3 q1) fun wz s3 ⟨zs, H2, J4, rz, hz, q2⟩ => ⟨⟨ClX.pin_at J4, J4.kIn⟩, ?_⟩
        rw [kk]
        refine wpAny_mono (run_cmsK Fn rfl hr he.tk J4 (by rw [← rz.length]; exact hz) (ru.append rz) q2) (fun u s4 hu => ?_) fun _ _ z => z
        obtain ⟨v4, H4, J5, rv4, q4⟩ := hu
        show _root_.PySem.wpAt _ _ _ (execs [] _) _ _ _
        exact _root_.PySem.wpAt_of_wpAny (wpAny_execs_nil ⟨H4, _, J5, q4⟩)
end
theorem SupD.supF {P : Program} {K : Frg} {e : SupD} {file : Str} (v : supV K e = e.val) (c : e.ok file K = true) (hfile : (P.main.file == file) = true) (hs : (P.main.scope.names.lookup ("super" : Str)).isSome = false) : ∃ cda cc, SupF P K (supAd K e) (ca K e.c) e.m e.qual e.params e.body e.scope (e.kws K) cda cc := by
  obtain ⟨c1, c⟩ := He.ba c
  obtain ⟨c2, c13⟩ := He.ba c
  unfold supV at v
  cases q : K.lookup (supAd K e) with
  | none => rw [q] at c13; cases c13
  | some o =>
    obtain ⟨oc, od, dt, osl⟩ := o
    rw [q] at c13 v
    cases dt with
    | func fd =>
      obtain ⟨n1, n2, n3, n4, n5, n6, n7, n8, n9, n10, n11, n12, n13, n14, n15⟩ := fd
      have e2 : (some (n1, n2, n3, n4, n5, n6, [], n15) : FnV) = some (e.m, e.qual, e.params, .stmts e.body, e.scope, mainGlobals, [], builtinsNs) := v
      simp only [Option.some.injEq, Prod.mk.injEq] at e2
      obtain ⟨h1, h2, h3, h4, h5, h6, _, h8⟩ := e2
      subst h1 h2 h3 h4 h5 h6 h8
      cases n13 with
      | ref cda =>
        match n7, c13 with
        | [(x, cc)], c13 =>
          obtain ⟨f0, c14⟩ := He.ba c13
          have f0 : n8 = Value.none := of_decide_eq_true f0
          obtain ⟨f1, c15⟩ := He.ba c14
          obtain ⟨f2, c16⟩ := He.ba c15
          obtain ⟨f3, c17⟩ := He.ba c16
          obtain ⟨f4, f5⟩ := He.ba c17
          clear c14 c15 c16 c17 c13
          subst f0
          have f1 : x = "__class__" := of_decide_eq_true f1
          subst f1
          cases qc : K.lookup cc with
          | none => rw [qc] at f3; cases f3
          | some o2 =>
            obtain ⟨oc2, od2, dt2, osl2⟩ := o2
            rw [qc] at f3
            cases dt2 with
            | cell cv =>
              match cv, f3 with
              | some (.ref C), f3 =>
                have f3 : C = ca K e.c := of_decide_eq_true f3
                subst f3
                cases qd : K.lookup cda with
                | none => rw [qd] at f4; cases f4
                | some o3 =>
                  obtain ⟨oc3, od3, dt3, osl3⟩ := o3
                  rw [qd] at f4
                  cases dt3 with
                  | fields vs =>
                    cases qv : vs[2]? with
                    | none => simp only [qv] at f4; cases f4
                    | some vv =>
                      simp only [qv] at f4
                      cases vv with
                      | str z tz =>
                        have f4 : z = file := of_decide_eq_true f4
                        subst f4
                        exact ⟨cda, cc, ⟨oc, od, n9, n10, n11, n12, n14, osl, by first | exact q | rfl, He.kwdB_ok f5⟩, f2, ⟨_, by first | exact qc | rfl, rfl⟩, ⟨_, vs, z, tz, by first | exact qd | rfl, rfl, qv, hfile⟩, Option.isSome_iff_exists.mp c1, hs, of_decide_eq_true c2⟩
                      | _ => cases f4
                  | _ => cases f4
            | _ => cases f3
      | _ => cases c13
    | _ => cases c13
/-- super().m in objects of the class c, told in the class d: the def of the class b -/
theorem supMB_ok {K : Frg} {c d b : Cl} {m : Str} (h : supMB K c d b m = true) : SupM K (ca K c) (ca K d) m (He.ma K (ca K b) m) := by
  obtain ⟨h1, h⟩ := He.ba h
  obtain ⟨h2, h⟩ := He.ba h
  obtain ⟨h3, h⟩ := He.ba h
  obtain ⟨h4, h5⟩ := He.ba h
  exact ⟨of_decide_eq_true h1, of_decide_eq_true h2, of_decide_eq_true h3, h4, by simpa using h5⟩
end Px
namespace Px
open PySem PySem.Spec PyProof.Rows L2
section
variable {X : Cx} {W : WX} {pos : Pos} {a b : Expr} {da db : DE}
/-- sep.join(xs) -/
def joinP (a r : PV) (μ : Mu) (q : QV) : Prop := match a with
  | .str z => (match seqOf μ r with
    | some (_, xs) => ∃ ys : List Str, xs = ys.map .str ∧ (ys.map (·.length)).sum + ys.length * z.length ≤ 16777216 ∧ q (.str (Txt.join z ys)) μ
    | none => False)
  | _ => False
def dJoin (da db : DE) : DE := fun ρ μ q x => da ρ μ (fun p μ1 => (match p with | .str _ => True | _ => False) ∧ db ρ μ1 (fun r μ2 => joinP p r μ2 q) x) x
theorem e_join {apos : Pos} (ha : EJ X W a da) (hb : EJ X W b db) (hs : starEach [b] X.env = [(false, eval b X.env)] := by rfl) (hbase : attributeBase a "join" X.env (eval a X.env) = eval a X.env := by rfl) (hline : (apos.endLine == pos.line) = true := by rfl) :
    EJ X W (.Call (.Attribute a "join" apos) [b] [] pos) (dJoin da db) := pe_imp (pe_join ha hb hs hbase hline) fun σ H Q ⟨B, ρ, μ, G, q, x, R, h, gv, gx⟩ =>
  ⟨B, ρ, μ, G, _, x, R, h, fun p v μ1 G1 H1 ⟨e, h1⟩ g1 r1 => by
    cases p with
    | str z =>
      obtain rfl := r1.str_inv
      refine ⟨⟨z, rfl⟩, B, ρ, μ1, G1, _, x, R.go g1, h1, fun r w μ2 G2 H2 h2 g2 r2 => ?_, gx.go g1⟩
      unfold joinP at h2
      cases e2 : seqOf μ2 r with
      | none => simp only [e2] at h2
      | some zz =>
        obtain ⟨t, xs⟩ := zz
        simp only [e2] at h2
        obtain ⟨ys, rfl, hl, hq⟩ := h2
        obtain ⟨p, vs, rfl, rs, hh⟩ := seq_ok g2.ok r2 e2
        rw [rs.strs] at hh
        refine ⟨z, p, ys, rfl, rfl, ?_, hl, gv _ _ _ _ _ hq (g1.trans g2) (rep_str _)⟩
        rcases hh with ⟨_, hh⟩ | ⟨_, hh⟩
        · exact .inl (.inl (.inl hh))
        · exact .inr hh
    | _ => exact e.elim, gx⟩
end
end Px
namespace Px
open PySem PySem.Spec PyProof.Rows L2
theorem strsOf_ok {K : Frg} {B : BX} {G : Hp} : ∀ {vs : List Value} {zs : List Str}, strsOf vs = some zs → Vals (zs.map V.str) vs
  | [], zs, h => by cases h; exact .nil
  | v :: vs, zs, h => by
    unfold strsOf at h
    split at h
    · rename_i z t
      split at h
      · rename_i ws e
        cases h
        exact .cons ⟨t, rfl⟩ (strsOf_ok (K := K) (B := B) (G := G) e)
      · cases h
    · cases h
theorem tupB_ok {K : Frg} {zs : List Str} {v : Value} (h : tupB K zs v = true) : ∃ a, v = .ref a ∧ ∀ B G, Rep K B G (.ctup (zs.map .str)) (.ref a) := by
  unfold tupB at h
  split at h
  · rename_i a
    split at h
    · rename_i o lk
      obtain ⟨h1, h⟩ := He.ba h
      split at h
      · rename_i its n ed
        obtain ⟨h2, h3⟩ := He.ba h
        refine ⟨a, rfl, fun B G => rep_ctup (vs := zs.map V.str) (.inr ⟨o, its, n, lk, of_decide_eq_true h1, ed, of_decide_eq_true h2, strsOf_ok (K := K) (B := B) (G := G) (of_decide_eq_true h3)⟩) (Reps.ofStrs zs)⟩
      · cases h
    · cases h
  · cases h
theorem cvTB_ok {K : Frg} {c : Cl} {f : Str} {zs : List Str} (h : cvTB K c f zs = true) : ClX.CRead K (ca K c) (.type "type") ∧ ∃ a, (∃ u, ClX.CVal K (ca K c) (.type "type") f (.ref a) u) ∧ ∀ B G, Rep K B G (.ctup (zs.map .str)) (.ref a) := by
  obtain ⟨h1, h2⟩ := He.ba h
  split at h2
  · rename_i v e
    obtain ⟨a, rfl, r⟩ := tupB_ok h2
    exact ⟨cread_ok h1, a, ⟨_, e, rfl⟩, r⟩
  · cases h2
theorem rcv_new {μ : Mu} {y : Addr} {c : Cl} {fs : Fs} (e : μ y = some (.ins c fs)) : rcv μ (.cell y) = some c := by
  unfold rcv
  simp only [e]
theorem two_len {us ws : List Value} {m n : Nat} (h1 : ws.length = n) (h2 : us.length + ws.length = m + n) : us.length = m := by omega
theorem brT {b : Bool} {A B : Prop} (e : b = true) (h : A) : br b A B := ⟨fun _ => h, fun z => by rw [e] at z; cases z⟩
theorem brF {b : Bool} {A B : Prop} (e : b = false) (h : B) : br b A B := ⟨fun z => (by rw [e] at z; cases z), fun _ => h⟩
theorem brE_t {b : Bool} {A B : Prop} (e : b = true) (h : br b A B) : A := h.t e
theorem brE_f {b : Bool} {A B : Prop} (e : b = false) (h : br b A B) : B := h.f e
theorem brD {c : Prop} [Decidable c] {A B : Prop} (h1 : c → A) (h2 : ¬ c → B) : br (decide c) A B := br_of (fun e => h1 (of_decide_eq_true e)) (fun e => h2 (of_decide_eq_false e))
theorem brN {c : Prop} [Decidable c] {A B : Prop} (h1 : ¬ c → A) (h2 : c → B) : br (!decide c) A B := br_of (fun e => h1 (by simpa using e)) (fun e => h2 (by simpa using e))
theorem nb1 {α : Type} [DecidableEq α] (a : α) : (!decide (a = a)) = false := by simp
/-- what an __init__ makes of its arguments: the fields, or what it raises -/
abbrev Kc := Cl → List PV → (List PV → Prop) → (XV → Prop) → Prop
def initK (kc : Kc) : Ct := fun as μ q x => ∃ y c ps, as = .cell y :: ps ∧ μ y = some (.ins c []) ∧ kc c ps (fun vs => vs.length = c.flds.length ∧ q .non (μ.put y (.ins c (c.flds.zip vs)))) (fun xv => x xv μ)
def mkK (c : Cl) (kc : Kc) : Ct := fun ps μ q x => kc c ps (fun vs => vs.length = c.flds.length ∧ q (.obj c vs) μ) (fun xv => x xv μ)
def Mono (kc : Kc) : Prop := ∀ c ps A A' B B', (∀ vs, A vs → A' vs) → (∀ xv, B xv → B' xv) → kc c ps A B → kc c ps A' B'
theorem br_mono {b : Bool} {A A' B B' : Prop} (h : br b A B) (h1 : A → A') (h2 : B → B') : br b A' B' := ⟨fun e => h1 (h.t e), fun e => h2 (h.f e)⟩
theorem takeF_zip : ∀ (gs : List Str) (vs : List PV), vs.length = gs.length → takeF gs (gs.zip vs) = some vs
  | [], [], _ => rfl
  | g :: gs, v :: vs, h => by
    have ih := takeF_zip gs vs (by simpa using h)
    rw [List.zip_cons_cons]
    unfold takeF
    cases decEq g g with
    | isTrue _ => simp only [ih]
    | isFalse z => exact absurd rfl z
theorem mkQ_end {y : Addr} {q : QV} {μ : Mu} {c : Cl} {vs : List PV} (h : vs.length = c.flds.length) (k : q (.obj c vs) (μ.del y)) : mkQ true y q .non (μ.put y (.ins c (c.flds.zip vs))) := by
  unfold mkQ mkEnd
  simp only [Mu.put_same, takeF_zip _ _ h, Mu.del_put]
  exact k
theorem mkK_ok {c : Cl} {kc : Kc} (m : Mono kc) : MkC true c (initK kc) (mkK c kc) := fun ps μ q x h y hy => by
  refine ⟨y, c, ps, rfl, Mu.put_same _ _ _, m c ps _ _ _ _ (fun vs hv => ?_) (fun xv hx => ?_) h⟩
  · refine ⟨hv.1, ?_⟩
    rw [Mu.put_put]
    refine mkQ_end hv.1 ?_
    rw [Mu.del_none hy]
    exact hv.2
  · show x xv ((μ.put y (.ins c [])).del y)
    rw [Mu.del_put, Mu.del_none hy]
    exact hx
/-- .. with *args -/
theorem mkK_star {c : Cl} {kc : Kc} (m : Mono kc) : MkC true c (starC 1 (initK kc)) (fun ps μ q x => ps.length ≤ sizeLine ∧ mkK c kc [.tup ps] μ q x) := fun ps μ q x h y hy =>
  ⟨by simp, h.1, mkK_ok m [.tup ps] μ q x h.2 y hy⟩
theorem MkC.imp {fz : Bool} {c : Cl} {ct kc kc' : Ct} (h : MkC fz c ct kc) (i : ∀ ps μ q x, kc' ps μ q x → kc ps μ q x) : MkC fz c ct kc' := fun ps μ q x z => h ps μ q x (i _ _ _ _ z)
/-- a comprehension over one name, its test f, its element g -/
theorem lcD_one {i : Nat} {own : List Nat} {dt : DT} {de : DE} {ρ : En} {q : List PV → Mu → Prop} {μ : Mu} (f : PV → Bool) (g : PV → PV) : ∀ (xs acc : List PV), (∀ x ∈ xs, ∀ k : Bool → Mu → Prop, k (f x) μ → dt ((wipeE ρ own).set i (some x)) μ k noX) → (∀ x ∈ xs, f x = true → ∀ k : QV, k (g x) μ → de ((wipeE ρ own).set i (some x)) μ k noX) →
    q (acc ++ (xs.filter f).map g) μ → Lk (lcD (.one i) own dt de ρ q xs acc μ)
  | [], acc, _, _, h => lcD_n rfl (by simpa using h)
  | x :: xs, acc, h1, h2, h => by
    refine lcD_c rfl ?_
    show dt ((wipeE ρ own).set i (some x)) μ _ noX
    refine h1 x List.mem_cons_self _ ?_
    cases e : f x with
    | true =>
      refine brT rfl ?_
      refine h2 x List.mem_cons_self e _ (lcD_one f g xs _ (fun y hy => h1 y (List.mem_cons_of_mem _ hy)) (fun y hy => h2 y (List.mem_cons_of_mem _ hy)) ?_)
      rw [List.filter_cons_of_pos e] at h
      simpa using h
    | false =>
      refine brF rfl ?_
      refine lcD_one f g xs _ (fun y hy => h1 y (List.mem_cons_of_mem _ hy)) (fun y hy => h2 y (List.mem_cons_of_mem _ hy)) ?_
      rw [List.filter_cons_of_neg (by simp [e])] at h
      exact h
end Px
namespace GE
open PySem PySem.SeqAt
open AutoSeq1 (wpAny_loadPart')
open MeetsSeq MeetsSeq2 MeetsSeq3 SeqRoads2
section
variable {prog : Program} {w : World} {A : Around} {R : Result → Shared → Prop}
/-- at each turn the two lists are read anew: N items each; the i-th two are equal, or it ends by D -/
def ListJ (prog : Program) (w : World) (A : Around) (E : Value → Shared → Prop) (D : Shared → Prop) (l b : Addr) (N : Nat) (I : Nat → Shared → Prop) : Prop :=
  ∀ i s, I i s → ∃ (items items2 : Array Value) (n n2 : Nat), s.heap.get? l = some { cls := .type "list", data := .seq items n } ∧ s.heap.get? b = some { cls := .type "list", data := .seq items2 n2 } ∧ items.size = N ∧ items2.size = N ∧
    ∀ (h1 : i < items.size) (h2 : i < items2.size), wpAny (model prog w) A.in1 (eqBool items[i] items2[i]) (fun r s' => (r = true ∧ I (i + 1) s') ∨ (r = false ∧ (∃ (its its2 : Array Value) (m m2 : Nat), s'.heap.get? l = some { cls := .type "list", data := .seq its m } ∧ s'.heap.get? b = some { cls := .type "list", data := .seq its2 m2 } ∧ its.size = N ∧ its2.size = N) ∧ D s')) E s
theorem tuple_eqG (l b : Addr) (items items2 : Array Value) (n n2 : Nat) (dd dd2 : Option Addr) (sl sl2 : Array (Option Value)) (I : Nat → Shared → Prop)
    (turn : ∀ i (h1 : i < items.size) (h2 : i < items2.size) s, I i s → wpAny (model prog w) A.in1 (eqBool items[i] items2[i]) (fun r s' => (r = true ∧ I (i + 1) s') ∨ (r = false ∧ R (.ok (.ret (.bool false))) s')) (fun e s' => R (.error e) s') s)
    (fin : ∀ s, I (min items.size items2.size) s → R (.ok (.ret (.bool ((items.size == items2.size))))) s) {s : Shared} (hl1 : s.heap.get? l = some { cls := .type "tuple", dict := dd, data := .seq items n, slots := sl }) (hb1 : s.heap.get? b = some { cls := .type "tuple", dict := dd2, data := .seq items2 n2, slots := sl2 }) (h : I 0 s) :
    wpAny (model prog w) A.in1 (Builtin.«tuple.__eq__» ⟨[.ref l, .ref b], []⟩) (GQ.FinOf prog w A R) (fun e s' => R (.error e) s') s := by
  have f2 := AutoSeq1.sub_tuple_tuple
  have hZ : (items.toList.zip items2.toList).length = min items.size items2.size := by simp
  have h0 := h
  obtain ⟨hp, g, d, tk, os⟩ := s
  wp_walk using wpAny_loadPart' hl1, wpAny_loadPart' hb1, wpAny_forIn_list _ (fun rest b s' => b.1 = none ∧ ∃ i, rest = (items.toList.zip items2.toList).drop i ∧ i ≤ min items.size items2.size ∧ I i s') _
  case turn =>
    rintro ⟨y, x⟩ rest b s' ⟨hb', i, hz, hi, hI⟩
    have hlt : i < (items.toList.zip items2.toList).length := by
      rcases Nat.lt_or_ge i (items.toList.zip items2.toList).length with h' | h'
      · exact h'
      · rw [List.drop_of_length_le h'] at hz; cases hz
    have hm : i < min items.size items2.size := hZ ▸ hlt
    have h1 : i < items.size := Nat.lt_of_lt_of_le hm (Nat.min_le_left _ _)
    have h2 : i < items2.size := Nat.lt_of_lt_of_le hm (Nat.min_le_right _ _)
    rw [List.drop_eq_getElem_cons hlt] at hz
    injection hz with hyx hrest
    have hy : y = items[i] := by have := congrArg Prod.fst hyx; simpa using this
    have hx : x = items2[i] := by have := congrArg Prod.snd hyx; simpa using this
    subst hy hx
    refine wpAny_bind (wpAny_mono (turn i h1 h2 s' hI) (fun r s2 q2 => ?_) fun _ _ x => x)
    rcases q2 with ⟨hr, q2⟩ | ⟨hr, q2⟩
    · subst hr
      wp_walk
      exact ⟨rfl, i + 1, hrest, hm, q2⟩
    · subst hr
      wp_walk
      exact q2
  case fin =>
    rintro ⟨b1, b2⟩ s' ⟨hb', i, hz, hi, hI⟩
    simp only at hb'
    subst hb'
    have hge : min items.size items2.size ≤ i := by
      rcases Nat.lt_or_ge i (items.toList.zip items2.toList).length with h' | h'
      · rw [List.drop_eq_getElem_cons h'] at hz; cases hz
      · exact hZ ▸ h'
    have hi' : i = min items.size items2.size := by omega
    have hR := fin s' (hi' ▸ hI)
    wp_walk
    first | exact hR | simpa [Builtin.Tuple.tupleCompareSizes] using hR | exact ⟨_, rfl, by simpa [Builtin.Tuple.tupleCompareSizes] using hR⟩
  case h =>
    exact ⟨rfl, 0, rfl, Nat.zero_le _, h0⟩
theorem eq_loopG (l b : Addr) (N : Nat) (I : Nat → Shared → Prop) (hl : ListJ prog w A (fun e s' => R (.error e) s') (fun s' => R (.ok (.ret (.bool false))) s') l b N I)
    (fin : ∀ s, I N s → R (.ok (.ret (.bool (!false)))) s) (k : Nat) :
    ∀ i : Nat, N - i = k → i ≤ N → ∀ s, I i s →
      wpAny (model prog w) A.in1 (Builtin.«list.__eq__.loop» ⟨[.ref l, .ref b, rawInt i, rawInt 2], []⟩) (GQ.FinOf prog w A R) (fun e s' => R (.error e) s') s := by
  induction k with
  | zero =>
    intro i hk hi s h
    obtain ⟨items, items2, n, n2, hl1, hb1, hs1, hs2, _⟩ := hl _ _ h
    have hi' : i = N := by omega
    have hR : R (.ok (.ret (.bool (!false)))) s := fin s (hi' ▸ h)
    obtain ⟨hp, g, d, tk, os⟩ := s
    wp_walk using wpAny_loadPart' hl1, wpAny_loadPart' hb1
    have hi1 : items[((i : Nat) : Int).toNat]? = none := by simp; omega
    have hi2 : items2[((i : Nat) : Int).toNat]? = none := by simp; omega
    rw [hi1, hi2]
    wp_walk using wpAny_loadPart' hl1, wpAny_loadPart' hb1
    show R (.ok (.ret (.bool (items.size == items2.size)))) _
    rw [hs1, hs2]
    simpa using hR
  | succ k ih =>
    intro i hk hi s h
    obtain ⟨items, items2, n, n2, hl1, hb1, hs1, hs2, turn⟩ := hl _ _ h
    have hlt : i < items.size := by omega
    have hlt2 : i < items2.size := by omega
    have ht := turn hlt hlt2
    obtain ⟨hp, g, d, tk, os⟩ := s
    wp_walk using wpAny_loadPart' hl1, wpAny_loadPart' hb1
    have hi1 : items[((i : Nat) : Int).toNat]? = some items[i] := by simp [hlt]
    have hi2 : items2[((i : Nat) : Int).toNat]? = some items2[i] := by simp [hlt2]
    have hc : ((i : Int) + 1) = ((i + 1 : Nat) : Int) := by omega
    rw [hi1, hi2]
    refine wpAny_bind (wpAny_mono ht (fun r s2 h2 => ?_) fun _ _ x => x)
    rcases h2 with ⟨hr, h2⟩ | ⟨hr, h2⟩
    · subst hr
      have hrec := ih (i + 1) (by omega) (by omega) s2 h2
      obtain ⟨hp2, g2, d2, tk2, os2⟩ := s2
      wp_walk
      rw [hc]
      exact ⟨plainId_quiet plain_eq_loop _, codeAny_builtin entry_eq_loop (by
        rw [Around.under_plainId plain_eq_loop _]
        exact hrec)⟩
    · subst hr
      obtain ⟨⟨its, its2, m, m2, hl2, hb2, ht1, ht2⟩, h2⟩ := h2
      obtain ⟨hp2, g2, d2, tk2, os2⟩ := s2
      wp_walk using wpAny_loadPart' hl2, wpAny_loadPart' hb2
      have hi3 : its[((i : Nat) : Int).toNat]? = some its[i] := by simp
      have hi4 : its2[((i : Nat) : Int).toNat]? = some its2[i] := by simp
      rw [hi3, hi4]
      wp_walk
      exact h2
theorem list_eqG (l b : Addr) (N : Nat) (I : Nat → Shared → Prop) (hl : ListJ prog w A (fun e s' => R (.error e) s') (fun s' => R (.ok (.ret (.bool false))) s') l b N I)
    (fin : ∀ s, I N s → R (.ok (.ret (.bool (!false)))) s) {s : Shared} (h : I 0 s) :
    wpAny (model prog w) A.in1 (Builtin.«list.__eq__» ⟨[.ref l, .ref b], []⟩) (GQ.FinOf prog w A R) (fun e s' => R (.error e) s') s := by
  obtain ⟨items, items2, n, n2, hl1, hb1, hs1, hs2, _⟩ := hl _ _ h
  have hrec := eq_loopG (A := A) (R := R) l b N I hl fin _ 0 rfl (Nat.zero_le _) s h
  obtain ⟨hp, g, d, tk, os⟩ := s
  have f3 := AutoSeq1.sub_list_list
  have hne : ¬ (items.size != items2.size) = true := by simp [hs1, hs2]
  wp_walk using wpAny_loadPart' hl1, wpAny_loadPart' hb1
  exact ⟨plainId_quiet plain_eq_loop _, codeAny_builtin entry_eq_loop (by
    rw [Around.under_plainId plain_eq_loop _]
    exact hrec)⟩
theorem list_eqD (l b : Addr) {items items2 : Array Value} {n n2 : Nat} {s : Shared} (hl1 : s.heap.get? l = some { cls := .type "list", data := .seq items n }) (hb1 : s.heap.get? b = some { cls := .type "list", data := .seq items2 n2 }) (hne : items.size ≠ items2.size) (h : R (.ok (.ret (.bool false))) s) :
    wpAny (model prog w) A.in1 (Builtin.«list.__eq__» ⟨[.ref l, .ref b], []⟩) (GQ.FinOf prog w A R) (fun e s' => R (.error e) s') s := by
  obtain ⟨hp, g, d, tk, os⟩ := s
  have f3 := AutoSeq1.sub_list_list
  have hne : (items.size != items2.size) = true := by simp [hne]
  wp_walk using wpAny_loadPart' hl1, wpAny_loadPart' hb1
  all_goals first | exact h | simpa using h | skip
theorem tuple_neG (l b : Addr) (items items2 : Array Value) (n n2 : Nat) (dd dd2 : Option Addr) (sl sl2 : Array (Option Value)) (I : Nat → Shared → Prop)
    (turn : ∀ i (h1 : i < items.size) (h2 : i < items2.size) s, I i s → wpAny (model prog w) A.in1 (eqBool items[i] items2[i]) (fun r s' => (r = true ∧ I (i + 1) s') ∨ (r = false ∧ R (.ok (.ret (.bool true))) s')) (fun e s' => R (.error e) s') s)
    (fin : ∀ s, I (min items.size items2.size) s → R (.ok (.ret (.bool (!(items.size == items2.size))))) s) {s : Shared} (hl1 : s.heap.get? l = some { cls := .type "tuple", dict := dd, data := .seq items n, slots := sl }) (hb1 : s.heap.get? b = some { cls := .type "tuple", dict := dd2, data := .seq items2 n2, slots := sl2 }) (h : I 0 s) :
    wpAny (model prog w) A.in1 (Builtin.«tuple.__ne__» ⟨[.ref l, .ref b], []⟩) (GQ.FinOf prog w A R) (fun e s' => R (.error e) s') s := by
  have f2 := AutoSeq1.sub_tuple_tuple
  have hZ : (items.toList.zip items2.toList).length = min items.size items2.size := by simp
  have h0 := h
  obtain ⟨hp, g, d, tk, os⟩ := s
  wp_walk using wpAny_loadPart' hl1, wpAny_loadPart' hb1, wpAny_forIn_list _ (fun rest b s' => b.1 = none ∧ ∃ i, rest = (items.toList.zip items2.toList).drop i ∧ i ≤ min items.size items2.size ∧ I i s') _
  case turn =>
    rintro ⟨y, x⟩ rest b s' ⟨hb', i, hz, hi, hI⟩
    have hlt : i < (items.toList.zip items2.toList).length := by
      rcases Nat.lt_or_ge i (items.toList.zip items2.toList).length with h' | h'
      · exact h'
      · rw [List.drop_of_length_le h'] at hz; cases hz
    have hm : i < min items.size items2.size := hZ ▸ hlt
    have h1 : i < items.size := Nat.lt_of_lt_of_le hm (Nat.min_le_left _ _)
    have h2 : i < items2.size := Nat.lt_of_lt_of_le hm (Nat.min_le_right _ _)
    rw [List.drop_eq_getElem_cons hlt] at hz
    injection hz with hyx hrest
    have hy : y = items[i] := by have := congrArg Prod.fst hyx; simpa using this
    have hx : x = items2[i] := by have := congrArg Prod.snd hyx; simpa using this
    subst hy hx
    refine wpAny_bind (wpAny_mono (turn i h1 h2 s' hI) (fun r s2 q2 => ?_) fun _ _ x => x)
    rcases q2 with ⟨hr, q2⟩ | ⟨hr, q2⟩
    · subst hr
      wp_walk
      exact ⟨rfl, i + 1, hrest, hm, q2⟩
    · subst hr
      wp_walk
      exact q2
  case fin =>
    rintro ⟨b1, b2⟩ s' ⟨hb', i, hz, hi, hI⟩
    simp only at hb'
    subst hb'
    have hge : min items.size items2.size ≤ i := by
      rcases Nat.lt_or_ge i (items.toList.zip items2.toList).length with h' | h'
      · rw [List.drop_eq_getElem_cons h'] at hz; cases hz
      · exact hZ ▸ h'
    have hi' : i = min items.size items2.size := by omega
    have hR := fin s' (hi' ▸ hI)
    wp_walk
    first | exact hR | simpa [Builtin.Tuple.tupleCompareSizes] using hR | exact ⟨_, rfl, by simpa [Builtin.Tuple.tupleCompareSizes] using hR⟩
  case h =>
    exact ⟨rfl, 0, rfl, Nat.zero_le _, h0⟩
theorem ne_loopG (l b : Addr) (N : Nat) (I : Nat → Shared → Prop) (hl : ListJ prog w A (fun e s' => R (.error e) s') (fun s' => R (.ok (.ret (.bool true))) s') l b N I)
    (fin : ∀ s, I N s → R (.ok (.ret (.bool (!true)))) s) (k : Nat) :
    ∀ i : Nat, N - i = k → i ≤ N → ∀ s, I i s →
      wpAny (model prog w) A.in1 (Builtin.«list.__eq__.loop» ⟨[.ref l, .ref b, rawInt i, rawInt 3], []⟩) (GQ.FinOf prog w A R) (fun e s' => R (.error e) s') s := by
  induction k with
  | zero =>
    intro i hk hi s h
    obtain ⟨items, items2, n, n2, hl1, hb1, hs1, hs2, _⟩ := hl _ _ h
    have hi' : i = N := by omega
    have hR : R (.ok (.ret (.bool (!true)))) s := fin s (hi' ▸ h)
    obtain ⟨hp, g, d, tk, os⟩ := s
    wp_walk using wpAny_loadPart' hl1, wpAny_loadPart' hb1
    have hi1 : items[((i : Nat) : Int).toNat]? = none := by simp; omega
    have hi2 : items2[((i : Nat) : Int).toNat]? = none := by simp; omega
    rw [hi1, hi2]
    wp_walk using wpAny_loadPart' hl1, wpAny_loadPart' hb1
    show R (.ok (.ret (.bool (items.size != items2.size)))) _
    rw [hs1, hs2]
    simpa using hR
  | succ k ih =>
    intro i hk hi s h
    obtain ⟨items, items2, n, n2, hl1, hb1, hs1, hs2, turn⟩ := hl _ _ h
    have hlt : i < items.size := by omega
    have hlt2 : i < items2.size := by omega
    have ht := turn hlt hlt2
    obtain ⟨hp, g, d, tk, os⟩ := s
    wp_walk using wpAny_loadPart' hl1, wpAny_loadPart' hb1
    have hi1 : items[((i : Nat) : Int).toNat]? = some items[i] := by simp [hlt]
    have hi2 : items2[((i : Nat) : Int).toNat]? = some items2[i] := by simp [hlt2]
    have hc : ((i : Int) + 1) = ((i + 1 : Nat) : Int) := by omega
    rw [hi1, hi2]
    refine wpAny_bind (wpAny_mono ht (fun r s2 h2 => ?_) fun _ _ x => x)
    rcases h2 with ⟨hr, h2⟩ | ⟨hr, h2⟩
    · subst hr
      have hrec := ih (i + 1) (by omega) (by omega) s2 h2
      obtain ⟨hp2, g2, d2, tk2, os2⟩ := s2
      wp_walk
      rw [hc]
      exact ⟨plainId_quiet plain_eq_loop _, codeAny_builtin entry_eq_loop (by
        rw [Around.under_plainId plain_eq_loop _]
        exact hrec)⟩
    · subst hr
      obtain ⟨⟨its, its2, m, m2, hl2, hb2, ht1, ht2⟩, h2⟩ := h2
      obtain ⟨hp2, g2, d2, tk2, os2⟩ := s2
      wp_walk using wpAny_loadPart' hl2, wpAny_loadPart' hb2
      have hi3 : its[((i : Nat) : Int).toNat]? = some its[i] := by simp
      have hi4 : its2[((i : Nat) : Int).toNat]? = some its2[i] := by simp
      rw [hi3, hi4]
      wp_walk
      exact h2
theorem list_neG (l b : Addr) (N : Nat) (I : Nat → Shared → Prop) (hl : ListJ prog w A (fun e s' => R (.error e) s') (fun s' => R (.ok (.ret (.bool true))) s') l b N I)
    (fin : ∀ s, I N s → R (.ok (.ret (.bool (!true)))) s) {s : Shared} (h : I 0 s) :
    wpAny (model prog w) A.in1 (Builtin.«list.__ne__» ⟨[.ref l, .ref b], []⟩) (GQ.FinOf prog w A R) (fun e s' => R (.error e) s') s := by
  obtain ⟨items, items2, n, n2, hl1, hb1, hs1, hs2, _⟩ := hl _ _ h
  have hrec := ne_loopG (A := A) (R := R) l b N I hl fin _ 0 rfl (Nat.zero_le _) s h
  obtain ⟨hp, g, d, tk, os⟩ := s
  have f3 := AutoSeq1.sub_list_list
  have hne : ¬ (items.size != items2.size) = true := by simp [hs1, hs2]
  wp_walk using wpAny_loadPart' hl1, wpAny_loadPart' hb1
  exact ⟨plainId_quiet plain_eq_loop _, codeAny_builtin entry_eq_loop (by
    rw [Around.under_plainId plain_eq_loop _]
    exact hrec)⟩
theorem list_neD (l b : Addr) {items items2 : Array Value} {n n2 : Nat} {s : Shared} (hl1 : s.heap.get? l = some { cls := .type "list", data := .seq items n }) (hb1 : s.heap.get? b = some { cls := .type "list", data := .seq items2 n2 }) (hne : items.size ≠ items2.size) (h : R (.ok (.ret (.bool true))) s) :
    wpAny (model prog w) A.in1 (Builtin.«list.__ne__» ⟨[.ref l, .ref b], []⟩) (GQ.FinOf prog w A R) (fun e s' => R (.error e) s') s := by
  obtain ⟨hp, g, d, tk, os⟩ := s
  have f3 := AutoSeq1.sub_list_list
  have hne : (items.size != items2.size) = true := by simp [hne]
  wp_walk using wpAny_loadPart' hl1, wpAny_loadPart' hb1
  all_goals first | exact h | simpa using h | skip
end
end GE
namespace Px
open PySem PySem.Spec PyProof.Rows L2
def andO : Option Bool → Option Bool → Option Bool
  | some true, y => y
  | some false, _ => some false
  | none, _ => none
theorem andO_inv {x y : Option Bool} {k : Bool} (h : andO x y = some k) : (x = some false ∧ k = false) ∨ (x = some true ∧ y = some k) := by
  unfold andO at h
  split at h
  · exact .inr ⟨rfl, h⟩
  · cases h; exact .inl ⟨rfl, rfl⟩
  · cases h
def peqs (f : PV → PV → Option Bool) : List PV → List PV → Option Bool
  | [], [] => some true
  | x :: xs, y :: ys => andO (f x y) (peqs f xs ys)
  | _, _ => some false
/-- how an object of a class is compared: its fields, the other -/
abbrev Qf := List PV → PV → Option Bool
abbrev Qt := List (Cl × Qf)
def lookQ : Qt → Cl → Option Qf
  | [], _ => none
  | (d, f) :: r, c => (match decEq c d with
    | .isTrue _ => some f
    | .isFalse _ => lookQ r c)
theorem lookQ_mem {c : Cl} {f : Qf} : ∀ {Q : Qt}, lookQ Q c = some f → (c, f) ∈ Q
  | [], h => by cases h
  | (d, g) :: r, h => by
    unfold lookQ at h
    split at h
    · rename_i e _
      cases h
      rw [e]
      exact List.mem_cons_self
    · exact List.mem_cons_of_mem _ (lookQ_mem h)
/-- the object at the right is asked first: its class is a proper subclass -/
def prsub (d c : Cl) : Bool := match decEq d c with
  | .isTrue _ => false
  | .isFalse _ => subCl d c
def deqO (Q : Qt) (c : Cl) (xs : List PV) (b : PV) : Option Bool := match b with
  | .obj d ys => (match prsub d c with
    | true => (match lookQ Q d with
      | some f => f ys (.obj c xs)
      | none => none)
    | false => (match lookQ Q c with
      | some f => f xs (.obj d ys)
      | none => none))
  | .int _ | .str _ | .bl _ | .non | .tup _ | .lst _ => (match lookQ Q c with
      | some f => f xs b
      | none => none)
  | _ => none
def deq (Q : Qt) : Nat → PV → PV → Option Bool
  | t, .obj c xs, b => deqO Q c xs b
  | t + 1, .tup xs, .tup ys => peqs (deq Q t) xs ys
  | t + 1, .lst xs, .lst ys => (match Nat.beq xs.length ys.length with
    | true => peqs (deq Q t) xs ys
    | false => some false)
  | _, a, b => eqS a b
/-- a list's cell as the list that it is now -/
def rdL (μ : Mu) (p : PV) : PV := match p with
  | .cell a => (match μ a with
    | some (.lst xs) => .lst xs
    | _ => p)
  | _ => p
/-- what the own == of the class keeps -/
def cEq (c : Cl) (f : Qf) : Ct := fun as μ q _ => match as with
  | [.obj d xs, b] => (match decEq d c with
    | .isTrue _ => (match f xs b with
      | some k => q (.bl k) μ
      | none => False)
    | .isFalse _ => False)
  | _ => False
theorem cEq_of {c : Cl} {f : Qf} {xs : List PV} {b : PV} {μ : Mu} {q : QV} {x : QX} {k : Bool} (h : f xs b = some k) (hq : q (.bl k) μ) : cEq c f [.obj c xs, b] μ q x := by
  unfold cEq
  have e : decEq c c = .isTrue rfl := by
    cases decEq c c with
    | isTrue _ => rfl
    | isFalse z => exact absurd rfl z
  simp only [e, h]
  exact hq
/-- two that stand at one place come out equal -/
def Same (f : PV → PV → Option Bool) : Prop := ∀ (X : Cx) (pins : List (Addr × Obj)) (s : Shared) (σ : L2.St) (H : Hp) (B : BX) (μ : Mu) (G : Hp) (a b : PV) (v : V) (k : Bool), KA X.K → Inv X pins σ H s → Ok X.K B μ G H → Rep X.K B G a v → Rep X.K B G b v → f a b = some k → k = true
def SameO (c : Cl) (f : Qf) : Prop := ∀ (X : Cx) (pins : List (Addr × Obj)) (s : Shared) (σ : L2.St) (H : Hp) (B : BX) (μ : Mu) (G : Hp) (xs ys : List PV) (vs : List V) (k : Bool), KA X.K → Inv X pins σ H s → Ok X.K B μ G H → Reps X.K B G xs vs → Reps X.K B G ys vs → f xs (.obj c ys) = some k → k = true
theorem subCl_refl (c : Cl) : subCl c c = true := by unfold subCl; simp
theorem prsub_self (c : Cl) : prsub c c = false := by
  unfold prsub
  cases decEq c c with
  | isTrue _ => rfl
  | isFalse z => exact absurd rfl z
theorem subCl_anti {c d : Cl} (h1 : subCl c d = true) (h2 : subCl d c = true) : c = d := by
  by_cases e : c = d
  · exact e
  · unfold subCl at h1 h2
    rw [decide_eq_false e, Bool.false_or] at h1
    rw [decide_eq_false (Ne.symm e), Bool.false_or] at h2
    split at h1 <;> first | exact absurd h1 (by decide) | exact absurd h2 (by decide)
theorem ca_inj {K : Frg} (ka : KA K) {c d : Cl} (hc : kcB K c = true) (hd : kcB K d = true) (e : ca K c = ca K d) : c = d := by
  have kn : ∀ {x : Cl}, kcB K x = true → knB K x = true := fun h => by unfold knB; rw [h] <;> rfl
  have a1 := ka.oo c d hc (kn hd)
  have a2 := ka.oo c c hc (kn hc)
  have b1 := ka.oo d c hd (kn hc)
  rw [e] at a1 b1
  have a3 := ka.oo d d hd (kn hd)
  refine subCl_anti ?_ ?_
  · rw [a3] at a1
    rw [← Option.some.inj a1]; exact subCl_refl d
  · rw [a3] at b1
    rw [← Option.some.inj b1]; exact subCl_refl d
theorem zip_inj {gs : List Str} : ∀ {vs ws : List V}, vs.length = gs.length → ws.length = gs.length → gs.zip vs = gs.zip ws → vs = ws := by
  induction gs with
  | nil => intro vs ws h1 h2 _; rw [List.eq_nil_of_length_eq_zero h1, List.eq_nil_of_length_eq_zero h2]
  | cons g gs ih =>
    intro vs ws h1 h2 h
    match vs, ws, h1, h2 with
    | v :: vs, w :: ws, h1, h2 =>
      simp only [List.zip_cons_cons, List.cons.injEq, Prod.mk.injEq, true_and] at h
      rw [h.1, ih (by simpa using h1) (by simpa using h2) h.2]
theorem sqT_fun {X : Cx} {pins : List (Addr × Obj)} {s : Shared} {σ : L2.St} {H : Hp} {a : Addr} {vs ws : List V} (J : Inv X pins σ H s) (h1 : SqT X.K H a vs) (h2 : SqT X.K H a ws) : vs = ws := by
  obtain ⟨its, r, p, _⟩ := J.tuple h1
  obtain ⟨its2, r2, p2, _⟩ := J.tuple h2
  obtain ⟨o, e, _, n, d⟩ := p
  obtain ⟨o2, e2, _, n2, d2⟩ := p2
  rw [e] at e2
  cases e2
  rw [d] at d2
  have : its.toArray = its2.toArray := by injection d2
  have : its = its2 := by simpa using this
  rw [this] at r
  exact r.inj r2
theorem same_eqS : Same eqS := fun X pins s σ H B μ G a b v k ka J o ra rb h => by
  obtain ⟨_, e⟩ := eqS_ok h ra rb
  rw [← e]
  simp
theorem same_peqs {f : PV → PV → Option Bool} (hf : Same f) : ∀ {X : Cx} {pins : List (Addr × Obj)} {s : Shared} {σ : L2.St} {H : Hp} {B : BX} {μ : Mu} {G : Hp} {xs ys : List PV} {vs : List V} {k : Bool}, KA X.K → Inv X pins σ H s → Ok X.K B μ G H → Reps X.K B G xs vs → Reps X.K B G ys vs → peqs f xs ys = some k → k = true
  | X, pins, s, σ, H, B, μ, G, [], ys, vs, k, ka, J, o, rx, ry, h => by
    obtain rfl := rx.nil_inv
    cases ys with
    | nil => cases h; rfl
    | cons y ys => obtain ⟨_, _, e, _⟩ := ry.cons_inv; cases e
  | X, pins, s, σ, H, B, μ, G, x :: xs, ys, vs, k, ka, J, o, rx, ry, h => by
    obtain ⟨v, ws, rfl, r1, r2⟩ := rx.cons_inv
    cases ys with
    | nil => cases ry.nil_inv
    | cons y ys =>
      obtain ⟨v', ws', e, q1, q2⟩ := ry.cons_inv
      cases e
      rcases andO_inv h with ⟨h1, _⟩ | ⟨_, h2⟩
      · exact absurd (hf X pins s σ H B μ G x y v false ka J o r1 q1 h1) (by decide)
      · exact same_peqs hf ka J o r2 q2 h2
theorem same_obj {Q : Qt} (hQ : ∀ c f, (c, f) ∈ Q → SameO c f) (X : Cx) (pins : List (Addr × Obj)) (s : Shared) (σ : L2.St) (H : Hp) (B : BX) (μ : Mu) (G : Hp) (c : Cl) (xs : List PV) (b : PV) (v : V) (k : Bool) (ka : KA X.K) (J : Inv X pins σ H s) (o : Ok X.K B μ G H) (ra : Rep X.K B G (.obj c xs) v) (rb : Rep X.K B G b v) (h : deqO Q c xs b = some k) : k = true := by
  obtain ⟨p, dx, vs, rfl, kc, ea, hl, rs⟩ := ra.obj_inv
  cases b with
  | obj d ys =>
    obtain ⟨p2, dx2, ws, e, kc2, ea2, hl2, rs2⟩ := rb.obj_inv
    cases e
    rw [ea] at ea2
    have e2 := Option.some.inj ea2
    injection e2 with e3 e4 e5
    obtain rfl := ca_inj ka kc kc2 e3
    obtain rfl := zip_inj hl hl2 e5
    unfold deqO at h
    simp only [prsub_self] at h
    cases e : lookQ Q c with
    | none => simp only [e] at h; cases h
    | some f => simp only [e] at h; exact hQ c f (lookQ_mem e) X pins s σ H B μ G xs ys vs k ka J o rs rs2 h
  | int i => have := rb.int_inv; cases this
  | str i => have := rb.str_inv; cases this
  | bl i => have := rb.bl_inv; cases this
  | non => have := rb.non_inv; cases this
  | tup ys =>
    obtain ⟨p2, ws, e, sq, _⟩ := rb.tup_inv
    cases e
    rcases sq with sq | ⟨ob, its, n, lk, _⟩
    · rcases sq with sq | ⟨ob, sq⟩
      · rw [ea] at sq; cases sq
      · rw [ea] at sq; cases sq
    · have := (J.bs p ob (J.ok.mod.kin _ _ lk)).2
      rw [o.sub _ _ ea] at this; cases this
  | lst ys =>
    obtain ⟨p2, ws, e, sq, _⟩ := rb.lst_inv
    cases e
    rw [ea] at sq; cases sq
  | _ => cases h
theorem same_deq {Q : Qt} (hQ : ∀ c f, (c, f) ∈ Q → SameO c f) : ∀ t, Same (deq Q t) := by
  intro t
  induction t with
  | zero =>
    intro X pins s σ H B μ G a b v k ka J o ra rb h
    cases a with
    | obj c xs => exact same_obj hQ X pins s σ H B μ G c xs b v k ka J o ra rb h
    | _ => exact same_eqS X pins s σ H B μ G _ b v k ka J o ra rb h
  | succ t ih =>
    intro X pins s σ H B μ G a b v k ka J o ra rb h
    cases a with
    | obj c xs => exact same_obj hQ X pins s σ H B μ G c xs b v k ka J o ra rb h
    | tup xs =>
      cases b with
      | tup ys =>
        obtain ⟨p, vs, rfl, sq, rs⟩ := ra.tup_inv
        obtain ⟨p2, ws, e, sq2, rs2⟩ := rb.tup_inv
        cases e
        obtain rfl := sqT_fun J (o.sub.t sq) (o.sub.t sq2)
        exact same_peqs ih ka J o rs rs2 h
      | _ => exact same_eqS X pins s σ H B μ G _ _ v k ka J o ra rb h
    | lst xs =>
      cases b with
      | lst ys =>
        obtain ⟨p, vs, rfl, sq, rs⟩ := ra.lst_inv
        obtain ⟨p2, ws, e, sq2, rs2⟩ := rb.lst_inv
        cases e
        rw [sq] at sq2
        cases sq2
        have h : (match Nat.beq xs.length ys.length with | true => peqs (deq Q t) xs ys | false => some false) = some k := h
        have e : xs.length = ys.length := rs.length.symm.trans rs2.length
        rw [e, Nat.beq_refl] at h
        exact same_peqs ih ka J o rs rs2 h
      | _ => exact same_eqS X pins s σ H B μ G _ _ v k ka J o ra rb h
    | _ => exact same_eqS X pins s σ H B μ G _ b v k ka J o ra rb h
end Px
namespace PySem.W
open PySem PySem.Calls PyProof.Rows PyProof.V PySem.Spec
section
variable {prog : Program} {w : World} {A : Around} {E : Value → Shared → Prop} {s : Shared} {K : Frag} {x C y D L f : Addr} {h₀ : Heap} {m : Str → Option Value} {ox oy : Obj} {od od2 : Option Obj}
/-- the right one's class is a proper subclass: it is asked first -/
theorem cmp_R {op : CmpOp} {Q : Value → Shared → Prop} (hu : A.units < cLine) (F : Fr h₀ L s.heap m) (X₀ : K.In h₀) (I : InstAt s.heap x ox C od) (I2 : InstAt s.heap y oy D od2) (hne : D ≠ C) (hsub : subIn K (.ref D) (.ref C) = some true)
    (hs : findIn K (.ref D) (cmpInfo op).2.2 = some (some (.ref f))) (hf : isFn K (.ref f) = true)
    (h : wpAny (model prog w) A (call (.ref f) [.ref y, .ref x]) (CmpBack Q) E s) : wpAny (model prog w) A (richCompare op (.ref x) (.ref y)) Q E s := by
  have X := X₀.keeps F.keep
  have one : wpAny (model prog w) A (tryCompare (.ref y) (cmpInfo op).2.2 (.ref x)) (fun r s' => ∃ v, r = some v ∧ Q v s') E s := by
    unfold tryCompare
    refine wpAny_bind (ifBound_K X I2 hs hf (wpAny_mono h (fun v s' hv => ?_) fun _ _ e => e))
    cases v <;> first | exact hv.elim | exact wpAny_pure ⟨_, rfl, hv⟩
  unfold richCompare
  simp only [oneThing_ref]
  refine wpAny_holding (wpAny_bind (wpAny_cRoomFor hu ?_))
  refine wpAny_bind (I.type.here (wpAny_bind (I2.type.here ?_)))
  have hn : (Value.ref C != Value.ref D) = true := by
    simp only [bne_iff_ne, ne_eq, Value.ref.injEq]
    exact fun z => hne z.symm
  rw [if_pos hn]
  refine wpAny_bind ((looks_subIn X hsub).here ?_)
  simp only [if_true]
  refine wpAny_bind (wpAny_mono one (fun r s' z => ?_) fun _ _ e => e)
  obtain ⟨v, rfl, hq⟩ := z
  exact wpAny_bind (wpAny_rule (wpAny_pure hq))
end
end PySem.W
namespace Px
open PySem PySem.Spec PyProof.Rows L2
/-- room below, t builtins deep -/
structure RmT (k t : Nat) (A : Around) : Prop where
  dp : A.depth + 3 * k + 5 < recursionLimit
  un : A.units + t + 16 * k + 200 < cLine
  gd : A.guards = some []
theorem RmT.in1 {k t : Nat} {A : Around} (r : RmT k (t + 1) A) : RmT k t A.in1 := ⟨r.dp, by have := r.un; show A.units + 1 + t + 16 * k + 200 < _; omega, r.gd⟩
theorem RmT.rm {k t : Nat} {A : Around} (r : RmT k t A) : Rm k A := ⟨r.dp, by have := r.un; omega, r.gd⟩
theorem RmT.u {k t : Nat} {A : Around} (r : RmT k t A) : A.units < cLine := by have := r.un; omega
theorem RmT.of {k : Nat} {A : Around} (r : Rm (k + 1) A) : RmT k 16 A := ⟨by have := r.dp; omega, by have := r.un; omega, r.gd⟩
/-- the own == of the classes of Q is known -/
structure QOk (X : Cx) (k : Nat) (Q : Qt) : Prop where
  ka : KA X.K
  calm : Q ≠ [] → X.calm = true
  ok : ∀ c f, (c, f) ∈ Q → SameO c f ∧ kcB X.K c = true ∧ ∃ g, Meth X.K (ca X.K c) "__eq__" g ∧ FnS false X.prog X.w X.K X.mg X.base k g [] (spP X.K (cEq c f))
section
variable {X : Cx} {k : Nat} {Q : Qt}
/-- what a comparison leaves -/
def Aft (X : Cx) (pins : List (Addr × Obj)) (σ : L2.St) (B : BX) (μ : Mu) (G H : Hp) (s' : Shared) : Prop := ∃ G' H', Go X.K B μ G H μ G' H' ∧ Inv X pins σ H' s'
theorem run_eq {A' : Around} {pins : List (Addr × Obj)} {σ : L2.St} {H G : Hp} {B : BX} {μ : Mu} {s : Shared} {g : Addr} {c : Cl} {f : Qf} {xs : List PV} {b : PV} {va vb : V} {u w : Value} {r : Bool} (F : FnS false X.prog X.w X.K X.mg X.base k g [] (spP X.K (cEq c f))) (hc : X.calm = true) (hf : A'.frames = X.A.frames) (hh : A'.handled = X.A.handled) (hr : Rm k A')
    (J : Inv X pins σ H s) (o : Ok X.K B μ G H) (ra : Rep X.K B G (.obj c xs) va) (rb : Rep X.K B G b vb) (ru : RelV va u) (rw' : RelV vb w) (h : f xs b = some r) :
    wpAny (model X.prog X.w) A' (call (.ref g) [u, w]) (PySem.W.CmpBack fun v s' => v = .bool r ∧ Aft X pins σ B μ G H s') X.xe s := by
  refine wpAny_mono (run_in (E := X.xe) (Q := fun v H' => v = .bl r ∧ ∃ G', Go X.K B μ G H μ G' H') F (.inl hc) hf hh hr J (.cons ru (.cons rw' .nil)) (spP_ok (q := fun p μ' => p = .bl r ∧ μ' = μ) o (.cons ra (.cons rb .nil)) (cEq_of h ⟨rfl, rfl⟩) fun p v μ' G' H' hp gg rr => ?_)) (fun v s' hv => ?_) fun _ _ z => z
  · obtain ⟨rfl, rfl⟩ := hp
    exact ⟨rr.bl_inv, G', gg⟩
  · obtain ⟨z, H', J', rz, rfl, G', gg⟩ := hv
    cases rz
    exact ⟨rfl, G', H', gg, J'⟩
theorem rc_obj (q : QOk X k Q) {A' : Around} {t : Nat} {pins : List (Addr × Obj)} {σ : L2.St} {H G : Hp} {B : BX} {μ : Mu} {s : Shared} {c : Cl} {xs : List PV} {b : PV} {va vb : V} {u w : Value} {r : Bool} (hf : A'.frames = X.A.frames) (hh : A'.handled = X.A.handled) (hr : RmT k t A')
    (J : Inv X pins σ H s) (o : Ok X.K B μ G H) (ra : Rep X.K B G (.obj c xs) va) (rb : Rep X.K B G b vb) (ru : RelV va u) (rw' : RelV vb w) (h : deqO Q c xs b = some r) :
    wpAny (model X.prog X.w) A' (richCompare .Eq u w) (fun v s' => v = .bool r ∧ Aft X pins σ B μ G H s') X.xe s := by
  obtain ⟨x, dx, vs, ev, kc, ex, _⟩ := ra.obj_inv
  have ru' := ru
  rw [ev] at ru'
  obtain rfl : u = Value.ref x := ru'
  obtain ⟨od, I⟩ := inst_at J (o.sub _ _ ex)
  obtain ⟨mm, fr⟩ := J.fr
  obtain ⟨tb, tob⟩ := tyX_of o rb
  have main : ∀ {tv : Value} {f : Qf}, TyX X.K H vb tv → PySem.W.notFirst X.K (ca X.K c) tv = true → lookQ Q c = some f → f xs b = some r → wpAny (model X.prog X.w) A' (richCompare .Eq (.ref x) w) (fun v s' => v = .bool r ∧ Aft X pins σ B μ G H s') X.xe s := fun {tv f} tx nf el hf' => by
    obtain ⟨_, _, g, me, F⟩ := q.ok c f (lookQ_mem el)
    have hc := q.calm fun z => by rw [z] at el; cases el
    obtain ⟨P, kx, hP, _⟩ := kit_of J rw' tx
    exact PySem.W.cmp_K (op := .Eq) hr.u fr J.ok.mod.kin I (kx.ty _ _ J.kIn hP) nf me.at_ me.fn (run_eq F hc hf hh hr.rm J o ra rb ru rw' hf')
  have flat : ∀ {n : String}, TyX X.K H vb (.type n) → n ∈ tyn → (match lookQ Q c with | some f => f xs b | none => none) = some r → wpAny (model X.prog X.w) A' (richCompare .Eq (.ref x) w) (fun v s' => v = .bool r ∧ Aft X pins σ B μ G H s') X.xe s := fun {n} tx hn h => by
    cases el : lookQ Q c with
    | none => simp only [el] at h; cases h
    | some f =>
      simp only [el] at h
      refine main tx ?_ el h
      unfold PySem.W.notFirst
      rw [q.ka.st c kc n hn] <;> simp
  cases b with
  | obj d ys =>
    obtain ⟨y, dy, ws, ew, kd, ey, _⟩ := rb.obj_inv
    have h : (match prsub d c with | true => (match lookQ Q d with | some f => f ys (.obj c xs) | none => none) | false => (match lookQ Q c with | some f => f xs (.obj d ys) | none => none)) = some r := h
    cases ep : prsub d c with
    | true =>
      simp only [ep] at h
      cases el : lookQ Q d with
      | none => simp only [el] at h; cases h
      | some f =>
        simp only [el] at h
        have rw2 := rw'
        rw [ew] at rw2
        obtain rfl : w = Value.ref y := rw2
        obtain ⟨od2, I2⟩ := inst_at J (o.sub _ _ ey)
        obtain ⟨_, _, g, me, F⟩ := q.ok d f (lookQ_mem el)
        have hc := q.calm fun z => by rw [z] at el; cases el
        have hs : d ≠ c ∧ subCl d c = true := by
          unfold prsub at ep
          split at ep
          · cases ep
          · rename_i z _; exact ⟨z, ep⟩
        refine PySem.W.cmp_R (op := .Eq) hr.u fr J.ok.mod.kin I I2 (fun z => hs.1 (ca_inj q.ka kd kc z)) ((q.ka.sb d c kd kc).trans (by rw [hs.2])) me.at_ me.fn (run_eq F hc hf hh hr.rm J o rb ra rw' ru h)
    | false =>
      simp only [ep] at h
      cases el : lookQ Q c with
      | none => simp only [el] at h; cases h
      | some f =>
        simp only [el] at h
        refine main (tob d rfl).2 ?_ el h
        unfold PySem.W.notFirst
        unfold prsub at ep
        split at ep
        · rename_i z _; rw [z]; simp
        · rw [q.ka.sb d c kd kc, ep]; simp
  | int i => exact flat (tb _ rfl).2 (by decide) h
  | str i => exact flat (tb _ rfl).2 (by decide) h
  | bl i => exact flat (tb _ rfl).2 (by decide) h
  | non => exact flat (tb _ rfl).2 (by decide) h
  | tup i => exact flat (tb _ rfl).2 (by decide) h
  | lst i => exact flat (tb _ rfl).2 (by decide) h
  | _ => cases h
theorem eqS_flat {K : Frg} {B : BX} {G : Hp} {a b : PV} {va vb : V} {r : Bool} (h : eqS a b = some r) (ra : Rep K B G a va) (rb : Rep K B G b vb) : flatV va = true ∧ flatV vb = true ∧ eqV va vb = r := by
  have fa : flatP a = true := by cases a <;> cases b <;> first | rfl | cases h
  have fb : flatP b = true := by cases a <;> cases b <;> first | rfl | cases h
  refine ⟨flat_ok ra fa, flat_ok rb fb, ?_⟩
  rw [eqF_ok ra rb fa fb]
  cases a <;> cases b <;> cases h <;> first | rfl | (rw [Bool.eq_iff_iff]; simp [eqF])
/-- == of two, somewhere within a builtin -/
def EB (X : Cx) (k t : Nat) (f : PV → PV → Option Bool) : Prop := ∀ (A' : Around) (pins : List (Addr × Obj)) (σ : L2.St) (H G : Hp) (B : BX) (μ : Mu) (s : Shared) (a b : PV) (va vb : V) (u w : Value) (r : Bool), A'.frames = X.A.frames → A'.handled = X.A.handled → RmT k t A' →
    Inv X pins σ H s → Ok X.K B μ G H → Rep X.K B G a va → Rep X.K B G b vb → RelV va u → RelV vb w → f a b = some r → wpAny (model X.prog X.w) A' (eqBool u w) (fun v s' => v = r ∧ Aft X pins σ B μ G H s') X.xe s
theorem eb_rc {t : Nat} {f : PV → PV → Option Bool} {A' : Around} {pins : List (Addr × Obj)} {σ : L2.St} {H G : Hp} {B : BX} {μ : Mu} {s : Shared} {a b : PV} {x y : Addr} {r : Bool} (ka : KA X.K) (hs : Same f) (J : Inv X pins σ H s) (o : Ok X.K B μ G H) (ra : Rep X.K B G a (.ref x)) (rb : Rep X.K B G b (.ref y)) (h : f a b = some r)
    (rc : wpAny (model X.prog X.w) A' (richCompare .Eq (.ref x) (.ref y)) (fun v s' => v = .bool r ∧ Aft X pins σ B μ G H s') X.xe s) : wpAny (model X.prog X.w) A' (eqBool (.ref x) (.ref y)) (fun v s' => v = r ∧ Aft X pins σ B μ G H s') X.xe s := by
  by_cases e : x = y
  · subst e
    obtain rfl := hs X pins s σ H B μ G a b _ r ka J o ra rb h
    exact SeqAt.EqAt.same (A := A') (s := s) (.ref x) X.prog X.w X.xe _ ⟨rfl, G, H, .refl o, J⟩
  · refine GQ.eqBool_refG e (wpAny_mono rc (fun v s' hv => ?_) fun _ _ z => z)
    obtain ⟨rfl, q⟩ := hv
    exact ⟨r, rfl, rfl, q⟩
theorem eb_ref {A' : Around} {x : Addr} {w : Value} {Qp : Bool → Shared → Prop} {E : Value → Shared → Prop} {s : Shared} (hw : ∀ y, w ≠ .ref y) (h : wpAny (model X.prog X.w) A' (richCompare .Eq (.ref x) w) (fun v s' => ∃ r, v = .bool r ∧ Qp r s') E s) : wpAny (model X.prog X.w) A' (eqBool (.ref x) w) Qp E s := by
  unfold eqBool
  refine wpAny_holding ?_
  refine wpAny_ite_split (fun hab => absurd (eq_of_beq hab).symm (hw x)) (fun _ => ?_)
  refine wpAny_bind (wpAny_mono h (fun v s' hv => ?_) fun _ _ x => x)
  obtain ⟨r, rfl, q⟩ := hv
  exact wpAny_truthy_bool q
/-- what the walk over two sequences knows -/
def LpI (X : Cx) (pins : List (Addr × Obj)) (σ : L2.St) (B : BX) (μ : Mu) (G H : Hp) (f : PV → PV → Option Bool) (xs ys : List PV) (r : Bool) (i : Nat) (s' : Shared) : Prop := ∃ G' H', Go X.K B μ G H μ G' H' ∧ Inv X pins σ H' s' ∧ peqs f (xs.drop i) (ys.drop i) = some r
theorem peqs_cons {f : PV → PV → Option Bool} {xs ys : List PV} {i : Nat} {r : Bool} (h1 : i < xs.length) (h2 : i < ys.length) (h : peqs f (xs.drop i) (ys.drop i) = some r) : (f xs[i] ys[i] = some false ∧ r = false) ∨ (f xs[i] ys[i] = some true ∧ peqs f (xs.drop (i + 1)) (ys.drop (i + 1)) = some r) := by
  rw [List.drop_eq_getElem_cons h1, List.drop_eq_getElem_cons h2] at h
  exact andO_inv h
theorem peqs_end {f : PV → PV → Option Bool} : ∀ {xs ys : List PV} {r : Bool}, peqs f (xs.drop (min xs.length ys.length)) (ys.drop (min xs.length ys.length)) = some r → r = (xs.length == ys.length)
  | xs, ys, r, h => by
    rcases Nat.lt_trichotomy xs.length ys.length with z | z | z
    · rw [Nat.min_eq_left (Nat.le_of_lt z), List.drop_length, List.drop_eq_getElem_cons z] at h
      cases h
      simp; omega
    · rw [z, Nat.min_self, List.drop_length, ← z, List.drop_length] at h
      cases h
      simp [z]
    · rw [Nat.min_eq_right (Nat.le_of_lt z), List.drop_length, List.drop_eq_getElem_cons z] at h
      cases h
      simp; omega
/-- one pair -/
theorem lp_turn {t : Nat} {f : PV → PV → Option Bool} (eb : EB X k t f) {A' : Around} {pins : List (Addr × Obj)} {σ : L2.St} {H G H1 G1 : Hp} {B : BX} {μ : Mu} {xs ys : List PV} {vs ws : List V} {its its2 : List Value} {r : Bool} {i : Nat} {s : Shared} (hf : A'.frames = X.A.frames) (hh : A'.handled = X.A.handled) (hr : RmT k (t + 1) A')
    (g1 : Go X.K B μ G H μ G1 H1) (J1 : Inv X pins σ H1 s) (hp : peqs f (xs.drop i) (ys.drop i) = some r) (rx : Reps X.K B G1 xs vs) (ry : Reps X.K B G1 ys ws) (ru : Vals vs its) (rw' : Vals ws its2) (h1 : i < its.toArray.size) (h2 : i < its2.toArray.size) :
    wpAny (model X.prog X.w) A'.in1 (eqBool its.toArray[i] its2.toArray[i]) (fun v s' => (v = true ∧ LpI X pins σ B μ G H f xs ys r (i + 1) s') ∨ (v = false ∧ r = false ∧ Aft X pins σ B μ G H s')) X.xe s := by
  have k1 : i < vs.length := by rw [ru.length]; simpa using h1
  have k2 : i < ws.length := by rw [rw'.length]; simpa using h2
  have l1 : i < xs.length := by rw [← rx.length]; exact k1
  have l2 : i < ys.length := by rw [← ry.length]; exact k2
  obtain ⟨v, e1, rv⟩ := rx.get (List.getElem?_eq_getElem l1)
  obtain ⟨v2, e2, rv2⟩ := ry.get (List.getElem?_eq_getElem l2)
  obtain ⟨u, hu, ru1⟩ := ru.get e1
  obtain ⟨u2, hu2, ru2⟩ := rw'.get e2
  have g1' : its[i]? = some its.toArray[i] := by
    have h1' : i < its.length := by simpa using h1
    rw [List.getElem?_eq_getElem h1'] <;> simp
  have g2' : its2[i]? = some its2.toArray[i] := by
    have h2' : i < its2.length := by simpa using h2
    rw [List.getElem?_eq_getElem h2'] <;> simp
  rw [g1'] at hu
  rw [g2'] at hu2
  rw [Option.some.inj hu, Option.some.inj hu2]
  rcases peqs_cons l1 l2 hp with ⟨ef, rfl⟩ | ⟨ef, hn⟩
  · refine wpAny_mono (eb A'.in1 pins σ H1 G1 B μ s _ _ v v2 u u2 false hf hh hr.in1 J1 g1.ok rv rv2 ru1 ru2 ef) (fun z s' hz => ?_) fun _ _ z => z
    obtain ⟨rfl, G2, H2, g2, J2⟩ := hz
    exact .inr ⟨rfl, rfl, G2, H2, g1.trans g2, J2⟩
  · refine wpAny_mono (eb A'.in1 pins σ H1 G1 B μ s _ _ v v2 u u2 true hf hh hr.in1 J1 g1.ok rv rv2 ru1 ru2 ef) (fun z s' hz => ?_) fun _ _ z => z
    obtain ⟨rfl, G2, H2, g2, J2⟩ := hz
    exact .inl ⟨rfl, G2, H2, g1.trans g2, J2, hn⟩
end
end Px
namespace Px
open PySem PySem.Spec PyProof.Rows L2
/-- at x stands the list xs, and will stand -/
def LsK (K : Frg) (B : BX) (μ : Mu) (G H : Hp) (x : Addr) (xs : List PV) : Prop := ∀ G' H', Go K B μ G H μ G' H' → ∃ vs, H' x = some (.lst vs) ∧ Reps K B G' xs vs
section
variable {X : Cx} {k : Nat} {Q : Qt}
theorem rc_tup_eq {t : Nat} {f : PV → PV → Option Bool} (eb : EB X k t f) {A' : Around} {pins : List (Addr × Obj)} {σ : L2.St} {H G : Hp} {B : BX} {μ : Mu} {s : Shared} {x y : Addr} {xs ys : List PV} {vs ws : List V} {r : Bool} (hf : A'.frames = X.A.frames) (hh : A'.handled = X.A.handled) (hr : RmT k (t + 1) A')
    (J : Inv X pins σ H s) (o : Ok X.K B μ G H) (sx : SqT X.K H x vs) (sy : SqT X.K H y ws) (rx : Reps X.K B G xs vs) (ry : Reps X.K B G ys ws) (h : peqs f xs ys = some r) :
    wpAny (model X.prog X.w) A' (richCompare .Eq (.ref x) (.ref y)) (fun v s' => v = .bool r ∧ Aft X pins σ B μ G H s') X.xe s := by
  obtain ⟨its, ru, e1, z1⟩ := J.tuple sx
  obtain ⟨its2, rw', e2, z2⟩ := J.tuple sy
  obtain ⟨⟨cls, dd, data, sl⟩, ho, hc, n, hd⟩ := id e1
  obtain ⟨⟨cls2, dd2, data2, sl2⟩, ho2, hc2, n2, hd2⟩ := id e2
  simp only at hc hd hc2 hd2
  subst hc hd hc2 hd2
  have l1 : its.toArray.size = xs.length := by rw [List.size_toArray, ← ru.length, rx.length]
  have l2 : its2.toArray.size = ys.length := by rw [List.size_toArray, ← rw'.length, ry.length]
  refine wpAny_richCompare_same_room (op := .Eq) ⟨_, ho, rfl⟩ ⟨_, ho2, rfl⟩ F.slot_tuple_eq (GQ.call_here F.slot_tuple_eq ⟨_, ho, rfl⟩ F.entry_tuple_eq (F.args_tuple_eq_2 _ _) ?_) hr.u
  refine GE.tuple_eqG (R := wants (fun v s' => v ≠ .notImplemented ∧ (v = .bool r ∧ Aft X pins σ B μ G H s')) X.xe) x y its.toArray its2.toArray n n2 dd dd2 sl sl2 (LpI X pins σ B μ G H f xs ys r) (fun i h1 h2 s' l => ?_) (fun s' l => ?_) ho ho2 ⟨G, H, .refl o, J, h⟩
  · obtain ⟨G1, H1, g1, J1, hp⟩ := l
    refine wpAny_mono (lp_turn eb hf hh hr g1 J1 hp (rx.mono g1.gx) (ry.mono g1.gx) ru rw' h1 h2) (fun v s2 hv => ?_) fun _ _ z => z
    rcases hv with hv | ⟨rfl, rfl, a⟩
    · exact .inl hv
    · exact .inr ⟨rfl, (fun z => nomatch z), rfl, a⟩
  · obtain ⟨G1, H1, g1, J1, hp⟩ := l
    rw [l1, l2] at hp
    have := peqs_end hp
    subst this
    rw [l1, l2]
    exact ⟨(fun z => nomatch z), rfl, G1, H1, g1, J1⟩
theorem rc_lst_eq {t : Nat} {f : PV → PV → Option Bool} (eb : EB X k t f) {A' : Around} {pins : List (Addr × Obj)} {σ : L2.St} {H G : Hp} {B : BX} {μ : Mu} {s : Shared} {x y : Addr} {xs ys : List PV} {r : Bool} (hf : A'.frames = X.A.frames) (hh : A'.handled = X.A.handled) (hr : RmT k (t + 1) A')
    (J : Inv X pins σ H s) (o : Ok X.K B μ G H) (kx : LsK X.K B μ G H x xs) (ky : LsK X.K B μ G H y ys) (h : (match Nat.beq xs.length ys.length with | true => peqs f xs ys | false => some false) = some r) :
    wpAny (model X.prog X.w) A' (richCompare .Eq (.ref x) (.ref y)) (fun v s' => v = .bool r ∧ Aft X pins σ B μ G H s') X.xe s := by
  obtain ⟨vs, sx, rx⟩ := kx G H (.refl o)
  obtain ⟨ws, sy, ry⟩ := ky G H (.refl o)
  obtain ⟨z1, its, n, ru, e1⟩ := J.hok x _ sx
  obtain ⟨z2, its2, n2, rw', e2⟩ := J.hok y _ sy
  have l1 : its.toArray.size = xs.length := by rw [List.size_toArray, ← ru.length, rx.length]
  have l2 : its2.toArray.size = ys.length := by rw [List.size_toArray, ← rw'.length, ry.length]
  refine wpAny_richCompare_same_room (op := .Eq) ⟨_, e1, rfl⟩ ⟨_, e2, rfl⟩ F.slot_list_eq (GQ.call_here F.slot_list_eq ⟨_, e1, rfl⟩ F.entry_list_eq (F.args_list_eq_2 _ _) ?_) hr.u
  cases eb' : Nat.beq xs.length ys.length with
  | false =>
    rw [eb'] at h
    cases h
    exact GE.list_eqD (R := wants (fun v s' => v ≠ .notImplemented ∧ (v = .bool false ∧ Aft X pins σ B μ G H s')) X.xe) x y e1 e2 (by rw [l1, l2]; exact Nat.ne_of_beq_eq_false eb') ⟨(fun z => nomatch z), rfl, G, H, .refl o, J⟩
  | true =>
    rw [eb'] at h
    have el := Nat.eq_of_beq_eq_true eb'
    refine GE.list_eqG (R := wants (fun v s' => v ≠ .notImplemented ∧ (v = .bool r ∧ Aft X pins σ B μ G H s')) X.xe) x y xs.length (LpI X pins σ B μ G H f xs ys r) (fun i s' l => ?_) (fun s' l => ?_) ⟨G, H, .refl o, J, h⟩
    · obtain ⟨G1, H1, g1, J1, hp⟩ := id l
      obtain ⟨vs1, sx1, rx1⟩ := kx G1 H1 g1
      obtain ⟨ws1, sy1, ry1⟩ := ky G1 H1 g1
      obtain ⟨w1, jts, m, qu, f1⟩ := J1.hok x _ sx1
      obtain ⟨w2, jts2, m2, qw, f2⟩ := J1.hok y _ sy1
      refine ⟨jts.toArray, jts2.toArray, m, m2, f1, f2, by rw [List.size_toArray, ← qu.length, rx1.length], by rw [List.size_toArray, ← qw.length, ry1.length, el], fun h1 h2 => ?_⟩
      refine wpAny_mono (lp_turn eb hf hh hr g1 J1 hp rx1 ry1 qu qw h1 h2) (fun v s2 hv => ?_) fun _ _ z => z
      rcases hv with hv | ⟨rfl, rfl, G2, H2, g2, J2⟩
      · exact .inl hv
      · obtain ⟨vs2, sx2, rx2⟩ := kx G2 H2 g2
        obtain ⟨ws2, sy2, ry2⟩ := ky G2 H2 g2
        obtain ⟨w3, kts, m3, qu3, f3⟩ := J2.hok x _ sx2
        obtain ⟨w4, kts2, m4, qw4, f4⟩ := J2.hok y _ sy2
        exact .inr ⟨rfl, ⟨kts.toArray, kts2.toArray, m3, m4, f3, f4, by rw [List.size_toArray, ← qu3.length, rx2.length], by rw [List.size_toArray, ← qw4.length, ry2.length, el]⟩, (fun z => nomatch z), rfl, G2, H2, g2, J2⟩
    · obtain ⟨G1, H1, g1, J1, hp⟩ := l
      rw [List.drop_length, el, List.drop_length] at hp
      cases hp
      exact ⟨(fun z => nomatch z), rfl, G1, H1, g1, J1⟩
theorem rc_tup_ne {t : Nat} {f : PV → PV → Option Bool} (eb : EB X k t f) {A' : Around} {pins : List (Addr × Obj)} {σ : L2.St} {H G : Hp} {B : BX} {μ : Mu} {s : Shared} {x y : Addr} {xs ys : List PV} {vs ws : List V} {r : Bool} (hf : A'.frames = X.A.frames) (hh : A'.handled = X.A.handled) (hr : RmT k (t + 1) A')
    (J : Inv X pins σ H s) (o : Ok X.K B μ G H) (sx : SqT X.K H x vs) (sy : SqT X.K H y ws) (rx : Reps X.K B G xs vs) (ry : Reps X.K B G ys ws) (h : peqs f xs ys = some r) :
    wpAny (model X.prog X.w) A' (richCompare .NotEq (.ref x) (.ref y)) (fun v s' => v = .bool (!r) ∧ Aft X pins σ B μ G H s') X.xe s := by
  obtain ⟨its, ru, e1, z1⟩ := J.tuple sx
  obtain ⟨its2, rw', e2, z2⟩ := J.tuple sy
  obtain ⟨⟨cls, dd, data, sl⟩, ho, hc, n, hd⟩ := id e1
  obtain ⟨⟨cls2, dd2, data2, sl2⟩, ho2, hc2, n2, hd2⟩ := id e2
  simp only at hc hd hc2 hd2
  subst hc hd hc2 hd2
  have l1 : its.toArray.size = xs.length := by rw [List.size_toArray, ← ru.length, rx.length]
  have l2 : its2.toArray.size = ys.length := by rw [List.size_toArray, ← rw'.length, ry.length]
  refine wpAny_richCompare_same_room (op := .NotEq) ⟨_, ho, rfl⟩ ⟨_, ho2, rfl⟩ F.slot_tuple_ne (GQ.call_here F.slot_tuple_ne ⟨_, ho, rfl⟩ F.entry_tuple_ne (F.args_tuple_ne_2 _ _) ?_) hr.u
  refine GE.tuple_neG (R := wants (fun v s' => v ≠ .notImplemented ∧ (v = .bool (!r) ∧ Aft X pins σ B μ G H s')) X.xe) x y its.toArray its2.toArray n n2 dd dd2 sl sl2 (LpI X pins σ B μ G H f xs ys r) (fun i h1 h2 s' l => ?_) (fun s' l => ?_) ho ho2 ⟨G, H, .refl o, J, h⟩
  · obtain ⟨G1, H1, g1, J1, hp⟩ := l
    refine wpAny_mono (lp_turn eb hf hh hr g1 J1 hp (rx.mono g1.gx) (ry.mono g1.gx) ru rw' h1 h2) (fun v s2 hv => ?_) fun _ _ z => z
    rcases hv with hv | ⟨rfl, rfl, a⟩
    · exact .inl hv
    · exact .inr ⟨rfl, (fun z => nomatch z), rfl, a⟩
  · obtain ⟨G1, H1, g1, J1, hp⟩ := l
    rw [l1, l2] at hp
    have := peqs_end hp
    subst this
    rw [l1, l2]
    exact ⟨(fun z => nomatch z), rfl, G1, H1, g1, J1⟩
theorem rc_lst_ne {t : Nat} {f : PV → PV → Option Bool} (eb : EB X k t f) {A' : Around} {pins : List (Addr × Obj)} {σ : L2.St} {H G : Hp} {B : BX} {μ : Mu} {s : Shared} {x y : Addr} {xs ys : List PV} {r : Bool} (hf : A'.frames = X.A.frames) (hh : A'.handled = X.A.handled) (hr : RmT k (t + 1) A')
    (J : Inv X pins σ H s) (o : Ok X.K B μ G H) (kx : LsK X.K B μ G H x xs) (ky : LsK X.K B μ G H y ys) (h : (match Nat.beq xs.length ys.length with | true => peqs f xs ys | false => some false) = some r) :
    wpAny (model X.prog X.w) A' (richCompare .NotEq (.ref x) (.ref y)) (fun v s' => v = .bool (!r) ∧ Aft X pins σ B μ G H s') X.xe s := by
  obtain ⟨vs, sx, rx⟩ := kx G H (.refl o)
  obtain ⟨ws, sy, ry⟩ := ky G H (.refl o)
  obtain ⟨z1, its, n, ru, e1⟩ := J.hok x _ sx
  obtain ⟨z2, its2, n2, rw', e2⟩ := J.hok y _ sy
  have l1 : its.toArray.size = xs.length := by rw [List.size_toArray, ← ru.length, rx.length]
  have l2 : its2.toArray.size = ys.length := by rw [List.size_toArray, ← rw'.length, ry.length]
  refine wpAny_richCompare_same_room (op := .NotEq) ⟨_, e1, rfl⟩ ⟨_, e2, rfl⟩ F.slot_list_ne (GQ.call_here F.slot_list_ne ⟨_, e1, rfl⟩ F.entry_list_ne (F.args_list_ne_2 _ _) ?_) hr.u
  cases eb' : Nat.beq xs.length ys.length with
  | false =>
    rw [eb'] at h
    cases h
    exact GE.list_neD (R := wants (fun v s' => v ≠ .notImplemented ∧ (v = .bool (!false) ∧ Aft X pins σ B μ G H s')) X.xe) x y e1 e2 (by rw [l1, l2]; exact Nat.ne_of_beq_eq_false eb') ⟨(fun z => nomatch z), rfl, G, H, .refl o, J⟩
  | true =>
    rw [eb'] at h
    have el := Nat.eq_of_beq_eq_true eb'
    refine GE.list_neG (R := wants (fun v s' => v ≠ .notImplemented ∧ (v = .bool (!r) ∧ Aft X pins σ B μ G H s')) X.xe) x y xs.length (LpI X pins σ B μ G H f xs ys r) (fun i s' l => ?_) (fun s' l => ?_) ⟨G, H, .refl o, J, h⟩
    · obtain ⟨G1, H1, g1, J1, hp⟩ := id l
      obtain ⟨vs1, sx1, rx1⟩ := kx G1 H1 g1
      obtain ⟨ws1, sy1, ry1⟩ := ky G1 H1 g1
      obtain ⟨w1, jts, m, qu, f1⟩ := J1.hok x _ sx1
      obtain ⟨w2, jts2, m2, qw, f2⟩ := J1.hok y _ sy1
      refine ⟨jts.toArray, jts2.toArray, m, m2, f1, f2, by rw [List.size_toArray, ← qu.length, rx1.length], by rw [List.size_toArray, ← qw.length, ry1.length, el], fun h1 h2 => ?_⟩
      refine wpAny_mono (lp_turn eb hf hh hr g1 J1 hp rx1 ry1 qu qw h1 h2) (fun v s2 hv => ?_) fun _ _ z => z
      rcases hv with hv | ⟨rfl, rfl, G2, H2, g2, J2⟩
      · exact .inl hv
      · obtain ⟨vs2, sx2, rx2⟩ := kx G2 H2 g2
        obtain ⟨ws2, sy2, ry2⟩ := ky G2 H2 g2
        obtain ⟨w3, kts, m3, qu3, f3⟩ := J2.hok x _ sx2
        obtain ⟨w4, kts2, m4, qw4, f4⟩ := J2.hok y _ sy2
        exact .inr ⟨rfl, ⟨kts.toArray, kts2.toArray, m3, m4, f3, f4, by rw [List.size_toArray, ← qu3.length, rx2.length], by rw [List.size_toArray, ← qw4.length, ry2.length, el]⟩, (fun z => nomatch z), rfl, G2, H2, g2, J2⟩
    · obtain ⟨G1, H1, g1, J1, hp⟩ := l
      rw [List.drop_length, el, List.drop_length] at hp
      cases hp
      exact ⟨(fun z => nomatch z), rfl, G1, H1, g1, J1⟩
theorem lsk_lst {K : Frg} {B : BX} {μ : Mu} {G H : Hp} {x : Addr} {xs : List PV} {vs : List V} (h : G x = some (.lst vs)) (r : Reps K B G xs vs) : LsK K B μ G H x xs := fun G' H' g => ⟨vs, g.ok.sub _ _ (g.gx _ _ h), r.mono g.gx⟩
theorem lsk_cell {K : Frg} {B : BX} {μ : Mu} {G H : Hp} {x : Addr} {xs : List PV} (h : μ x = some (.lst xs)) : LsK K B μ G H x xs := fun G' H' g => by
  obtain ⟨_, _, u, e, vs, rfl, rs⟩ := g.ok.cell x _ h
  exact ⟨vs, e, rs⟩
theorem eb_deq (q : QOk X k Q) : ∀ t, EB X k t (deq Q t) := by
  have flat : ∀ {t : Nat} {A' : Around} {pins : List (Addr × Obj)} {σ : L2.St} {H G : Hp} {B : BX} {μ : Mu} {s : Shared} {a b : PV} {va vb : V} {u w : Value} {r : Bool}, Inv X pins σ H s → Ok X.K B μ G H → Rep X.K B G a va → Rep X.K B G b vb → RelV va u → RelV vb w → eqS a b = some r → wpAny (model X.prog X.w) A' (eqBool u w) (fun v s' => v = r ∧ Aft X pins σ B μ G H s') X.xe s := fun {t A' pins σ H G B μ s a b va vb u w r} J o ra rb ru rw' h => by
    obtain ⟨f1, f2, e⟩ := eqS_flat h ra rb
    have := eqAt_V (A := A') (s := s) ru rw' f1 f2
    rw [e] at this
    exact this X.prog X.w X.xe _ ⟨rfl, G, H, .refl o, J⟩
  have ob : ∀ {t : Nat} {A' : Around} {pins : List (Addr × Obj)} {σ : L2.St} {H G : Hp} {B : BX} {μ : Mu} {s : Shared} {c : Cl} {xs : List PV} {b : PV} {va vb : V} {u w : Value} {r : Bool}, A'.frames = X.A.frames → A'.handled = X.A.handled → RmT k t A' → Inv X pins σ H s → Ok X.K B μ G H → Rep X.K B G (.obj c xs) va → Rep X.K B G b vb → RelV va u → RelV vb w → deqO Q c xs b = some r → wpAny (model X.prog X.w) A' (eqBool u w) (fun v s' => v = r ∧ Aft X pins σ B μ G H s') X.xe s := fun {t A' pins σ H G B μ s c xs b va vb u w r} hf hh hr J o ra rb ru rw' h => by
    have rc := rc_obj q hf hh hr J o ra rb ru rw' h
    obtain ⟨x, dx, vs, ev, _⟩ := ra.obj_inv
    have ru' := ru
    rw [ev] at ru' ra
    obtain rfl : u = Value.ref x := ru'
    have hs : Same (deq Q 0) := same_deq (fun c f hm => (q.ok c f hm).1) 0
    have asref : ∀ {y : Addr}, vb = .ref y → wpAny (model X.prog X.w) A' (eqBool (.ref x) w) (fun v s' => v = r ∧ Aft X pins σ B μ G H s') X.xe s := fun {y} e => by
      rw [e] at rw' rb
      obtain rfl : w = Value.ref y := rw'
      exact eb_rc (t := 0) q.ka hs J o ra rb h rc
    have asval : (∀ y, w ≠ .ref y) → wpAny (model X.prog X.w) A' (eqBool (.ref x) w) (fun v s' => v = r ∧ Aft X pins σ B μ G H s') X.xe s := fun hw => eb_ref hw (wpAny_mono rc (fun v s' hv => ⟨r, hv.1, rfl, hv.2⟩) fun _ _ z => z)
    cases b with
    | obj d ys => obtain ⟨y, _, _, e, _⟩ := rb.obj_inv; exact asref e
    | tup ys => obtain ⟨y, _, e, _⟩ := rb.tup_inv; exact asref e
    | lst ys => obtain ⟨y, _, e, _⟩ := rb.lst_inv; exact asref e
    | int i => rw [rb.int_inv] at rw'; obtain ⟨_, rfl⟩ := rw'; exact asval fun _ z => nomatch z
    | str i => rw [rb.str_inv] at rw'; obtain ⟨_, rfl⟩ := rw'; exact asval fun _ z => nomatch z
    | bl i => rw [rb.bl_inv] at rw'; cases rw'; exact asval fun _ z => nomatch z
    | non => rw [rb.non_inv] at rw'; cases rw'; exact asval fun _ z => nomatch z
    | _ => cases h
  intro t
  induction t with
  | zero =>
    intro A' pins σ H G B μ s a b va vb u w r hf hh hr J o ra rb ru rw' h
    cases a with
    | obj c xs => exact ob hf hh hr J o ra rb ru rw' h
    | _ => exact flat (t := 0) J o ra rb ru rw' h
  | succ t ih =>
    intro A' pins σ H G B μ s a b va vb u w r hf hh hr J o ra rb ru rw' h
    have hs : Same (deq Q (t + 1)) := same_deq (fun c f hm => (q.ok c f hm).1) (t + 1)
    cases a with
    | obj c xs => exact ob hf hh hr J o ra rb ru rw' h
    | tup xs =>
      cases b with
      | tup ys =>
        obtain ⟨x, vs, rfl, sx, rx⟩ := ra.tup_inv
        obtain ⟨y, ws, rfl, sy, ry⟩ := rb.tup_inv
        obtain rfl : u = Value.ref x := ru
        obtain rfl : w = Value.ref y := rw'
        exact eb_rc (t := t) q.ka hs J o ra rb h (rc_tup_eq ih hf hh hr J o (o.sub.t sx) (o.sub.t sy) rx ry h)
      | _ => exact flat (t := 0) J o ra rb ru rw' h
    | lst xs =>
      cases b with
      | lst ys =>
        obtain ⟨x, vs, rfl, sx, rx⟩ := ra.lst_inv
        obtain ⟨y, ws, rfl, sy, ry⟩ := rb.lst_inv
        obtain rfl : u = Value.ref x := ru
        obtain rfl : w = Value.ref y := rw'
        exact eb_rc (t := t) q.ka hs J o ra rb h (rc_lst_eq ih hf hh hr J o (lsk_lst sx rx) (lsk_lst sy ry) h)
      | _ => exact flat (t := 0) J o ra rb ru rw' h
    | _ => exact flat (t := 0) J o ra rb ru rw' h
/-- a == b, a != b as readings: tuples and lists at most ten deep -/
def deqT (Q : Qt) (neg : Bool) (μ : Mu) (a b : PV) : Option Bool := match a with
  | .obj c xs => (match neg with
    | true => none
    | false => deqO Q c xs b)
  | a => (match deq Q 10 (rdL μ a) (rdL μ b) with
    | some r => some (sgn neg r)
    | none => none)
/-- .. not looked into -/
@[irreducible] def deqL (Q : Qt) (neg : Bool) (μ : Mu) (a b : PV) : Option Bool := deqT Q neg μ a b
theorem deqL_eq (Q : Qt) (neg : Bool) (μ : Mu) (a b : PV) : deqL Q neg μ a b = deqT Q neg μ a b := by unfold deqL; rfl
def eqQ (Q : Qt) (neg : Bool) : FO := fun a b μ q _ => match eqS a b with
  | some k => q (.bl (sgn neg k)) μ
  | none => (match deqL Q neg μ a b with
    | some r => q (.bl r) μ
    | none => False)
theorem deqT_flat {Q : Qt} {neg : Bool} {μ : Mu} {a b : PV} {k : Bool} (h : eqS a b = some k) : deqT Q neg μ a b = some (sgn neg k) := by
  cases a <;> cases b <;> first | (cases h; done) | (cases h; rfl)
theorem eqQ_inv {Q : Qt} {neg : Bool} {a b : PV} {μ : Mu} {q : QV} {x : QX} (h : eqQ Q neg a b μ q x) : ∃ r, deqT Q neg μ a b = some r ∧ q (.bl r) μ := by
  unfold eqQ at h
  cases e0 : eqS a b with
  | some k => simp only [e0] at h; exact ⟨_, deqT_flat e0, h⟩
  | none =>
    simp only [e0, deqL_eq] at h
    cases e : deqT Q neg μ a b with
    | none => simp only [e] at h
    | some r => simp only [e] at h; exact ⟨r, rfl, h⟩
/-- a list or its cell -/
theorem rdL_lst {K : Frg} {B : BX} {μ : Mu} {G H : Hp} {p : PV} {v : V} {xs : List PV} (r : Rep K B G p v) (h : rdL μ p = .lst xs) : ∃ x, v = .ref x ∧ LsK K B μ G H x xs := by
  unfold rdL at h
  split at h
  · rename_i a
    split at h
    · rename_i ys e
      cases h
      exact ⟨a, r.cell_inv, lsk_cell e⟩
    · cases h
  · rw [h] at r
    obtain ⟨x, vs, rfl, e, rs⟩ := r.lst_inv
    exact ⟨x, rfl, lsk_lst e rs⟩
theorem rdL_other {μ : Mu} {p : PV} (h : ∀ xs, rdL μ p ≠ .lst xs) : rdL μ p = p := by
  unfold rdL at h ⊢
  split
  · rename_i a
    split
    · rename_i ys e
      simp only [e] at h
      exact absurd rfl (h ys)
    · rfl
  · rfl
theorem deqT_some {Q : Qt} {neg : Bool} {μ : Mu} {a b : PV} {k : Bool} (h : deqT Q neg μ a b = some k) (ho : ∀ c xs, a ≠ .obj c xs) : ∃ r, deq Q 10 (rdL μ a) (rdL μ b) = some r ∧ sgn neg r = k := by
  have h : (match deq Q 10 (rdL μ a) (rdL μ b) with | some r => some (sgn neg r) | none => none) = some k := by
    cases a <;> first | exact h | exact absurd rfl (ho _ _)
  cases e : deq Q 10 (rdL μ a) (rdL μ b) with
  | none => rw [e] at h; cases h
  | some r => rw [e] at h; exact ⟨r, rfl, Option.some.inj h⟩
theorem deqT_of {Q : Qt} {μ : Mu} {a b : PV} {k : Bool} (h : deq Q 10 a b = some k) : deqT Q false μ a b = some k := by
  have nc : ∀ {p : PV}, (∀ z, p ≠ .cell z) → rdL μ p = p := fun {p} hp => by
    cases p <;> first | rfl | exact absurd rfl (hp _)
  have hb : (∀ c xs, a ≠ .obj c xs) → ∀ z, b ≠ .cell z := fun ho z e => by
    subst e
    cases a <;> first | cases h | exact absurd rfl (ho _ _)
  have ha : ∀ z, a ≠ .cell z := fun z e => by
    subst e
    cases b <;> cases h
  by_cases ho : ∃ c xs, a = .obj c xs
  · obtain ⟨c, xs, rfl⟩ := ho
    exact h
  · have e : deqT Q false μ a b = (match deq Q 10 (rdL μ a) (rdL μ b) with | some r => some (sgn false r) | none => none) := by
      cases a <;> first | rfl | exact absurd ⟨_, _, rfl⟩ ho
    rw [e, nc ha, nc (hb fun c xs z => ho ⟨c, xs, z⟩), h] <;> rfl
theorem deqL_of {Q : Qt} {μ : Mu} {a b : PV} {k : Bool} (h : deq Q 10 a b = some k) : deqL Q false μ a b = some k := (deqL_eq _ _ _ _ _).trans (deqT_of h)
theorem oj_eqQ {W : WX} (q : QOk X k Q) (hr : Rm (k + 1) X.A) : OpJ X W (compareOp .Eq) (eqQ Q false) := by
  intro pins s σ H B ρ μ G a b va vb u w qq x Qv J R ra rb ru rw' h gv gx
  have o := R.ok
  have rm : RmT k (10 + 1) X.A := ⟨(RmT.of hr).dp, by have := (RmT.of hr).un; omega, (RmT.of hr).gd⟩
  have fin : ∀ {r : Bool}, qq (.bl r) μ → wpAny (model X.prog X.w) X.A (richCompare .Eq u w) (fun v s' => v = .bool r ∧ Aft X pins σ B μ G H s') X.xe s → wpAny (model X.prog X.w) X.A (compareOp .Eq u w) (EP X pins σ Qv) X.xe s := fun {r} hq hw =>
    wpAny_mono (show wpAny (model X.prog X.w) X.A (compareOp .Eq u w) _ X.xe s from hw) (fun v s' ⟨e, G', H', g, J'⟩ => by subst e; exact ⟨.bl r, H', J', rfl, gv _ _ _ _ _ hq g (rep_bl r)⟩) fun _ _ z => z
  have flat : ∀ {r : Bool}, eqS a b = some r → qq (.bl r) μ → wpAny (model X.prog X.w) X.A (compareOp .Eq u w) (EP X pins σ Qv) X.xe s := fun {r} he hq =>
    oj_eqS pins s σ H B ρ μ G a b va vb u w qq x Qv J R ra rb ru rw' (by show (match eqS a b with | some k => qq (.bl (sgn false k)) μ | none => False); rw [he]; exact hq) gv gx
  obtain ⟨r0, hT, hQ⟩ := eqQ_inv h
  clear h
  have rest : (match deq Q 10 (rdL μ a) (rdL μ b) with | some r => qq (.bl (sgn false r)) μ | none => False) → (∀ c xs, a ≠ .obj c xs) → wpAny (model X.prog X.w) X.A (compareOp .Eq u w) (EP X pins σ Qv) X.xe s := fun h0 hno => by
    clear hQ hT
    cases e : deq Q 10 (rdL μ a) (rdL μ b) with
    | none => simp only [e] at h0
    | some r =>
      simp only [e] at h0
      by_cases ha : ∃ xs, rdL μ a = .lst xs
      · by_cases hb : ∃ ys, rdL μ b = .lst ys
        · obtain ⟨xs, ea⟩ := ha
          obtain ⟨ys, eb⟩ := hb
          obtain ⟨x, rfl, kx⟩ := rdL_lst (H := H) ra ea
          obtain ⟨y, rfl, ky⟩ := rdL_lst (H := H) rb eb
          obtain rfl : u = Value.ref x := ru
          obtain rfl : w = Value.ref y := rw'
          rw [ea, eb] at e
          exact fin h0 (rc_lst_eq (eb_deq q 9) rfl rfl ⟨rm.dp, by have := rm.un; omega, rm.gd⟩ J o kx ky e)
        · obtain ⟨xs, ea⟩ := ha
          rw [ea] at e
          cases eb : rdL μ b <;> rw [eb] at e <;> first | cases e | exact absurd ⟨_, eb⟩ hb
      · have ea := rdL_other fun xs z => ha ⟨xs, z⟩
        rw [ea] at e
        cases a with
        | obj c xs => exact absurd rfl (hno c xs)
        | lst xs => exact absurd ⟨xs, rfl⟩ ha
        | tup xs =>
          by_cases hb : ∃ ys, rdL μ b = .lst ys
          · obtain ⟨ys, eb⟩ := hb
            rw [eb] at e
            cases e
          · have eb := rdL_other fun xs z => hb ⟨xs, z⟩
            rw [eb] at e
            cases b with
            | tup ys =>
              obtain ⟨x, vs, rfl, sx, rx⟩ := ra.tup_inv
              obtain ⟨y, ws, rfl, sy, ry⟩ := rb.tup_inv
              obtain rfl : u = Value.ref x := ru
              obtain rfl : w = Value.ref y := rw'
              exact fin h0 (rc_tup_eq (eb_deq q 9) rfl rfl ⟨rm.dp, by have := rm.un; omega, rm.gd⟩ J o (o.sub.t sx) (o.sub.t sy) rx ry e)
            | _ => cases e
        | _ =>
          have e2 : eqS _ (rdL μ b) = some r := e
          have eb : rdL μ b = b := rdL_other fun ys z => by rw [z] at e2; cases e2
          rw [eb] at e2
          exact flat e2 h0
  cases a with
  | obj c xs => exact fin hQ (rc_obj q rfl rfl rm J o ra rb ru rw' hT)
  | _ =>
    refine rest ?_ (fun _ _ z => nomatch z)
    obtain ⟨r, e, er⟩ := deqT_some hT (fun _ _ z => nomatch z)
    rw [e]
    rw [← er] at hQ
    exact hQ
theorem oj_neQ {W : WX} (q : QOk X k Q) (hr : Rm (k + 1) X.A) : OpJ X W (compareOp .NotEq) (eqQ Q true) := by
  intro pins s σ H B ρ μ G a b va vb u w qq x Qv J R ra rb ru rw' h gv gx
  have o := R.ok
  have rm : RmT k (10 + 1) X.A := ⟨(RmT.of hr).dp, by have := (RmT.of hr).un; omega, (RmT.of hr).gd⟩
  have fin : ∀ {r : Bool}, qq (.bl (!r)) μ → wpAny (model X.prog X.w) X.A (richCompare .NotEq u w) (fun v s' => v = .bool (!r) ∧ Aft X pins σ B μ G H s') X.xe s → wpAny (model X.prog X.w) X.A (compareOp .NotEq u w) (EP X pins σ Qv) X.xe s := fun {r} hq hw =>
    wpAny_mono (show wpAny (model X.prog X.w) X.A (compareOp .NotEq u w) _ X.xe s from hw) (fun v s' ⟨e, G', H', g, J'⟩ => by subst e; exact ⟨.bl (!r), H', J', rfl, gv _ _ _ _ _ hq g (rep_bl _)⟩) fun _ _ z => z
  have flat : ∀ {r : Bool}, eqS a b = some r → qq (.bl (!r)) μ → wpAny (model X.prog X.w) X.A (compareOp .NotEq u w) (EP X pins σ Qv) X.xe s := fun {r} he hq =>
    oj_neS pins s σ H B ρ μ G a b va vb u w qq x Qv J R ra rb ru rw' (by show (match eqS a b with | some k => qq (.bl (sgn true k)) μ | none => False); rw [he]; exact hq) gv gx
  obtain ⟨r0, hT, hQ⟩ := eqQ_inv h
  clear h
  have rest : (match deq Q 10 (rdL μ a) (rdL μ b) with | some r => qq (.bl (sgn true r)) μ | none => False) → (∀ c xs, a ≠ .obj c xs) → wpAny (model X.prog X.w) X.A (compareOp .NotEq u w) (EP X pins σ Qv) X.xe s := fun h0 hno => by
    clear hQ hT
    cases e : deq Q 10 (rdL μ a) (rdL μ b) with
    | none => simp only [e] at h0
    | some r =>
      simp only [e] at h0
      by_cases ha : ∃ xs, rdL μ a = .lst xs
      · by_cases hb : ∃ ys, rdL μ b = .lst ys
        · obtain ⟨xs, ea⟩ := ha
          obtain ⟨ys, eb⟩ := hb
          obtain ⟨x, rfl, kx⟩ := rdL_lst (H := H) ra ea
          obtain ⟨y, rfl, ky⟩ := rdL_lst (H := H) rb eb
          obtain rfl : u = Value.ref x := ru
          obtain rfl : w = Value.ref y := rw'
          rw [ea, eb] at e
          exact fin h0 (rc_lst_ne (eb_deq q 9) rfl rfl ⟨rm.dp, by have := rm.un; omega, rm.gd⟩ J o kx ky e)
        · obtain ⟨xs, ea⟩ := ha
          rw [ea] at e
          cases eb : rdL μ b <;> rw [eb] at e <;> first | cases e | exact absurd ⟨_, eb⟩ hb
      · have ea := rdL_other fun xs z => ha ⟨xs, z⟩
        rw [ea] at e
        cases a with
        | obj c xs => exact absurd rfl (hno c xs)
        | lst xs => exact absurd ⟨xs, rfl⟩ ha
        | tup xs =>
          by_cases hb : ∃ ys, rdL μ b = .lst ys
          · obtain ⟨ys, eb⟩ := hb
            rw [eb] at e
            cases e
          · have eb := rdL_other fun xs z => hb ⟨xs, z⟩
            rw [eb] at e
            cases b with
            | tup ys =>
              obtain ⟨x, vs, rfl, sx, rx⟩ := ra.tup_inv
              obtain ⟨y, ws, rfl, sy, ry⟩ := rb.tup_inv
              obtain rfl : u = Value.ref x := ru
              obtain rfl : w = Value.ref y := rw'
              exact fin h0 (rc_tup_ne (eb_deq q 9) rfl rfl ⟨rm.dp, by have := rm.un; omega, rm.gd⟩ J o (o.sub.t sx) (o.sub.t sy) rx ry e)
            | _ => cases e
        | _ =>
          have e2 : eqS _ (rdL μ b) = some r := e
          have eb : rdL μ b = b := rdL_other fun ys z => by rw [z] at e2; cases e2
          rw [eb] at e2
          exact flat e2 h0
  cases a with
  | obj c xs => cases hT
  | _ =>
    refine rest ?_ (fun _ _ z => nomatch z)
    obtain ⟨r, e, er⟩ := deqT_some hT (fun _ _ z => nomatch z)
    rw [e]
    rw [← er] at hQ
    exact hQ
end
end Px
namespace Px
open PySem PySem.Spec PyProof.Rows L2
theorem prB_ok {K : Frg} {c : Cl} {f : Str} (h : prB K c f = true) : PropOf K (ca K c) f (He.ma K (ca K c) f) (prFn K (ca K c) f) := by
  obtain ⟨h1, h⟩ := He.ba h
  obtain ⟨h2, h⟩ := He.ba h
  obtain ⟨h3, h4⟩ := He.ba h
  refine ⟨?_, ?_, ?_, ?_⟩
  · unfold He.ma
    split at h1
    · rename_i a e
      rw [e]
    · cases h1
  · split at h2
    · rename_i g e
      rw [e, of_decide_eq_true h2]
    · cases h2
  · split at h3
    · assumption
    · cases h3
  · unfold prFn He5.wf
    split at h4
    · rename_i f r e
      exact ⟨r, by rw [e]⟩
    · cases h4
end Px
namespace Px
open PySem PySem.Spec PySem.Calls PyProof.Rows PySem.W
/-- the class's facts, checked -/
theorem excB_ok {K : Frag} {D : PySem.Addr} (h : excB K D = true) : L2.ExcC K D := by
  have b1 : ∀ {r n}, excB.isB r n = true → r = some (some (.builtin n)) := fun {r n} h => by
    unfold excB.isB at h; split at h
    · rw [of_decide_eq_true h]
    · cases h
  have b2 : ∀ {r}, excB.isN r = true → r = some none := fun {r} h => by
    unfold excB.isN at h; split at h
    · rfl
    · cases h
  have b3 : ∀ {r}, excB.isT r = true → r = some true := fun {r} h => by
    unfold excB.isT at h; split at h
    · rfl
    · cases h
  obtain ⟨h1, h⟩ := Bool.and_eq_true_iff.mp h
  obtain ⟨h2, h⟩ := Bool.and_eq_true_iff.mp h
  obtain ⟨h3, h⟩ := Bool.and_eq_true_iff.mp h
  obtain ⟨h4, h⟩ := Bool.and_eq_true_iff.mp h
  obtain ⟨h5, h⟩ := Bool.and_eq_true_iff.mp h
  obtain ⟨h6, h⟩ := Bool.and_eq_true_iff.mp h
  obtain ⟨h7, h8⟩ := Bool.and_eq_true_iff.mp h
  exact ⟨b1 h1, b2 h2, b3 h3, h4, b1 h5, b1 h6, b3 h7, b3 h8⟩
end Px
namespace Px
open PySem PySem.Spec PyProof.Rows L2
structure IsX (K : Frg) : Prop where
  ec : ∀ c, xcB K c = true → ExcC K (ca K c)
  xx : ∀ c d, xcB K c = true → xcB K d = true → PySem.W.kitOne K (.ref (ca K c)) (.ref (ca K d)) = some (subX c d)
  xv : ∀ c, xcB K c = true → PySem.W.kitOne K (.ref (ca K c)) (.type "ValueError") = some true
  ko : ∀ c, kcB K c = true → errC c = false
theorem eqOB_ok {a : Option Bool} {b : Bool} (h : eqOB a b = true) : a = some b := by
  unfold eqOB at h
  split at h
  · rw [eq_of_beq h]
  · cases h
theorem isxB_ok {K : Frg} {hs xs : List Cl} (hk : ∀ c, kcB K c = true → c ∈ hs) (hx : ∀ c, xcB K c = true → c ∈ xs) (h : isxB K hs xs = true) : IsX K := by
  obtain ⟨h0, h⟩ := He.ba h
  have g := fun c hc => He.ba (List.all_eq_true.mp h c (hx c hc))
  exact ⟨fun c hc => excB_ok (g c hc).1, fun c d hc hd => eqOB_ok (List.all_eq_true.mp (He.ba (g c hc).2).2 d (hx d hd)), fun c hc => eqOB_ok (He.ba (g c hc).2).1, fun c hc => by simpa using List.all_eq_true.mp h0 c (hk c hc)⟩
end Px
namespace Px
open PySem PySem.Spec PyProof.Rows L2
/-- a kind of members: how a value tells its key -/
structure Mk1 (P : Program) (w : World) (α : Type) [DecidableEq α] where
  kk : PySem.KeyKind P w α
  key : Value → α
  ok : Value → Prop
  iff : ∀ {v : Value} {k : α}, ok v → (kk.is k v = true ↔ key v = k)
  sc : ∀ {v : Value}, ok v → v.scannable = true
section
variable {P : Program} {w : World} {α : Type} [DecidableEq α] {M : Mk1 P w α} {A : Around} {E : Value → Shared → Prop} {s : Shared} {h h' : Heap} {a : Addr} {L : List α}
theorem Mk1.is (M : Mk1 P w α) {v : Value} (hv : M.ok v) : M.kk.is (M.key v) v = true := (M.iff hv).mpr rfl
def Mk1.good (M : Mk1 P w α) (e : Int × Value) : Prop := M.ok e.2 ∧ e.1 = M.kk.hash (M.key e.2)
def Mk1.keys (M : Mk1 P w α) (es : Array (Int × Value)) : List α := es.toList.map fun e => M.key e.2
/-- the table of a set that can be walked -/
structure Tab (w : World) (t : SetTable) (n : Nat) : Prop where
  fit : t.fits n = true
  ris : Ris t.place.toList
  led : w.params.followText "set-order" = true ∨ t.led = true
/-- the set at a: L its members, each once -/
structure Mset (M : Mk1 P w α) (h : Heap) (a : Addr) (L : List α) : Prop where
  ex : ∃ o es ep t, h.get? a = some o ∧ o.ExactSet ∧ o.data = .set es ep t ∧ (∀ e ∈ es.toList, M.good e) ∧ (M.keys es).Perm L ∧ Tab w t es.size
  nd : L.Nodup
  few : L.length < scanBound
theorem Mset.at (R : Mset M h a L) (k : ∀ o, h.get? a = some o → h'.get? a = some o) : Mset M h' a L := by
  obtain ⟨o, es, ep, t, ho, r⟩ := R.ex
  exact ⟨⟨o, es, ep, t, k o ho, r⟩, R.nd, R.few⟩
theorem Mk1.mem {es : Array (Int × Value)} (g : ∀ e ∈ es.toList, M.good e) (k : α) : k ∈ M.keys es ↔ ∃ e ∈ es.toList, M.kk.is k e.2 = true := by
  unfold Mk1.keys
  rw [List.mem_map]
  exact ⟨fun ⟨e, he, q⟩ => ⟨e, he, (M.iff (g e he).1).mpr q⟩, fun ⟨e, he, q⟩ => ⟨e, he, (M.iff (g e he).1).mp q⟩⟩
end
end Px
namespace Px
open PySem PySem.Spec PyProof.Rows L2
def ltT (x y : Str) : Bool := ltCps x.cps.toList y.cps.toList
theorem ltCps_irr : ∀ a : List Nat, ltCps a a = false
  | [] => rfl
  | a :: r => by
    show (decide (a < a) || (a == a && ltCps r r)) = false
    rw [ltCps_irr r]
    simp
theorem ltCps_tri : ∀ a b : List Nat, ltCps a b = false → ltCps b a = false → a = b
  | [], [], _, _ => rfl
  | [], _ :: _, h, _ => by cases h
  | _ :: _, [], _, h => by cases h
  | a :: r, b :: t, h, h' => by
    have h : (decide (a < b) || (a == b && ltCps r t)) = false := h
    have h' : (decide (b < a) || (b == a && ltCps t r)) = false := h'
    simp only [Bool.or_eq_false_iff, decide_eq_false_iff_not] at h h'
    have e : a = b := by omega
    subst e
    have h1 : ltCps r t = false := by simpa using h.2
    have h2 : ltCps t r = false := by simpa using h'.2
    rw [ltCps_tri r t h1 h2]
theorem ltCps_trans : ∀ a b c : List Nat, ltCps a b = true → ltCps b c = true → ltCps a c = true
  | [], [], c, h, _ => by cases h
  | [], _ :: _, [], _, h => by cases h
  | [], _ :: _, _ :: _, _, _ => rfl
  | _ :: _, [], c, h, _ => by cases h
  | _ :: _, _ :: _, [], _, h => by cases h
  | a :: r, b :: t, c :: u, h, h' => by
    have f : (decide (a < b) || (a == b && ltCps r t)) = true := h
    have f' : (decide (b < c) || (b == c && ltCps t u)) = true := h'
    show (decide (a < c) || (a == c && ltCps r u)) = true
    simp only [Bool.or_eq_true, decide_eq_true_eq, Bool.and_eq_true, beq_iff_eq] at f f' ⊢
    rcases f with f | ⟨e1, f⟩ <;> rcases f' with f' | ⟨e2, f'⟩
    · exact .inl (by omega)
    · exact .inl (by omega)
    · exact .inl (by omega)
    · exact .inr ⟨by omega, ltCps_trans r t u f f'⟩
theorem ltT_irr (x : Str) : ltT x x = false := ltCps_irr _
theorem ltT_tri {x y : Str} (h : ltT x y = false) (h' : ltT y x = false) : x = y := by
  have := ltCps_tri _ _ h h'
  obtain ⟨a⟩ := x
  obtain ⟨b⟩ := y
  have : a.toList = b.toList := this
  rw [Array.toList_inj.mp this]
theorem ltT_trans {x y z : Str} (h : ltT x y = true) (h' : ltT y z = true) : ltT x z = true := ltCps_trans _ _ _ h h'
/-- strictly rising -/
def upT (l : List Str) : Prop := l.Pairwise fun x y => ltT x y = true
theorem up_eq : ∀ {l m : List Str}, upT l → upT m → (∀ x, x ∈ l ↔ x ∈ m) → l = m
  | [], [], _, _, _ => rfl
  | [], y :: m, _, _, h => absurd ((h y).mpr List.mem_cons_self) (by simp)
  | x :: l, [], _, _, h => absurd ((h x).mp List.mem_cons_self) (by simp)
  | x :: l, y :: m, hl, hm, h => by
    obtain ⟨l1, l2⟩ := List.pairwise_cons.mp hl
    obtain ⟨m1, m2⟩ := List.pairwise_cons.mp hm
    have e : x = y := by
      rcases List.mem_cons.mp ((h x).mp List.mem_cons_self) with e | e
      · exact e
      · rcases List.mem_cons.mp ((h y).mpr List.mem_cons_self) with e2 | e2
        · exact e2.symm
        · have := ltT_trans (m1 x e) (l1 y e2)
          rw [ltT_irr] at this
          cases this
    subst e
    have nx : ∀ {k : List Str}, (∀ y ∈ k, ltT x y = true) → x ∉ k := fun hk hx => by
      have := hk x hx
      rw [ltT_irr] at this
      cases this
    rw [up_eq l2 m2 fun z => ⟨fun hz => ?_, fun hz => ?_⟩]
    · rcases List.mem_cons.mp ((h z).mp (List.mem_cons_of_mem _ hz)) with rfl | q
      · exact absurd hz (nx l1)
      · exact q
    · rcases List.mem_cons.mp ((h z).mpr (List.mem_cons_of_mem _ hz)) with rfl | q
      · exact absurd hz (nx m1)
      · exact q
def insT (x : Str) : List Str → List Str
  | [] => [x]
  | y :: r => if ltT x y = true then x :: y :: r else if x = y then y :: r else y :: insT x r
theorem mem_insT (x z : Str) : ∀ l, z ∈ insT x l ↔ z = x ∨ z ∈ l
  | [] => by simp [insT]
  | y :: r => by
    unfold insT
    split
    · exact List.mem_cons
    · split
      · rename_i e
        subst e
        simp
      · rw [List.mem_cons, mem_insT x z r, List.mem_cons]
        constructor
        · rintro (h | h | h)
          · exact .inr (.inl h)
          · exact .inl h
          · exact .inr (.inr h)
        · rintro (h | h | h)
          · exact .inr (.inl h)
          · exact .inl h
          · exact .inr (.inr h)
theorem up_insT (x : Str) : ∀ {l : List Str}, upT l → upT (insT x l)
  | [], _ => List.pairwise_singleton _ _
  | y :: r, h => by
    obtain ⟨h1, h2⟩ := List.pairwise_cons.mp h
    unfold insT
    split
    · rename_i e
      refine List.pairwise_cons.mpr ⟨fun z hz => ?_, h⟩
      rcases List.mem_cons.mp hz with rfl | hz
      · exact e
      · exact ltT_trans e (h1 z hz)
    · rename_i e
      split
      · exact h
      · rename_i ne
        refine List.pairwise_cons.mpr ⟨fun z hz => ?_, up_insT x h2⟩
        rcases (mem_insT x z r).mp hz with rfl | hz
        · cases e2 : ltT y z with
          | true => rfl
          | false => exact absurd (ltT_tri (by simpa using e) e2) ne
        · exact h1 z hz
/-- the texts of a list in order, each once -/
def sortU : List Str → List Str
  | [] => []
  | x :: l => insT x (sortU l)
theorem sortU_up : ∀ l, upT (sortU l)
  | [] => List.Pairwise.nil
  | x :: l => up_insT x (sortU_up l)
theorem mem_sortU (z : Str) : ∀ l, z ∈ sortU l ↔ z ∈ l
  | [] => Iff.rfl
  | x :: l => by
    show z ∈ insT x (sortU l) ↔ _
    rw [mem_insT, mem_sortU z l, List.mem_cons]
theorem sortU_of {l m : List Str} (h : upT m) (e : ∀ x, x ∈ m ↔ x ∈ l) : m = sortU l := up_eq h (sortU_up l) fun x => (e x).trans (mem_sortU x l).symm
end Px
namespace Px
open PySem PySem.Spec PyProof.Rows L2
end Px
namespace Px
open PySem PySem.Spec PyProof.Rows L2
end Px
namespace Px
open PySem PySem.Spec PyProof.Rows L2
/-- never falling -/
def riT (l : List Str) : Prop := l.Pairwise fun x y => ltT y x = false
theorem leT_trans {x y z : Str} (h : ltT y x = false) (h' : ltT z y = false) : ltT z x = false := by
  cases e : ltT z x with
  | false => rfl
  | true =>
    cases e2 : ltT x y with
    | true => rw [ltT_trans e e2] at h'; cases h'
    | false => rw [ltT_tri e2 h] at e; rw [e] at h'; cases h'
theorem rise_ri : ∀ (p : Str) (l : List Str), risingS p l = true → riT (p :: l)
  | p, [], _ => List.pairwise_singleton _ _
  | p, x :: r, h => by
    have h : (!ltT x p && risingS x r) = true := h
    obtain ⟨h1, h2⟩ := He.ba h
    have h1 : ltT x p = false := by simpa using h1
    have ri := rise_ri x r h2
    refine List.pairwise_cons.mpr ⟨fun y hy => ?_, ri⟩
    rcases List.mem_cons.mp hy with rfl | hy
    · exact h1
    · exact leT_trans h1 ((List.pairwise_cons.mp ri).1 y hy)
theorem sorted_ri {l : List Str} (h : sortedS l = true) : riT l := by
  cases l with
  | nil => exact List.Pairwise.nil
  | cons p r => exact rise_ri p r h
theorem ri_eq : ∀ {l m : List Str}, riT l → riT m → l.Perm m → l = m
  | [], m, _, _, h => (List.nil_perm.mp h).symm
  | x :: l, [], _, _, h => absurd (List.perm_nil.mp h) (by simp)
  | x :: l, y :: m, hl, hm, h => by
    obtain ⟨l1, l2⟩ := List.pairwise_cons.mp hl
    obtain ⟨m1, m2⟩ := List.pairwise_cons.mp hm
    have e : x = y := by
      rcases List.mem_cons.mp (h.mem_iff.mp List.mem_cons_self) with e | e
      · exact e
      · rcases List.mem_cons.mp (h.mem_iff.mpr List.mem_cons_self) with e2 | e2
        · exact e2.symm
        · exact ltT_tri (m1 x e) (l1 y e2)
    subst e
    rw [ri_eq l2 m2 h.cons_inv]
def insL (x : Str) : List Str → List Str
  | [] => [x]
  | y :: r => if ltT x y = true then x :: y :: r else y :: insL x r
theorem insL_perm (x : Str) : ∀ l, (insL x l).Perm (x :: l)
  | [] => .refl _
  | y :: r => by
    unfold insL
    split
    · exact .refl _
    · exact (List.Perm.cons y (insL_perm x r)).trans (List.Perm.swap x y r)
theorem ri_insL (x : Str) : ∀ {l : List Str}, riT l → riT (insL x l)
  | [], _ => List.pairwise_singleton _ _
  | y :: r, h => by
    obtain ⟨h1, h2⟩ := List.pairwise_cons.mp h
    unfold insL
    split
    · rename_i e
      have yx : ltT y x = false := by
        cases e2 : ltT y x with
        | false => rfl
        | true => have := ltT_trans e e2; rw [ltT_irr] at this; cases this
      refine List.pairwise_cons.mpr ⟨fun z hz => ?_, h⟩
      rcases List.mem_cons.mp hz with rfl | hz
      · exact yx
      · exact leT_trans yx (h1 z hz)
    · rename_i e
      refine List.pairwise_cons.mpr ⟨fun z hz => ?_, ri_insL x h2⟩
      rcases List.mem_cons.mp ((insL_perm x r).mem_iff.mp hz) with rfl | hz
      · simpa using e
      · exact h1 z hz
def sortL : List Str → List Str
  | [] => []
  | x :: l => insL x (sortL l)
theorem sortL_ri : ∀ l, riT (sortL l)
  | [] => List.Pairwise.nil
  | x :: l => ri_insL x (sortL_ri l)
theorem sortL_perm : ∀ l, (sortL l).Perm l
  | [] => .refl _
  | x :: l => (insL_perm x _).trans (List.Perm.cons x (sortL_perm l))
theorem sortL_of {l m : List Str} (h : sortedS m = true) (p : m.Perm l) : m = sortL l := ri_eq (sorted_ri h) (sortL_ri l) (p.trans (sortL_perm l).symm)
def rSortL (K : Frg) : List V → Hp → VK → Prop := fun vs H Q => ∃ (a : Addr) (xs : List Str), vs = [V.ref a] ∧ SqL K H a (xs.map V.str) ∧ ∀ p : Addr, H p = none → Q (.ref p) (upd H p (.lst ((sortL xs).map V.str)))
theorem cr_sortL {X : Cx} : CallR X (.builtin "sorted") (rSortL X.K) := by
  intro pins s σ H vs us Q J r h
  obtain ⟨a, xs, rfl, hs, q⟩ := h
  obtain ⟨its, rv, hl, hz⟩ := J.list hs
  rw [Vals.ref1 r]
  have hn := rv.length
  rw [List.length_map] at hn hz
  refine sorted_strsAny hl.isList rv.strs (by rw [← hn]; exact hz) fun out ys h1 h2 h3 => ?_
  obtain ⟨ep, he⟩ := sortedAll_at s.heap its out
  have hy := sortL_of h3 h2
  subst hy
  exact ⟨.ref _, upd H (s.heap.objs.size + 1) (.lst ((sortL xs).map V.str)), J.laid (t' := s.toks) (fun _ _ => sortedAll_old) (Nat.le_succ _) ⟨by rw [List.length_map, (sortL_perm xs).length_eq]; exact hz, out.toList, ep, vals_of_strs h1, he⟩, rfl, q _ (J.hok.fresh (Nat.le_succ _))⟩
def fSortL : Mu → List PV → (PV → Prop) → Prop := fun μ ps q => match ps with
  | [p] => (match seqOf μ p with
    | some (false, xs) => ∃ ss : List Str, xs = ss.map .str ∧ q (.lst ((sortL ss).map .str))
    | _ => False)
  | _ => False
theorem pcl_sortL {K : Frg} : PCl K (rSortL K) fSortL := fun B μ G H ps vs q Q o rs h gv => by
  unfold fSortL at h
  split at h
  · rename_i p
    split at h
    · rename_i xs e
      obtain ⟨ss, rfl, h⟩ := h
      obtain ⟨v, ws, rfl, r, rn⟩ := rs.cons_inv
      rw [rn.nil_inv]
      obtain ⟨a, us, rfl, r2, hh⟩ := seq_ok o r e
      rw [r2.strs] at hh
      rcases hh with ⟨_, hh⟩ | ⟨hh, _⟩
      · refine ⟨a, ss, rfl, .inl (.inl hh), fun p hp => ?_⟩
        exact gv _ _ _ _ h (o.new1 (u := .lst ((sortL ss).map V.str)) hp) (rep_lst upd_same (Reps.ofStrs _))
      · cases hh
    · exact h.elim
  · exact h.elim
theorem cj_sortL {X : Cx} {W : WX} : CaJ X W (.builtin "sorted") (fc fSortL) := .of cr_sortL pcl_sortL
end Px
namespace Px
open PySem PySem.Spec PyProof.Rows L2
end Px
namespace Px
open PySem PySem.Spec PyProof.Rows L2
def nxt (m i : Nat) : Nat := (i * 5 + 1) % (m + 1)
def roadL (m : Nat) : Nat → Nat → List Nat
  | 0, _ => []
  | n + 1, i => i :: roadL m n (nxt m i)
def fullM (m : Nat) : Bool := (List.range (m + 1)).all fun i => (List.range (m + 1)).all fun j => (roadL m (m + 1) i).contains j
/-- a mask under which every search goes everywhere -/
structure GoodM (m : Nat) : Prop where
  f : fullM m = true
  b : m ≤ 63
  s : 7 ≤ m
end Px
namespace Px
open PySem PySem.Spec PyProof.Rows L2
section
variable {P : Program} {w : World} {A : Around} {E : Value → Shared → Prop} {s : Shared} {r b : Addr} {M : Mk1 P w Str} {L : List Str}
/-- a set whose table is good -/
structure MsetG (M : Mk1 P w Str) (h : Heap) (a : Addr) (L : List Str) : Prop where
  ex : ∃ o es ep t, h.get? a = some o ∧ o.ExactSet ∧ o.data = .set es ep t ∧ (∀ e ∈ es.toList, M.good e) ∧ (M.keys es).Perm L ∧ Tab w t es.size ∧ GoodM t.mask
  nd : L.Nodup
  few : L.length < scanBound
theorem MsetG.m {h : Heap} {a : Addr} (R : MsetG M h a L) : Mset M h a L := by
  obtain ⟨o, es, ep, t, h1, h2, h3, h4, h5, h6, _⟩ := R.ex
  exact ⟨⟨o, es, ep, t, h1, h2, h3, h4, h5, h6⟩, R.nd, R.few⟩
end
end Px
namespace PySem.F
end PySem.F
namespace Px
open PySem PySem.Spec PyProof.Rows L2
end Px
namespace Px
open PySem PySem.Spec PyProof.Rows L2
end Px
namespace Px
open PySem PySem.Spec PyProof.Rows L2
end Px
namespace Px
open PySem PySem.Spec PyProof.Rows L2
end Px
namespace Px
open PySem PySem.Spec PyProof.Rows L2
/-- what a generator's promise tells: the items, the cells that must stay -/
def genV (ys : List PV) (ks : List Addr) : PV := .tup [.lst ys, .lst (ks.map .cell)]
/-- a generator def's code -/
structure GDef where
  mg : Str → Option Value
  N : List Str
  qual : Str
  scope : Scope
  f : Addr
  cd : Value
abbrev GP.of (P : Program) (w : World) (K : Frg) (base : Heap) (A : Around) (outer : List Env) (L : Addr) (B : BX) (ks : List Addr) (D : GDef) : GP := ⟨P, w, K, D.mg, base, D.N, D.qual, D.scope, D.f, D.cd, A, outer, L, B, ks⟩
/-- a new generator behind the state s -/
structure GNw (P : Program) (w : World) (K : Frg) (base : Heap) (k : Nat) (outer : List Env) (B : BX) (μ : Mu) (G H : Hp) (s s1 : Shared) (a : Addr) (g : Nat) (L : Addr) (oa : Obj) (gs : GenState) (ys : List PV) (ks : List Addr) : Prop where
  L1 : s.heap.objs.size ≤ L
  L2 : L < a
  a2 : a < s1.heap.objs.size
  ge : s1.heap.get? a = some oa
  isg : ∀ h : Heap, h.get? a = some oa → h.IsGen a g
  noc : ∀ v, oa.data ≠ .cell v
  gen : s1.gens[g]? = some gs
  fresh : ∃ c, gs = .fresh c
  os : s1.os = s.os
  bare : AllBare s1.gens
  keep : ∀ b o, s.heap.get? b = some o → s1.heap.get? b = some o
  own : ∃ o, s1.heap.get? L = some o ∧ ∀ v, o.data ≠ .cell v
  bsz : base.objs.size ≤ L
  wake : ∀ A : Around, A.handled = none → Rm k A → A.frames = some outer → ∃ D : GDef, (GP.of P w K base A outer L B ks D).env.cells = [] ∧ ∀ d : WD, Ready (GP.of P w K base A outer L B ks D) [] μ G H s1 d → WkG (model P w) A (TF (GP.of P w K base A outer L B ks D) ys d) gs d.s
/-- the generator def at f, called with n positional arguments and the keywords ks -/
def GnW (P : Program) (w : World) (K : Frg) (mg : Str → Option Value) (base : Heap) (k : Nat) (f : Addr) (n : Nat) (kn : List Str) (ct : Ct) : Prop :=
  ∀ (A : Around) (outer : List Env) (s : Shared) (H : Hp) (us ws : List Value) (vs : List V) (B : BX) (μ : Mu) (G : Hp) (as : List PV) (q : QV) (z : QX), A.handled = none → Rm k A → Env0 P w K mg base A outer s H → us.length = n → ws.length = kn.length → Vals vs (us ++ ws) → Ok K B μ G H → Reps K B G as vs → ct as μ q z →
    codeAny (model P w) A (.call (.ref f) ⟨us, kn.zip ws⟩) (fun r s1 => ∃ a g L oa gs ys ks, r = .ok (.ret (.ref a)) ∧ q (genV ys ks) μ ∧ GNw P w K base k outer B μ G H s s1 a g L oa gs ys ks) s
end Px
namespace Px
open PySem PySem.Spec PyProof.Rows L2
/-- no cell -/
def NoC (o : Obj) : Prop := ∀ v, o.data ≠ .cell v
/-- the consumer's view of how it sleeps -/
abbrev GP.at (X : Cx) (A : Around) (L : Addr) (B : BX) (ks : List Addr) (D : GDef) : GP := GP.of X.prog X.w X.K X.base A X.stack L B ks D
abbrev ownL (a L : Addr) (its : List (Addr × Obj)) : List Addr := a :: L :: its.map (·.1)
structure AslG (X : Cx) (Γ : GP) (pins : List (Addr × Obj)) (oa : Obj) (a : Addr) (g : Nat) (ys : List PV) (its : List (Addr × Obj)) (μ0 : Mu) (G0 H0 : Hp) (s0 : Shared) (H : Hp) (s : Shared) : Prop where
  ge : s.heap.get? a = some oa
  own : ∀ o, s0.heap.get? Γ.L = some o → s.heap.get? Γ.L = some o
  ownE : ∃ o, s0.heap.get? Γ.L = some o ∧ NoC o
  itO : ∀ p ∈ its, s.heap.get? p.1 = some p.2 ∧ NoC p.2 ∧ Γ.L ≤ p.1 ∧ p.1 ≠ Γ.L
  gen : ∃ gs, s.gens[g]? = some gs ∧ ((∃ c, gs = .fresh c) ∨ ∃ k l c p fs, gs = .suspended k l c p fs false) ∧ ∀ d, Ready Γ its μ0 G0 H0 s0 d → WkG (model X.prog X.w) Γ.A (TF Γ ys d) gs d.s
  fp : ∀ b ∈ ownL a Γ.L its, FpOk X pins H b
section
variable {X : Cx} {dk : Addr → Prop} {A1 : Around} {L a : Addr} {B : BX} {ks : List Addr} {D : GDef} {pins its : List (Addr × Obj)} {oa : Obj} {g : Nat} {ys : List PV} {μ0 μ : Mu} {G0 H0 G H : Hp} {s0 s : Shared} {σ : L2.St} {ρ : En}
theorem AslG.tnc {Γ : GP} (z : AslG X Γ pins oa a g ys its μ0 G0 H0 s0 H s) (hoa : NoC oa) : ∀ b ∈ ownL a Γ.L its, ∃ o, s.heap.get? b = some o ∧ ∀ v, o.data ≠ .cell v := fun b hb => by
  rcases List.mem_cons.mp hb with e | hb
  · rw [e]; exact ⟨oa, z.ge, hoa⟩
  · rcases List.mem_cons.mp hb with e | hb
    · rw [e]
      obtain ⟨o, e, n⟩ := z.ownE
      exact ⟨o, z.own _ e, n⟩
    · obtain ⟨p, hp, e⟩ := List.mem_map.mp hb
      rw [← e]
      obtain ⟨e1, e2, _⟩ := z.itO p hp
      exact ⟨_, e1, e2⟩
/-- the consumer ran on: the sleeper sleeps -/
theorem AslG.keep {Γ : GP} {σ' : L2.St} {H' : Hp} {s' : Shared} (z : AslG X Γ pins oa a g ys its μ0 G0 H0 s0 H s) (hoa : NoC oa) (I : Inv X (pins ++ pinsAt (ownL a Γ.L its) s.heap) σ' H' s') (hsus : ∃ k l c p fs, s.gens[g]? = some (GenState.suspended k l c p fs false))
    (hg : ∀ k l c p fs cl, s.gens[g]? = some (GenState.suspended k l c p fs cl) → s'.gens[g]? = some (GenState.suspended k l c p fs cl)) : AslG X Γ pins oa a g ys its μ0 G0 H0 s0 H' s' ∧ ∃ k l c p fs, s'.gens[g]? = some (GenState.suspended k l c p fs false) := by
  have pin : ∀ b ∈ ownL a Γ.L its, ∀ o, s.heap.get? b = some o → s'.heap.get? b = some o ∧ H' b = none := fun b hb o e => by
    have q := I.pin (b, o) (List.mem_append_right _ (List.mem_append_right _ (mem_pinsAt hb e)))
    exact ⟨q.1, q.2.1⟩
  obtain ⟨k, l, c, p, fs, es⟩ := hsus
  obtain ⟨gs, egs, hform, wk⟩ := z.gen
  have es' := hg _ _ _ _ _ _ es
  rw [es] at egs
  cases egs
  refine ⟨⟨(pin a List.mem_cons_self _ z.ge).1, fun o e => (pin Γ.L (List.mem_cons_of_mem _ List.mem_cons_self) o (z.own o e)).1, z.ownE, fun p hp => ?_, ⟨_, es', hform, wk⟩, fun b hb => ?_⟩, ⟨k, l, c, p, fs, es'⟩⟩
  · obtain ⟨e1, e2⟩ := z.itO p hp
    exact ⟨(pin p.1 (List.mem_cons_of_mem _ (List.mem_cons_of_mem _ (List.mem_map_of_mem hp))) _ e1).1, e2⟩
  · obtain ⟨o, e, _⟩ := z.tnc hoa b hb
    exact fpAt (z.fp b hb) (pin b hb o e).2
end
end Px
namespace Px
open PySem PySem.Spec PyProof.Rows L2
end Px
namespace Px
open PySem PySem.Spec PyProof.Rows L2
end Px
namespace Px
open PySem PySem.Spec PyProof.Rows L2
end Px
namespace HotX
open PySem PySem.Spec PyProof.Rows
section
variable {prog : Program} {w : World} {A : Around} {E : Value → Shared → Prop} {s : Shared}
theorem list_end_hot {it x1 l : Addr} {i : Nat} {items : Array Value} {Q : Option Value → Shared → Prop} (hot : HotAt A x1 s.heap) (hit : s.heap.IsListIter it l i) (hl : s.heap.IsList l items) (hx : items[i]? = none)
    (hQ : ∀ h', (∀ b o, b ≠ it → s.heap.get? b = some o → h'.get? b = some o) → Q none { s with heap := h' }) : wpAny (model prog w) A (pyNext (.ref it)) Q E s := by
  obtain ⟨o, ho, hc, hd⟩ := id hit
  obtain ⟨ol, hol, _, nl, hdl⟩ := hl
  obtain ⟨hh, o1, vs1, h1, d1, c1⟩ := hot
  have hne : x1 ≠ it := fun z => by
    rw [z, ho] at h1
    cases h1
    rw [hd] at d1
    cases d1
    cases c1
  unfold pyNext
  refine wpAny_bind (wpAny_attempt (wpAny_callSpecial?_slot (name := Str.ofString "__next__") hit.typeIs slot_listiter_next
    (wpAny_call_entry slot_listiter_next hit.typeIs entry_listiter_next ?_ (args_listiter_next _))))
  show wpAny _ _ (field (.ref it) 0 >>= _) _ _ s
  refine wpAny_bind (wpAny_field ho hd (x := .ref l) rfl ?_)
  show wpAny _ _ (if (Value.ref l == Value.none) = true then _ else _) _ _ s
  rw [if_neg (show ¬ ((Value.ref l == Value.none) = true) from Bool.false_ne_true)]
  show wpAny _ _ (field (.ref it) 1 >>= _) _ _ s
  refine wpAny_bind (wpAny_field ho hd (x := .int i 0) rfl ?_)
  show wpAny _ _ (seqItems? (.ref l) >>= _) _ _ s
  refine wpAny_bind (wpAny_seqItems hol hdl ?_)
  simp only [Int.toNat_natCast, hx]
  refine wpAny_bind (wpAny_rule (wpAny_bind (wpAny_setField ho hd (by simp) ?_)))
  show wpAny _ _ (newExc (.type "StopIteration") [] >>= _) _ _ _
  refine wpAny_bind ?_
  simp only [newExc, newTuple]
  refine wpAny_bind (wpAny_newObj_type ?_ (by size_fits))
  refine wpAny_bind (m := firstArgMember _ _) (wpAny_of_eq (a := Value.none) (by first | rfl | (simp only [firstArgMember]; rfl)) ?_)
  refine wpAny_newObj_type ?_ (by size_fits)
  have h1' := (Heap.get?_update_other s.heap (Obj.mapFields (·.setIfInBounds 0 .none)) (Ne.symm hne)).trans h1
  refine raiseNew_hot ⟨hh, o1, vs1, Heap.get?_push_of_some _ (Heap.get?_push_of_some _ h1'), d1, c1⟩ (Nat.ne_of_lt (Heap.lt_size (Heap.get?_push_of_some _ h1'))) (Heap.get?_push_size _ rfl) rfl (by first | (simp; done) | (simp; omega) | (simp only [Array.size_append]; simp; omega)) ?_
  refine wpAny_bind (wpAny_isInstance (T := "StopIteration") (b := true) ⟨_, Heap.get?_update_self _ (Heap.get?_push_size _ rfl) rfl, rfl⟩ isSubtype_stop ?_)
  refine wpAny_pure (hQ _ fun b o hb e => ?_)
  have e' := (Heap.get?_update_other s.heap (Obj.mapFields (·.setIfInBounds 0 .none)) (Ne.symm hb)).trans e
  rw [Heap.get?_update_other _ _ (Nat.ne_of_gt (Heap.lt_size (Heap.get?_push_of_some _ e')))]
  exact Heap.get?_push_of_some _ (Heap.get?_push_of_some _ e')
theorem tuple_end_hot {it x1 l : Addr} {i : Nat} {items : Array Value} {Q : Option Value → Shared → Prop} (hot : HotAt A x1 s.heap) (hit : s.heap.IsTupleIter it l i) (hl : s.heap.IsTuple l items) (hx : items[i]? = none)
    (hQ : ∀ h', (∀ b o, b ≠ it → s.heap.get? b = some o → h'.get? b = some o) → Q none { s with heap := h' }) : wpAny (model prog w) A (pyNext (.ref it)) Q E s := by
  obtain ⟨o, ho, hc, hd⟩ := id hit
  obtain ⟨ol, hol, _, nl, hdl⟩ := hl
  obtain ⟨hh, o1, vs1, h1, d1, c1⟩ := hot
  have hne : x1 ≠ it := fun z => by
    rw [z, ho] at h1
    cases h1
    rw [hd] at d1
    cases d1
    cases c1
  unfold pyNext
  refine wpAny_bind (wpAny_attempt (wpAny_callSpecial?_slot (name := Str.ofString "__next__") hit.typeIs F.slot_tuple_iterator_next
    (wpAny_call_entry F.slot_tuple_iterator_next hit.typeIs F.entry_tuple_iterator_next ?_ (F.args_tuple_iterator_next_1 _))))
  show wpAny _ _ (field (.ref it) 0 >>= _) _ _ s
  refine wpAny_bind (wpAny_field ho hd (x := .ref l) rfl ?_)
  show wpAny _ _ (if (Value.ref l == Value.none) = true then _ else _) _ _ s
  rw [if_neg (show ¬ ((Value.ref l == Value.none) = true) from Bool.false_ne_true)]
  show wpAny _ _ (field (.ref it) 1 >>= _) _ _ s
  refine wpAny_bind (wpAny_field ho hd (x := .int i 0) rfl ?_)
  show wpAny _ _ (seqItems? (.ref l) >>= _) _ _ s
  refine wpAny_bind (wpAny_seqItems hol hdl ?_)
  simp only [Int.toNat_natCast, hx]
  refine wpAny_bind (wpAny_rule (wpAny_bind (wpAny_setField ho hd (by simp) ?_)))
  show wpAny _ _ (newExc (.type "StopIteration") [] >>= _) _ _ _
  refine wpAny_bind ?_
  simp only [newExc, newTuple]
  refine wpAny_bind (wpAny_newObj_type ?_ (by size_fits))
  refine wpAny_bind (m := firstArgMember _ _) (wpAny_of_eq (a := Value.none) (by first | rfl | (simp only [firstArgMember]; rfl)) ?_)
  refine wpAny_newObj_type ?_ (by size_fits)
  have h1' := (Heap.get?_update_other s.heap (Obj.mapFields (·.setIfInBounds 0 .none)) (Ne.symm hne)).trans h1
  refine raiseNew_hot ⟨hh, o1, vs1, Heap.get?_push_of_some _ (Heap.get?_push_of_some _ h1'), d1, c1⟩ (Nat.ne_of_lt (Heap.lt_size (Heap.get?_push_of_some _ h1'))) (Heap.get?_push_size _ rfl) rfl (by first | (simp; done) | (simp; omega) | (simp only [Array.size_append]; simp; omega)) ?_
  refine wpAny_bind (wpAny_isInstance (T := "StopIteration") (b := true) ⟨_, Heap.get?_update_self _ (Heap.get?_push_size _ rfl) rfl, rfl⟩ isSubtype_stop ?_)
  refine wpAny_pure (hQ _ fun b o hb e => ?_)
  have e' := (Heap.get?_update_other s.heap (Obj.mapFields (·.setIfInBounds 0 .none)) (Ne.symm hb)).trans e
  rw [Heap.get?_update_other _ _ (Nat.ne_of_gt (Heap.lt_size (Heap.get?_push_of_some _ e')))]
  exact Heap.get?_push_of_some _ (Heap.get?_push_of_some _ e')
/-- the walk of a built-in over a list -/
theorem walks_listH (I ax x1 : Addr) (hne : ax ≠ I) (h1 : x1 ≠ I) (items : Array Value) :
    Walks prog w A I [I, ax, x1] [I] items.size (fun i v => items[i]? = some v) (fun i h => (h.IsListIter I ax i ∧ h.IsList ax items) ∧ HotAt A x1 h) where
  sub := fun b hb => by simp at hb; simp [hb]
  frame := fun _ _ _ st hk => ⟨⟨st.1.1.at fun o e => hk I (by simp) o e, st.1.2.at fun o e => hk ax (by simp) o e⟩, by
    obtain ⟨a, o, vs, b, c, d⟩ := st.2
    exact ⟨a, o, vs, hk x1 (by simp) o b, c, d⟩⟩
  item := fun i s Q E hi st hQ => by
    refine wpAny_pyNext_list_item st.1.1 st.1.2 (x := items[i]) (by simp [hi]) fun h' hit' hs' => ?_
    refine hQ _ h' s.toks (by simp [hi]) ⟨⟨hit', st.1.2.extBut hs'.extBut hne⟩, ?_⟩ fun b o hb e => hs'.extBut b o (fun h => hb (by simp [h])) e
    obtain ⟨a, o, vs, b, c, d⟩ := st.2
    exact ⟨a, o, vs, hs'.extBut x1 o h1 b, c, d⟩
  done := fun s Q E st hQ => list_end_hot st.2 st.1.1 st.1.2 (by simp) fun h' he' => hQ h' s.toks fun b o hb e => he' b o (fun h => hb (by simp [h])) e
  self := fun _ _ _ _ st hQ => wpAny_pyIter_listiter st.1.1 hQ
end
end HotX
namespace L2
open PySem PySem.Spec PyProof.Rows
theorem turn_listH {P : Program} {w : World} {K : PySem.W.Frag} {tg : Expr} (a it : Addr) : L2H.TurnH P w K tg (Itl K a) [it] it (fun i h => h.IsListIter it a i) where
  mem := by simp
  obj := fun i h st b hb => (turn_list (P := P) (w := w) (K := K) (tg := tg) a it).obj i h st b hb
  keep := fun i h h' st k => (turn_list (P := P) (w := w) (K := K) (tg := tg) a it).keep i h h' st k
  item := by
    intro X hP hw hK hc i pins s σ H E I hf st hg
    subst hP hw hK
    obtain ⟨xs, x, hq, hx⟩ := hg
    obtain ⟨its, rv, p, hz⟩ := I.list hq
    obtain ⟨u, hu, ru⟩ := rv.get hx
    obtain ⟨f0, f1, f2, f3, f4, f5⟩ := hf it (by simp)
    refine wpAny_pyNext_list_item st p.isList (x := u) (by simpa using hu) fun h' st' sb => ?_
    have I1 : Inv X pins σ H { s with heap := h' } := I.turned (t' := s.toks) (fun b o hb e => (sb.2 b hb).trans e) f0 f1 f3 f4 f5
    obtain ⟨o, e, c, d⟩ := id st'
    exact ⟨u, rfl, go_of (s := { s with heap := h' }) e c d (by decide) ⟨x, H, I1, ru, ⟨rfl, fun ys hy => by rw [I.list_inj hy hq]; exact hx⟩, st', fun b hb => (hf b hb).1⟩⟩
  done := by
    intro X hP hw hK hc i pins s σ H E I hf st hg
    subst hP hw hK
    obtain ⟨xs, hq, hx⟩ := hg
    obtain ⟨its, rv, p, hz⟩ := I.list hq
    obtain ⟨f0, f1, f2, f3, f4, f5⟩ := hf it (by simp)
    obtain ⟨x1, hot⟩ := hc.at I
    have hl := rv.length
    exact HotX.list_end_hot hot st p.isList (by simp; omega) fun h' eb => ⟨rfl, I.turned (t' := s.toks) (fun b o hb e => eb b o hb e) f0 f1 f3 f4 f5⟩
  self := fun A i s Q E st h => (turn_list (P := P) (w := w) (K := K) (tg := tg) a it).self A i s Q E st h
theorem turn_tupleH {P : Program} {w : World} {K : PySem.W.Frag} {tg : Expr} (a it : Addr) : L2H.TurnH P w K tg (Itt K a) [it] it (fun i h => h.IsTupleIter it a i) where
  mem := by simp
  obj := fun i h st b hb => (turn_tuple (P := P) (w := w) (K := K) (tg := tg) a it).obj i h st b hb
  keep := fun i h h' st k => (turn_tuple (P := P) (w := w) (K := K) (tg := tg) a it).keep i h h' st k
  item := by
    intro X hP hw hK hc i pins s σ H E I hf st hg
    subst hP hw hK
    obtain ⟨xs, x, hq, hx⟩ := hg
    obtain ⟨its, rv, p, hz⟩ := I.tuple hq
    obtain ⟨u, hu, ru⟩ := rv.get hx
    obtain ⟨f0, f1, f2, f3, f4, f5⟩ := hf it (by simp)
    refine wpAny_pyNext_tuple_item st (show s.heap.IsTuple a its.toArray from p) (x := u) (by simpa using hu) fun h' st' sb => ?_
    have I1 : Inv X pins σ H { s with heap := h' } := I.turned (t' := s.toks) (fun b o hb e => (sb.2 b hb).trans e) f0 f1 f3 f4 f5
    obtain ⟨o, e, c, d⟩ := id st'
    exact ⟨u, rfl, go_of (s := { s with heap := h' }) e c d (by decide) ⟨x, H, I1, ru, ⟨rfl, fun ys hy => by rw [I.tuple_inj hy hq]; exact hx⟩, st', fun b hb => (hf b hb).1⟩⟩
  done := by
    intro X hP hw hK hc i pins s σ H E I hf st hg
    subst hP hw hK
    obtain ⟨xs, hq, hx⟩ := hg
    obtain ⟨its, rv, p, hz⟩ := I.tuple hq
    obtain ⟨f0, f1, f2, f3, f4, f5⟩ := hf it (by simp)
    obtain ⟨x1, hot⟩ := hc.at I
    have hl := rv.length
    exact HotX.tuple_end_hot hot st (show s.heap.IsTuple a its.toArray from p) (by simp; omega) fun h' eb => ⟨rfl, I.turned (t' := s.toks) (fun b o hb e => eb b o hb e) f0 f1 f3 f4 f5⟩
  self := fun A i s Q E st h => (turn_tuple (P := P) (w := w) (K := K) (tg := tg) a it).self A i s Q E st h
/-- the block of a comprehension; the handled error stays pinned -/
abbrev blkH (X : Cx) (p : Addr × Obj) (s : Shared) (H : Hp) (scope : Scope) (cenv : Env) (fp : List Addr) : Cx := { X.blk s H scope cenv fp with pn := [p] }
def PinF (Y : Cx) (H : Hp) (s : Shared) (p : Addr × Obj) : Prop := s.heap.get? p.1 = some p.2 ∧ H p.1 = none ∧ p.1 ≠ Y.env.locals ∧ p.1 ∉ Y.fs ∧ ∀ v, p.2.data ≠ .cell v
theorem pinC {X : Cx} {s s' : Shared} {H H' : Hp} {scope : Scope} {cenv : Env} {fp : List Addr} {σ : St} {p : Addr × Obj} (I : Inv (X.blk s H scope cenv fp) [] σ H' s') (h : PinF (X.blk s H scope cenv fp) H' s' p) : Inv (blkH X p s H scope cenv fp) [] σ H' s' :=
  ⟨⟨I.ok.mod, I.ok.kind, I.ok.glob, I.ok.blt, I.ok.above, I.ok.inj, I.ok.has, I.ok.cab, I.ok.hd, I.ok.frames, I.ok.stk, I.ok.exf, I.ok.bs, I.ok.bsz, I.ok.noex, I.ok.exfs, I.ok.funs, I.ok.frf⟩, I.os, I.bare, I.base, I.loc, I.cell, I.free, I.freeC, fun q hq => by
    have e : q = p := by simpa using (show q ∈ ([p] : List (Addr × Obj)) ++ [] from hq)
    rw [e]
    exact h, I.hok, I.len⟩
theorem pinF {X : Cx} {pins : List (Addr × Obj)} {σ : St} {H : Hp} {s : Shared} {h' : Heap} {tk : Nat} {scope : Scope} {cl : List (Str × Addr)} {fp : List Addr} {p : Addr × Obj} (I : Inv X pins σ H s) (hp : p ∈ X.pn) (k : ∀ b o, s.heap.get? b = some o → h'.get? b = some o) :
    PinF (X.blk s H scope (compEnvC scope cl s.heap.objs.size X.env) fp) H { s with heap := h' } p := by
  obtain ⟨a1, a2, a3, a4, a5⟩ := I.pin p (List.mem_append_left _ hp)
  refine ⟨k _ _ a1, a2, fun z => ?_, fun z => ?_, a5⟩
  · have z : p.1 = s.heap.objs.size := z
    exact absurd (Heap.lt_size a1) (by rw [z]; exact Nat.lt_irrefl _)
  · have z : p.1 ∈ frs X.stack := z
    rcases I.ok.stk with e | ⟨e, e2⟩
    · rw [e] at z
      exact a4 z
    · rw [e] at z
      unfold frs at z
      rw [List.filterMap_cons, e2] at z
      rcases List.mem_cons.mp z with q | q
      · exact a3 q
      · exact a4 q
section
variable {X : Cx}
theorem lcH_core {pins : List (Addr × Obj)} {s : Shared} {σ : St} {H : Hp} {Q : VK} {elt tg iter : Expr} {ifs : List Expr} {scope : Scope} {own : List (Str × Nat)} {pos pos' : Pos} {wi : TI} {g : TG} {tt : TT} {te : TE} {use : Option (Value → Sem Unit)} {Qf : Value → Shared → Prop}
    (hc : L2H.HotC X) (hN : X.N.Nodup) (I : Inv X pins σ H s) (hi : L2H.PIH X tg iter wi) (ok : BlkOk X.N X.env.scope scope own)
    (hg : ∀ (p : Addr × Obj), L2H.Hot1 X.A p → ∀ (s : Shared) (H : Hp) (C : Addr) (cl : List (Str × Addr)) (fp : List Addr), PG (blkH X p s H scope (compEnvC scope cl C X.env) fp) tg g) (ht : ∀ (p : Addr × Obj), L2H.Hot1 X.A p → ∀ (s : Shared) (H : Hp) (C : Addr) (cl : List (Str × Addr)) (fp : List Addr), PTs (blkH X p s H scope (compEnvC scope cl C X.env) fp) ifs tt)
    (he : ∀ (p : Addr × Obj), L2H.Hot1 X.A p → ∀ (s : Shared) (H : Hp) (C : Addr) (cl : List (Str × Addr)) (fp : List Addr), PE (blkH X p s H scope (compEnvC scope cl C X.env) fp) elt te) (hs : ∀ x, foldedSetIterable iter X.env x = pure x)
    (h : tLc wi g tt te (own.map (·.2)) σ H Q)
    (hRR : ∀ D C s' m H', Inv X pins σ H' s' → Q (.ref D) H' → s'.heap.Ns C m → FpOk X pins H' C → compPost (model X.prog X.w) X.A X.xe use Qf (.ref D) C (.ok .next) s') :
    wpAny (model X.prog X.w) X.A (comprehension (.ListComp elt [⟨tg, iter, ifs, 0⟩] scope pos) scope X.env pos' (newList []) false (eval iter X.env) use) Qf X.xe s := by
  obtain ⟨p, hot1, hpn⟩ := hc
  have hfree : ∀ y ∈ scope.names, y.2 = .free → ∃ c, X.env.cells.lookup y.1 = some c := fun y hy e => by
    rcases ok.free y hy e with k | k
    · exact I.ok.has _ (.inl k)
    · exact I.ok.has _ (.inr k)
  refine wpAny_comprehension_free (use := use) rfl hs (closure_ok hfree) ok.kind (fun y hy e => by rw [ok.uniq y hy, e])
    (thn (hi.run pins s σ H _ I h) fun xv s1 hx => thn hx fun itv s2 h2 => ?_)
  obtain ⟨it, fp, tn, J, H2, e, I2, T, st2, f2, q⟩ := h2
  subst e
  refine wpAny_newObj_type (newEnv_comp ?_) (by show 0 ≤ sizeLine; decide)
  generalize hD : s2.heap.objs.size = D
  have hDn : H2 D = none := I2.hok.fresh (Nat.le_of_eq hD)
  obtain ⟨W, ⟨m0, w0⟩, turn⟩ := q D hDn
  -- the new list
  generalize hs3 : ({ s2 with heap := s2.heap.push { cls := .type "list", data := .seq ([] : List Value).toArray } } : Shared) = s3
  have I3 : Inv X pins σ (upd H2 D (.lst [])) s3 := by
    rw [← hs3]
    refine I2.laid (t' := s2.toks) (fun b o e => Heap.get?_push_of_some _ e) (Nat.le_of_eq hD) ⟨Nat.zero_le _, [], 0, .nil, ?_⟩
    rw [← hD]
    exact Heap.get?_push_size _ rfl
  have h3 : s3.heap = s2.heap.push { cls := .type "list", data := .seq ([] : List Value).toArray } := by rw [← hs3]
  have sz : ∀ b ∈ fp, b < s2.heap.objs.size := fun b hb => by
    obtain ⟨o, e, _⟩ := T.obj _ _ st2 b hb
    exact Heap.lt_size e
  have f3 : ∀ b ∈ fp, FpOk X pins (upd H2 D (.lst [])) b ∧ b < s3.heap.objs.size := fun b hb => by
    have hlt := sz b hb
    refine ⟨⟨?_, (f2 b hb).2⟩, by rw [h3, Heap.size_push]; exact Nat.lt_succ_of_lt hlt⟩
    rw [upd_ne (by rw [← hD]; exact Nat.ne_of_lt hlt)]
    exact (f2 b hb).1
  have st3 : tn 0 s3.heap := T.keep _ _ _ st2 fun b _ o e => by rw [h3]; exact Heap.get?_push_of_some _ e
  have I4 := pinC (p := p) (block_start I3 ok hN f3) (pinF (tk := s3.toks) I3 hpn (fun b o e => pushCells_keeps _ _ _ _ (Heap.get?_push_of_some _ e)))
  have pg := hg p hot1 s3 (upd H2 D (.lst [])) s3.heap.objs.size (cellsFrom (s3.heap.objs.size + 1) scope.names (cloFrom X.env.cells scope.names [])) fp
  have pt := ht p hot1 s3 (upd H2 D (.lst [])) s3.heap.objs.size (cellsFrom (s3.heap.objs.size + 1) scope.names (cloFrom X.env.cells scope.names [])) fp
  have pe := he p hot1 s3 (upd H2 D (.lst [])) s3.heap.objs.size (cellsFrom (s3.heap.objs.size + 1) scope.names (cloFrom X.env.cells scope.names [])) fp
  show codeAny _ _ (.compStart (.ListComp elt [⟨tg, iter, ifs, 0⟩] scope pos) 0 (.ref it) (.ref D) (compEnvC scope (cellsFrom (s3.heap.objs.size + 1) scope.names (cloFrom X.env.cells scope.names [])) s3.heap.objs.size X.env)) (compPost (model X.prog X.w) X.A X.xe use Qf (.ref D) s3.heap.objs.size) { s3 with heap := pushCells (s3.heap.push { cls := .type "dict", data := .dict #[] }) scope.names }
  have nfp : ∀ b ∈ fp, (upd H2 D (.lst [])) b = none := fun b hb => (f3 b hb).1.1
  generalize hce : compEnvC scope (cellsFrom (s3.heap.objs.size + 1) scope.names (cloFrom X.env.cells scope.names [])) s3.heap.objs.size X.env = ce at I4 pg pt pe ⊢
  have cL : ce.locals = s3.heap.objs.size := by subst hce; rfl
  generalize hH3 : upd H2 D (.lst []) = H3 at I3 I4 pg pt pe w0 nfp f3
  generalize hs4 : ({ s3 with heap := pushCells (s3.heap.push { cls := .type "dict", data := .dict #[] }) scope.names } : Shared) = s4 at I4 ⊢
  have st4 : tn 0 s4.heap := T.keep _ _ _ st3 fun b _ o e => by rw [← hs4]; exact pushCells_keeps _ _ _ _ (Heap.get?_push_of_some _ e)
  have stat : ∀ {σ' : St} {H' : Hp} {s' : Shared}, Inv (blkH X p s3 H3 scope ce fp) [] σ' H' s' → (∀ b ∈ fp, H' b = none) → ∀ b ∈ fp, FpOk (blkH X p s3 H3 scope ce fp) [] H' b := fun {σ' H' s'} I' hn b hb =>
    ⟨hn b hb, (I'.ok.exf b hb).1, I'.ok.exfs b hb, .inl hb, fun x c e => (I'.ok.exf b hb).2 x c e, fun q hq => by
      have e : q = p := by simpa using (show q ∈ ([p] : List (Addr × Obj)) ++ [] from hq)
      rw [e]
      exact (f3 b hb).1.2.2.2.2.2 p (List.mem_append_left _ hpn)⟩
  have hot : L2H.HotC (blkH X p s3 H3 scope ce fp) := ⟨p, hot1, List.mem_singleton.mpr rfl⟩
  have loop : codeAny (model X.prog X.w) X.A (.compLoop (.ListComp elt [⟨tg, iter, ifs, 0⟩] scope pos) 0 (.ref it) (.ref D) ce) (compPost (model X.prog X.w) X.A X.xe use Qf (.ref D) s3.heap.objs.size) s4 := by
    refine compLoop_any (fun n s' => ∃ i H', Inv (blkH X p s3 H3 scope ce fp) [] (wipe σ (own.map (·.2))) H' s' ∧ tn i s'.heap ∧ (∀ b ∈ fp, H' b = none) ∧ W i n H') ?_ m0 ⟨0, H3, I4, st4, nfp, w0⟩
    rintro n s5 ⟨i, H5, I5, st5, n5, w5⟩
    rcases turn i n H5 w5 with ⟨stop, qq⟩ | ⟨go, Nx, hNx, step⟩
    · have td := T.done (blkH X p s3 H3 scope ce fp) rfl rfl rfl hot i [] s5 _ H5 (fun _ _ => False) I5 (stat I5 n5) st5 stop
      refine thnF td fun r s6 ⟨hr, I6⟩ => ?_
      subst hr
      -- back in the def's context
      have I7 : Inv X pins σ H5 s6 := I3.call' (ch := fp) I6.os I6.base I6.hok I6.bare fun b hb => ⟨(f3 b hb).1.2.2.2.1, (f3 b hb).1.2.1, (f3 b hb).1.2.2.2.2.1, (f3 b hb).1.2.2.2.2.2⟩
      have nC : H5 s3.heap.objs.size = none := by
        have z : H5 ce.locals = none := I6.free
        rw [cL] at z
        exact z
      obtain ⟨m, hn, _⟩ := I6.loc
      have hn : s6.heap.Ns ce.locals m := hn
      rw [cL] at hn
      exact hRR D s3.heap.objs.size s6 m H5 I7 qq hn (I3.fpOk (Nat.le_refl _) nC)
    · have ti := T.item (blkH X p s3 H3 scope ce fp) rfl rfl rfl hot i [] s5 _ H5 (fun _ _ => False) I5 (stat I5 n5) st5 go
      refine thnF ti fun r s6 ⟨u, hr, h6⟩ => ?_
      subst hr
      refine thnF h6 fun _ s7 ⟨x, H7, I7, r7, y7, st7, n7⟩ => ?_
      have I7' := I7.pinned (stat I7 n7) (T.obj _ _ st7)
      refine thnF (pg.run _ s7 _ H7 x u _ I7' r7 (step x H7 y7)) fun _ s8 ⟨σ8, H8, I8, hw8, q8⟩ => ?_
      refine thnF (pt.run _ s8 σ8 H8 _ I8 q8) fun b s9 ⟨H9, I9, q9⟩ => ?_
      -- the turn's end
      have fin : ∀ {s' : Shared} {H' : Hp}, Inv (blkH X p s3 H3 scope ce fp) ([] ++ pinsAt fp s7.heap) σ8 H' s' → Nx H' → ∃ m, m < n ∧ ∃ i H', Inv (blkH X p s3 H3 scope ce fp) [] (wipe σ (own.map (·.2))) H' s' ∧ tn i s'.heap ∧ (∀ b ∈ fp, H' b = none) ∧ W i m H' := fun {s' H'} I' nx => by
        obtain ⟨m', hm, w'⟩ := hNx H' nx
        have pin' : ∀ b ∈ fp, ∀ o, s7.heap.get? b = some o → s'.heap.get? b = some o ∧ H' b = none := fun b hb o e =>
          let z := I'.pin (b, o) (List.mem_append_right _ (List.mem_append_right _ (mem_pinsAt hb e)))
          ⟨z.1, z.2.1⟩
        have hl : (wipe σ (own.map (·.2))).length = σ8.length := by rw [← hw8, wipe_length]
        refine ⟨m', hm, i + 1, H', (I'.unpinned (pins := [])).weak hl (fun j v e => ?_), T.keep _ _ _ st7 fun b hb o e => (pin' b hb o e).1, fun b hb => ?_, w'⟩
        · rw [← hw8] at e
          exact (wipe_some e).1
        · obtain ⟨o, e, _⟩ := T.obj _ _ st7 b hb
          exact (pin' b hb o e).2
      cases b with
      | false =>
        simp only [Bool.false_eq_true, if_false] at q9 ⊢
        exact fin I9 q9
      | true =>
        simp only [if_true] at q9 ⊢
        refine thnF (pe.run _ s9 σ8 H9 _ I9 q9) fun z s10 ⟨yv, H10, I10, r10, acc, hD10, hz10, nx⟩ => ?_
        exact app_ok (X := blkH X p s3 H3 scope ce fp) I10 hD10 hz10 r10 fun s11 I11 => fin I11 nx
  exact codeAny_compStart_list loop (T.self X.A 0 _ _ _ st4 loop)
theorem pe_lcH {elt tg iter : Expr} {ifs : List Expr} {scope : Scope} {own : List (Str × Nat)} {pos : Pos} {wi : TI} {g : TG} {tt : TT} {te : TE} (hc : L2H.HotC X) (hN : X.N.Nodup) (hi : L2H.PIH X tg iter wi) (ok : BlkOk X.N X.env.scope scope own)
    (hg : ∀ (p : Addr × Obj), L2H.Hot1 X.A p → ∀ (s : Shared) (H : Hp) (C : Addr) (cl : List (Str × Addr)) (fp : List Addr), PG (blkH X p s H scope (compEnvC scope cl C X.env) fp) tg g) (ht : ∀ (p : Addr × Obj), L2H.Hot1 X.A p → ∀ (s : Shared) (H : Hp) (C : Addr) (cl : List (Str × Addr)) (fp : List Addr), PTs (blkH X p s H scope (compEnvC scope cl C X.env) fp) ifs tt)
    (he : ∀ (p : Addr × Obj), L2H.Hot1 X.A p → ∀ (s : Shared) (H : Hp) (C : Addr) (cl : List (Str × Addr)) (fp : List Addr), PE (blkH X p s H scope (compEnvC scope cl C X.env) fp) elt te) (hs : ∀ x, foldedSetIterable iter X.env x = pure x := by intro _; rfl) :
    PE X (.ListComp elt [⟨tg, iter, ifs, 0⟩] scope pos) (tLc wi g tt te (own.map (·.2))) := by
  refine ⟨fun pins s σ H Q I h => ?_⟩
  rw [eval_ListComp]
  refine lcH_core hc hN I hi ok hg ht he hs h fun D C s' m H' I' q hn f => ⟨m, hn, fun h'' sb => ?_⟩
  obtain ⟨f0, f1, f2, f3, f4, f5⟩ := f
  exact ⟨.ref D, H', I'.turned (t' := s'.toks) (fun b o hb e => (sb.2 b hb).trans e) f0 f1 f3 f4 f5, rfl, q⟩
end
end L2
namespace L2
open PySem PySem.Spec PyProof.Rows
section
variable {X : Cx}
theorem cr_allH (hc : L2H.HotC X) : CallR X (.builtin "all") (rAll X.K) := by
  intro pins s σ H vs us Q I r h
  obtain ⟨a, bs, rfl, hs, q⟩ := h
  obtain ⟨its, rv, hl, _⟩ := I.list hs
  rw [Vals.ref1 r]
  have hb := rv.bls
  obtain ⟨x1, hot⟩ := hc.at I
  obtain ⟨hh, o1, vs1, g1, d1, c1⟩ := id hot
  refine call_all_walk (iter_any hl.isList fun s₂ e2 st hne => ?_)
  subst e2
  refine ⟨_, _, _, _, _, _, _, rfl, HotX.walks_listH (A := X.A.in1) _ a x1 hne (Nat.ne_of_lt (Heap.lt_size g1)) its.toArray, ⟨st, hh, o1, vs1, Heap.get?_push_of_some _ g1, d1, c1⟩, truth_bools hb, fun h' tk hk => ?_⟩
  refine ⟨.bl _, H, I.kept fun b o eo => hk b o (fun hmem => ?_) (Heap.get?_push_of_some _ eo), ?_, q⟩
  · rcases List.mem_cons.mp hmem with e1 | hmem
    · exact absurd (e1 ▸ Heap.lt_size eo) (Nat.lt_irrefl _)
    · cases hmem
  · show Value.bool _ = Value.bool _
    rw [← all_range, hb, List.size_toArray, List.length_map]
end
end L2
namespace Px
open PySem PySem.Spec PyProof.Rows L2
theorem piH_imp {X : Cx} {tg it : Expr} {t t' : TI} (h : L2H.PIH X tg it t) (i : ∀ σ H Q, t' σ H Q → t σ H Q) : L2H.PIH X tg it t' := ⟨fun pins s σ H Q J z => h.run pins s σ H Q J (i σ H Q z)⟩
abbrev IJH (X : Cx) (W : WX) (tg iter : Expr) (d : DI) : Prop := L2H.PIH X tg iter (tI X.K W d)
section
variable {X : Cx} {W : WX} {tg e : Expr} {es : List Expr} {pos p0 : Pos} {d : DE} {ds : DA}
/-- a list or a tuple, walked -/
theorem pi_seqH {tl : TE} (hl : PE X e tl) : L2H.PIH X tg e (fun σ H R => tl σ H fun x H1 => ∃ a, x = .ref a ∧ (((∃ xs, SqL X.K H1 a xs) ∧ R (Itl X.K a) H1) ∨ ((∃ xs, SqT X.K H1 a xs) ∧ R (Itt X.K a) H1))) := by
  refine ⟨fun pins s σ H R I h => ?_⟩
  refine thn (hl.run pins s σ H _ I h) fun v s1 ⟨x, H1, I1, r1, q1⟩ => ?_
  obtain ⟨a, e, ⟨⟨xs, hq⟩, q⟩ | ⟨⟨xs, hq⟩, q⟩⟩ := q1
  · subst e
    cases r1
    obtain ⟨its, rv, p, hz⟩ := I1.list hq
    refine wpAny_pyIter_list p.isList ?_
    refine ⟨s1.heap.objs.size, [s1.heap.objs.size], _, _, H1, rfl, I1.kept (t' := s1.toks) fun b o e => Heap.get?_push_of_some _ e, turn_listH a _, ⟨_, Heap.get?_push_size _ rfl, rfl, rfl⟩, fun b hb => ?_, q⟩
    have e : b = s1.heap.objs.size := by simpa using hb
    subst e
    exact I1.fpOk (Nat.le_refl _) (I1.hok.fresh (Nat.le_refl _))
  · subst e
    cases r1
    obtain ⟨its, rv, p, hz⟩ := I1.tuple hq
    refine wpAny_pyIter_tuple (show s1.heap.IsTuple a its.toArray from p) ?_
    refine ⟨s1.heap.objs.size, [s1.heap.objs.size], _, _, H1, rfl, I1.kept (t' := s1.toks) fun b o e => Heap.get?_push_of_some _ e, turn_tupleH a _, ⟨_, Heap.get?_push_size _ rfl, rfl, rfl⟩, fun b hb => ?_, q⟩
    have e : b = s1.heap.objs.size := by simpa using hb
    subst e
    exact I1.fpOk (Nat.le_refl _) (I1.hok.fresh (Nat.le_refl _))
theorem i_seqH (h : EJ X W e d) : IJH X W tg e (iSeq d) := piH_imp (pi_seqH h) fun σ H R ⟨B, ρ, μ, G, q, x, Rl, h, gv, gx⟩ =>
  ⟨B, ρ, μ, G, _, x, Rl, h, fun p v μ1 G1 H1 h1 g1 r1 => by
    cases p with
    | lst xs =>
      obtain ⟨a, vs, rfl, sq, rs⟩ := r1.lst_inv
      exact ⟨a, rfl, .inl ⟨⟨vs, .inl (.inl (g1.ok.sub _ _ sq))⟩, gv xs _ μ1 G1 H1 h1 g1 (itok_list (.inl (.inl sq)) rs)⟩⟩
    | tup xs =>
      obtain ⟨a, vs, rfl, sq, rs⟩ := r1.tup_inv
      exact ⟨a, rfl, .inr ⟨⟨vs, g1.ok.sub.t sq⟩, gv xs _ μ1 G1 H1 h1 g1 (itok_tup sq rs)⟩⟩
    | _ => exact h1.elim, gx⟩
theorem i_range1H (hm : X.mg "range" = none) (ha : AJ X W [e] ds) (hg : Gl X "range" := by rfl) (h1 : starEach [e] X.env = [(false, eval e X.env)] := by rfl) : IJH X W tg (.Call (.Name "range" p0) [e] [] pos) (iR1 ds) := piH_imp (L2H.pi_range1H hg hm ha h1) fun σ H R ⟨B, ρ, μ, G, q, x, Rl, h, gv, gx⟩ =>
  ⟨B, ρ, μ, G, _, x, Rl, h, fun ps vs μ1 G1 H1 h0 g1 r1 => by
    obtain ⟨n, rfl, b1, b2, h1⟩ := r1P_inv h0
    exact ⟨n, r1.int1, b1, b2, gv _ _ μ1 G1 H1 h1 g1 (itok_range 0 _)⟩, gx⟩
end
theorem s_forH {X : Cx} {W : WX} {tg iter : Expr} {body : List Stmt} {pos : Pos} {di : DI} {db : DS} {t : Tg} (hp : PassesOwn (model X.prog X.w) X.A X.env X.xe) (hc : L2H.HotC X) (hi : IJH X W tg iter di) (hg : PG X tg (tgOf X.K t)) (hb : BJ X W body db)
    (hs : ∀ x, foldedSetIterable iter X.env x = pure x := by intro _; rfl) : SJ X W (.For tg iter body [] pos) (dFor t di db) := ps_imp (L2H.ps_forH hp hc hi hg hb hs) fun D σ H ⟨B, ρ, μ, G, P, R, h, eo⟩ => by
  refine ⟨B, ρ, μ, G, _, _, R, h, fun xs J μ1 G1 H1 hf g1 io => ?_, eo.gx R⟩
  have eo1 := eo.go g1
  refine ⟨fun i m σ' H' => m = xs.length - i ∧ i ≤ xs.length ∧ ∃ ρ' μ' G', Rel X.K B ρ' μ' σ' G' H' ∧ Go X.K B μ1 G1 H1 μ' G' H' ∧ forD t db (xs.drop i) P ρ' μ', ⟨xs.length, by omega, Nat.zero_le _, ρ, μ1, G1, R.go g1, .refl g1.ok, hf.un⟩, ?_⟩
  rintro i m σ' H' ⟨rfl, hle, ρ', μ', G', R', g', hf'⟩
  by_cases hlt : i < xs.length
  · rw [drop_get hlt] at hf'
    refine .inr ⟨io.go i μ' G' H' g'.gx R'.ok hlt, fun σ2 H2 => ∃ ρ2 μ2 G2, Rel X.K B ρ2 μ2 σ2 G2 H2 ∧ Go X.K B μ1 G1 H1 μ2 G2 H2 ∧ forD t db (xs.drop (i + 1)) P ρ2 μ2, fun σ2 H2 ⟨ρ2, μ2, G2, R2, g2, h2⟩ => ⟨xs.length - (i + 1), by omega, rfl, hlt, ρ2, μ2, G2, R2, g2, h2⟩, fun v H2 y => ?_⟩
    obtain ⟨G2, g2, r2⟩ := io.yld i μ' G' H' v H2 xs[i] g'.gx R'.ok (List.getElem?_eq_getElem hlt) y
    have g12 := g'.trans g2
    refine tg_ok (own := t.idx) (fun _ z => z) (R'.go g2) r2 hf' fun ρ3 σ3 h3 R3 _ => ?_
    have eo2 := eo1.go g12
    exact ⟨B, ρ3, μ', G2, _, R3, h3, ⟨fun ρ4 σ4 μ4 G4 H4 h4 R4 g4 => ⟨ρ4, μ4, G4, R4, g12.trans g4, h4.un⟩, eo2.rt, eo2.nx, fun ρ4 σ4 μ4 G4 H4 h4 R4 g4 => ⟨ρ4, μ4, G4, R4, g12.trans g4, h4.un⟩, eo2.xc⟩⟩
  · have e : i = xs.length := by omega
    subst e
    rw [List.drop_length] at hf'
    exact .inl ⟨io.stop _ μ' G' H' g'.gx R'.ok (Nat.le_refl _), eo1.nx _ _ _ _ _ hf' R' g'⟩
theorem l_compH {X : Cx} {W : WX} {elt tg iter : Expr} {ifs : List Expr} {scope : Scope} {own : List (Str × Nat)} {pos : Pos} {di : DI} {dt : DT} {de : DE} {t : Tg} (hc : L2H.HotC X) (nd : X.N.Nodup) (hi : IJH X W tg iter di) (ok : BlkOk X.N X.env.scope scope own)
    (hg : ∀ (p : Addr × Obj), L2H.Hot1 X.A p → ∀ (s : Shared) (H : Hp) (C : Addr) (cl : List (Str × Addr)) (fp : List Addr), PG (blkH X p s H scope (compEnvC scope cl C X.env) fp) tg (tgOf X.K t)) (ht : ∀ (p : Addr × Obj), L2H.Hot1 X.A p → ∀ (s : Shared) (H : Hp) (C : Addr) (cl : List (Str × Addr)) (fp : List Addr), TsJ (blkH X p s H scope (compEnvC scope cl C X.env) fp) Wno ifs dt)
    (he : ∀ (p : Addr × Obj), L2H.Hot1 X.A p → ∀ (s : Shared) (H : Hp) (C : Addr) (cl : List (Str × Addr)) (fp : List Addr), EJ (blkH X p s H scope (compEnvC scope cl C X.env) fp) Wno elt de) (hw : ∀ i ∈ t.idx, i ∈ own.map (·.2) := by decide) (hs : ∀ x, foldedSetIterable iter X.env x = pure x := by intro _; rfl) :
    LJ X W (.ListComp elt [⟨tg, iter, ifs, 0⟩] scope pos) (lComp t (own.map (·.2)) di dt de) := pe_imp (pe_lcH hc nd hi ok hg ht he hs) fun σ H Q h => tlc_of hw h
section
variable {X : Cx} {W : WX}
theorem cj_allM {hot : Bool} (m : Md X hot) : CaJ X W (.builtin "all") (fc fAll) := m.elim cj_all fun h => .of (cr_allH h.2) pcl_all
end
end Px
namespace Px
open PySem PySem.Spec PyProof.Rows L2
end Px
namespace Px
open PySem PySem.Spec PyProof.Rows L2
theorem unpackItems_tupleH {prog : Program} {w : World} {A : Around} {E : Value → Shared → Prop} {s : Shared} {x1 t : Addr} {items : Array Value} {Q : List Value → Shared → Prop} (hot : HotX.HotAt A x1 s.heap) (ht : IsTup s.heap t items)
    (hQ : ∀ h', Heap.ExtBut s.heap.objs.size s.heap h' → Q items.toList { s with heap := h' }) : wpAny (model prog w) A (unpackItems (.ref t) items.size none) Q E s := by
  have hlt : t ≠ s.heap.objs.size := by obtain ⟨o, ho, _⟩ := ht; exact Nat.ne_of_lt (Heap.lt_size ho)
  unfold unpackItems
  refine wpAny_bind ?_
  · unfold notIterableAtAll
    refine wpAny_bind (wpAny_specialOf ht.typeIs slot_tuple_iter.lookup ?_)
    refine wpAny_pure ?_
    simp only [Bool.false_eq_true, if_false]
    refine wpAny_bind (wpAny_holding (iter_tuple ht ?_))
    refine wpAny_bind (wpAny_holding (draw_tuple hlt items.size 0 _ _ ⟨_, Heap.get?_push_size _ rfl, rfl, rfl⟩ (ht.push _) (by omega) fun h₁ hit₁ hs₁ => ?_))
    have hall : List.take items.size (List.drop 0 items.toList) = items.toList := by
      rw [List.drop_zero]; exact List.take_of_length_le (by simp)
    rw [hall]
    rw [if_neg (by simp)]
    have ht₁ : IsTup h₁ t items := (ht.push _).extBut hs₁.extBut hlt
    have hot₁ : HotX.HotAt A x1 h₁ := by
      obtain ⟨hh, o1, vs1, g1, d1, c1⟩ := hot
      exact ⟨hh, o1, vs1, hs₁.extBut x1 o1 (Nat.ne_of_lt (Heap.lt_size g1)) (Heap.get?_push_of_some _ g1), d1, c1⟩
    refine wpAny_bind (wpAny_holding (HotX.tuple_end_hot (s := { s with heap := h₁ }) hot₁ hit₁ ht₁ (by simp) fun h₂ he₂ => ?_))
    simp only [Option.isSome_none, Bool.false_eq_true, if_false]
    refine wpAny_pure (hQ h₂ fun b o hb e => he₂ b o hb (hs₁.extBut b o hb (Heap.get?_push_of_some _ e)))
theorem pg_tupH {X : Cx} {es : List Expr} {k : Nat} {t : TGs} {n : Nat} {pos : Pos} (hc : L2H.HotC X) (h : PGs X es t)
    (hn : (assignEach es X.env).length = n := by rfl) (hst : (assignEach es X.env).findIdx? (·.1) = none := by rfl) : PG X (.Tuple es k pos) (gTup X.K n t) := by
  refine ⟨fun pins s σ H v u Q I r hw => ?_⟩
  obtain ⟨a, xs, e1, hq, hl, hw⟩ := hw
  subst e1
  cases r
  obtain ⟨its, rv, ht, hz⟩ := I.tuple hq
  obtain ⟨x1, hot⟩ := hc.at I
  rw [assign_Tuple]
  refine wpAny_bind (wpAny_standAt ?_)
  unfold unpack
  rw [show (assignEach es X.env).length = its.toArray.size by simp [hn, ← hl, rv.length], hst]
  refine wpAny_bind (wpAny_holding (unpackItems_tupleH hot ht fun h' hx => ?_))
  have I1 : Inv X pins σ H { s with heap := h' } := I.kept (t' := s.toks) fun b o e => hx b o (Nat.ne_of_lt (Heap.lt_size e)) e
  exact h.run pins _ σ H xs _ Q I1 (by simpa using rv) hw
theorem pg_tupM {X : Cx} {hot : Bool} {es : List Expr} {k : Nat} {t : TGs} {n : Nat} {pos : Pos} (m : Md X hot) (h : PGs X es t)
    (hn : (assignEach es X.env).length = n := by rfl) (hst : (assignEach es X.env).findIdx? (·.1) = none := by rfl) : PG X (.Tuple es k pos) (gTup X.K n t) := m.elim (fun hc => pg_tup hc h hn hst) fun z => pg_tupH z.2 h hn hst
end Px
namespace Px
open PySem PySem.Spec PyProof.Rows L2
/-- a new generator behind the state s: woken, it raises -/
structure GXn (P : Program) (w : World) (K : Frg) (k : Nat) (outer : List Env) (H : Hp) (s : Shared) (E : XK) (s1 : Shared) (a : Addr) (g : Nat) (gs : GenState) (oa : Obj) : Prop where
  a1 : s.heap.objs.size ≤ a
  a2 : a < s1.heap.objs.size
  ge : s1.heap.get? a = some oa
  isg : ∀ h : Heap, h.get? a = some oa → h.IsGen a g
  gen : s1.gens[g]? = some gs
  os : s1.os = s.os
  bare : AllBare s1.gens
  keep : ∀ b o, s.heap.get? b = some o → s1.heap.get? b = some o
  wake : ∀ (A : Around) (s2 : Shared), A.handled = none → Rm k A → A.frames = some outer → (∀ b o, s1.heap.get? b = some o → s2.heap.get? b = some o) → s2.os = s.os → AllBare s2.gens →
    WkG (model P w) A (fun e s3 => ∃ u, e = .ret (.error u) ∧ CXI K P w outer H s E u s3 ∧ s3.heap.get? a = some oa) gs s2
def GnX (P : Program) (w : World) (K : Frg) (mg : Str → Option Value) (base : Heap) (k : Nat) (f : Addr) (n : Nat) (c0 : Cl) (ct : Ct) : Prop :=
  stopB K c0 = true ∧ ∀ (A : Around) (outer : List Env) (s : Shared) (H : Hp) (us : List Value) (vs : List V) (E : XK) (B : BX) (μ : Mu) (G : Hp) (as : List PV) (z : QX), A.handled = none → Rm k A → Env0 P w K mg base A outer s H → us.length = n → Vals vs us → Ok K B μ G H → Reps K B G as vs → ct as μ (fun _ _ => False) z →
    (∀ xv d μ' G' H', z xv μ' → Go K B μ G H μ' G' H' → XRep K B G' xv d → E (.ref (ca K xv.1)) d H') →
    codeAny (model P w) A (.call (.ref f) ⟨us, []⟩) (fun r s1 => ∃ a g gs oa, r = .ok (.ret (.ref a)) ∧ GXn P w K k outer H s (fun cls d H' => E cls d H' ∧ cls = .ref (ca K c0)) s1 a g gs oa) s
theorem GnX.up {P : Program} {w : World} {K : Frg} {mg : Str → Option Value} {base : Heap} {k j n : Nat} {f : Addr} {c0 : Cl} {ct : Ct} (F : GnX P w K mg base k f n c0 ct) (h : k ≤ j) : GnX P w K mg base j f n c0 ct :=
  ⟨F.1, fun A outer s H us vs E B μ G as z hA hr e0 hn r o rr hc hE => codeAny_mono (F.2 A outer s H us vs E B μ G as z hA (hr.mono h) e0 hn r o rr hc hE) fun rr s1 ⟨a, g, gs, oa, er, N⟩ =>
    ⟨a, g, gs, oa, er, ⟨N.a1, N.a2, N.ge, N.isg, N.gen, N.os, N.bare, N.keep, fun A s2 h1 h2 h3 h4 h5 h6 => N.wake A s2 h1 (h2.mono h) h3 h4 h5 h6⟩⟩⟩
end Px
namespace Px
open PySem PySem.Spec PyProof.Rows L2
open PySem.W (findIn typeIn keepIn subIn clsIn nsIn codeIn alongIn fnX envX)
def e2Args (p1 p2 p3 : Pos) : Arguments := { posonlyargs := [], args := [⟨"self", none, p1⟩, ⟨"x", none, p2⟩, ⟨"y", none, p3⟩], vararg := none, kwonlyargs := [], kw_defaults := [], kwarg := none, defaults := [] }
def e2Body (msg : Str) (j : Nat) (p1 p2 p3 p4 p5 p6 q1 q2 q3 q4 r1 r2 r3 r4 : Pos) : List Stmt :=
  [.Expr (.Call (.Attribute (.Call (.Name "super" p1) [] [] p2) "__init__" p3) [.Constant (.str msg) j p4] [] p5) p6, .Assign [.Attribute (.Name "self" q1) "x" q2] (.Name "x" q3) q4, .Assign [.Attribute (.Name "self" r1) "y" r2] (.Name "y" r3) r4]
def e2Scope : Scope := { kind := .function, names := [("self", .local), ("x", .local), ("y", .local), ("__class__", .free), ("super", .globalImplicit)], isGenerator := false, isCoroutine := false, more := [] }
/-- what the written part says of such a class at C, its __init__ at fI -/
structure ErrF2 (P : Program) (K : Frg) (C fI : Addr) : Prop where
  new : PySem.W.excInitIn K C He.veBase "ValueError.__new__" = true
  cd : ∃ cd, clsIn K C = some cd ∧ cd.hasDict = true ∧ HandSPX.refsVE cd.mro = true ∧ alongIn K "__init__" ((cd.mro.dropWhile (· != .ref C)).drop 1) = some (some (.builtin "ValueError.__init__"))
  sa : findIn K (.ref C) "__setattr__" = some (some (.builtin "object.__setattr__"))
  no : findIn K (.ref C) "x" = some none
  no2 : findIn K (.ref C) "y" = some none
  iC : findIn K (.ref C) "__init__" = some (some (.ref fI))
  tI : typeIn K (.ref fI) = some (.type "function")
  kC : keepIn K (.ref C) = true
  ex : subIn K (.ref C) (.type "BaseException") = some true
  ty : typeIn K (.ref C) = some (.type "type")
  ve : subIn K (.ref C) (.type "ValueError") = some true
  me : subIn K (.ref C) (.ref C) = some true
  op : nsIn K cStatics "thirdparty.any" = some none
  fn : ∃ (oc : Value) (od : Option Addr) (qual msg : Str) (j : Nat) (dV kV doc pm : Value) (an : Option Addr) (cda cc : Addr) (ct : Value) (osl : Array (Option Value)) (a1 a2 a3 p1 p2 p3 p4 p5 p6 q1 q2 q3 q4 r1 r2 r3 r4 : Pos) (o2 o3 : Obj) (vs : Array Value) (file : Str) (tf : Tok),
    K.lookup fI = some ⟨oc, od, .func (fnX "__init__" qual (e2Args a1 a2 a3) (e2Body msg j p1 p2 p3 p4 p5 p6 q1 q2 q3 q4 r1 r2 r3 r4) e2Scope [("__class__", cc)] dV kV doc pm an (.ref cda) ct), osl⟩ ∧ codeIn K (.ref cda) qual = true ∧
      K.lookup cc = some o2 ∧ o2.data = .cell (some (.ref C)) ∧ K.lookup cda = some o3 ∧ o3.data = .fields vs ∧ vs[2]? = some (.str file tf) ∧ (P.main.file == file) = true ∧
      (∀ u v v2 : Value, bindArgs (fnX "__init__" qual (e2Args a1 a2 a3) (e2Body msg j p1 p2 p3 p4 p5 p6 q1 q2 q3 q4 r1 r2 r3 r4) e2Scope [("__class__", cc)] dV kV doc pm an (.ref cda) ct) ⟨[u, v, v2], []⟩ = pure ([("self", u), ("x", v), ("y", v2)] : List (Str × Value))) ∧ ∀ env : Env, MCall msg j p1 p2 p3 p4 p5 env
  sup : (P.main.scope.names.lookup ("super" : Str)).isSome = false
end Px
namespace Px
open PySem PySem.Spec PyProof.Rows L2
/-- the promise of a def, whatever is handled where it is called -/
def FnA (P : Program) (w : World) (K : Frg) (mg : Str → Option Value) (base : Heap) (k : Nat) (f : Addr) (sp : Sp) : Prop :=
  ∀ (A : Around) (outer : List Env) (s : Shared) (H : Hp) (us : List Value) (vs : List V) (Q : VK) (E : XK), Rm k A → Env0 P w K mg base A outer s H → Vals vs us → sp vs H Q E → codeAny (model P w) A (.call (.ref f) ⟨us, []⟩) (CR (CXI K P w) outer P w H s Q E) s
theorem FnA.up {P : Program} {w : World} {K : Frg} {mg : Str → Option Value} {base : Heap} {k j : Nat} {f : Addr} {sp : Sp} (F : FnA P w K mg base k f sp) (h : k ≤ j) : FnA P w K mg base j f sp := fun A outer s H us vs Q E hr => F A outer s H us vs Q E (hr.mono h)
/-- two ints are compared -/
def ctI : Ct := fun as μ q _ => match as with
  | [.int i, .int n] => q (.bl (decide (i = n))) μ
  | _ => False
end Px
namespace Px
open PySem PySem.Spec PyProof.Rows L2
def nstar : Expr → Bool
  | .Starred _ _ => false
  | _ => true
theorem star_cons {e : Expr} {es : List Expr} {env : Env} (h : nstar e = true) : starEach (e :: es) env = (false, eval e env) :: starEach es env := by
  cases e <;> first | rfl | cases h
def nost (es : List Expr) : Bool := es.all nstar
theorem nost_any {pos : Pos} {env : Env} : ∀ {es : List Expr}, nost es = true → (backTo pos (starEach es env)).any (·.1) = false
  | [], _ => rfl
  | e :: es, h => by
    have h : (nstar e && nost es) = true := h
    obtain ⟨h1, h2⟩ := He.ba h
    rw [star_cons h1]
    show (false || (backTo pos (starEach es env)).any (·.1)) = false
    rw [nost_any h2] <;> rfl
theorem nost_all {pos : Pos} {env : Env} : ∀ {es : List Expr}, nost es = true → (backTo pos (starEach es env)).all (!·.1) = true
  | [], _ => rfl
  | e :: es, h => by
    have h : (nstar e && nost es) = true := h
    obtain ⟨h1, h2⟩ := He.ba h
    rw [star_cons h1]
    show (true && (backTo pos (starEach es env)).all (!·.1)) = true
    rw [nost_all h2] <;> rfl
/-- not super() -/
def nsup : Expr → Bool
  | .Call (.Name id _) [] [] _ => id != "super"
  | _ => true
theorem base_of {o : Expr} {f : Str} {env : Env} {whole : Sem Value} (h : nsup o = true) : attributeBase o f env whole = whole := by
  unfold attributeBase
  split
  · rename_i id p pos
    have h : (id != "super") = true := h
    simp [h]
  · rfl
/-- a test that is a value -/
def plainT : Expr → Bool
  | .UnaryOp .Not _ _ => false
  | .BoolOp _ _ _ => false
  | .IfExp _ _ _ _ => false
  | .Compare _ _ _ _ => false
  | _ => true
theorem isTrue_of {a : Expr} {env : Env} (h : plainT a = true) : ∀ whole, isTrue a env whole = (do let v ← whole; standAt a.pos; holding [v] (truthy v)) := by
  intro whole
  cases a with
  | UnaryOp op x p => cases op <;> first | rfl | exact absurd h Bool.false_ne_true
  | BoolOp _ _ _ => exact absurd h Bool.false_ne_true
  | IfExp _ _ _ _ => exact absurd h Bool.false_ne_true
  | Compare _ _ _ _ => exact absurd h Bool.false_ne_true
  | _ => rfl
/-- no comprehension: stored or dropped plainly -/
def noComp : Expr → Bool
  | .ListComp _ _ _ _ => false
  | .SetComp _ _ _ _ => false
  | .DictComp _ _ _ _ _ => false
  | _ => true
theorem swaps_of {e : Expr} {t : Option Expr} {l : Nat} {env : Env} (h : noComp e = true) : swapsWith e t l env = pure false := by
  cases e <;> first | rfl | exact absurd h Bool.false_ne_true
def noSet : Expr → Bool
  | .Set _ _ _ => false
  | _ => true
theorem mark_of {op : CmpOp} {e : Expr} (h : noSet e = true) : behindInMarks op e = false := by
  cases e <;> first | rfl | exact absurd h Bool.false_ne_true
theorem fold_of {e : Expr} {env : Env} (h : noSet e = true) : ∀ x, foldedSetIterable e env x = pure x := by
  intro x
  cases e <;> first | rfl | exact absurd h Bool.false_ne_true
def noSlice : Expr → Bool
  | .Slice _ _ _ _ => false
  | _ => true
theorem plainIx_of {b : Expr} (h : noSlice b = true) : PlainIx b := by
  intro o i
  cases b <;> first | rfl | exact absurd h Bool.false_ne_true
def visB (sc : Scope) (x : Str) : Bool := match sc.names.lookup x with
  | some .local => true
  | some .cell => true
  | some .free => true
  | _ => false
theorem visB_ok {sc : Scope} {x : Str} (h : visB sc x = true) : Vis sc x := by
  unfold visB at h
  split at h
  · exact .inl (by assumption)
  · exact .inr (.inl (by assumption))
  · exact .inr (.inr (by assumption))
  · cases h
def locB (sc : Scope) (x : Str) : Bool := match sc.names.lookup x with
  | some .local => true
  | some .cell => true
  | _ => false
theorem locB_ok {sc : Scope} {x : Str} (h : locB sc x = true) : Loc sc x := by
  unfold locB at h
  split at h
  · exact .inl (by assumption)
  · exact .inr (by assumption)
  · cases h
def glB (sc : Scope) (x : Str) : Bool := decide (sc.names.lookup x = some .globalImplicit) && (!(x == ("__debug__" : Str)) && decide (x ≠ "__name__"))
def kwN (kws : List Keyword) : List (Option Str) := kws.map (·.arg)
theorem kw_all {pos : Pos} {env : Env} : ∀ {kws : List Keyword} {ks : List Str}, kwN kws = ks.map some → (backToKw pos (keywordEach kws env)).all (·.1.isSome) = true ∧ (backToKw pos (keywordEach kws env)).filterMap (·.1) = ks ∧ (backToKw pos (keywordEach kws env)).any (·.1.isNone) = false
  | [], [], _ => ⟨rfl, rfl, rfl⟩
  | [], _ :: _, h => by cases h
  | _ :: _, [], h => by cases h
  | ⟨nm, v, p⟩ :: kws, k :: ks, h => by
    have h : nm :: kwN kws = some k :: ks.map some := h
    obtain ⟨h1, h2⟩ := List.cons.inj h
    subst h1
    obtain ⟨a, b, c⟩ := kw_all (pos := pos) (env := env) h2
    refine ⟨?_, ?_, ?_⟩
    · show (true && (backToKw pos (keywordEach kws env)).all (·.1.isSome)) = true
      rw [a] <;> rfl
    · show k :: (backToKw pos (keywordEach kws env)).filterMap (·.1) = k :: ks
      rw [b]
    · show (false || (backToKw pos (keywordEach kws env)).any (·.1.isNone)) = false
      rw [c] <;> rfl
/-- o.m(..): the form of a method call -/
def fewB (args : List Expr) (kws : List Keyword) (apos pos : Pos) : Bool := nost args && (decide (args.length + kws.length < 29) && (apos.endLine == pos.line))
theorem eval_meth {o : Expr} {m : Str} {apos pos : Pos} {args : List Expr} {kws : List Keyword} {ks : List Str} {env : Env} (hs : nsup o = true) (hf : fewB args kws apos pos = true) (hk : kwN kws = ks.map some) :
    eval (.Call (.Attribute o m apos) args kws pos) env = (do
      let ov ← eval o env
      standAt apos.atName
      let (g, first) ← holding [ov] (getMethod ov m (do return (← importBound o env).getD true))
      callWith pos g first (backTo pos (starEach args env)) (backToKw pos (keywordEach kws env))) := by
  obtain ⟨h1, h2⟩ := He.ba hf
  obtain ⟨h2, h3⟩ := He.ba h2
  have h2 := of_decide_eq_true h2
  have few : methodCallForm (args.length + kws.length) (backTo pos (starEach args env)) (backToKw pos (keywordEach kws env)) = true := by
    unfold methodCallForm
    rw [nost_all h1, (kw_all hk).1]
    have : args.length + kws.length + (if (backToKw pos (keywordEach kws env)).isEmpty then 0 else 1) < 30 := by split <;> omega
    exact decide_eq_true this
  show (do
    let ov ← attributeBase o m env (eval o env)
    standAt apos.atName
    methodCall o m apos pos env ov (args.length + kws.length) (backTo pos (starEach args env)) (backToKw pos (keywordEach kws env))) = _
  rw [base_of hs]
  unfold methodCall
  simp only [few, calleeOf, methodCallPos, h3, if_true, Bool.not_true, Bool.false_or]
  rfl
end Px
namespace Px
open PySem PySem.Spec PyProof.Rows L2
inductive Fid where
  | g (x : Nat) (ks : List Nat)
  | m (c : Cl) (x : Nat) (ks : List Nat)
  | cm (c : Cl) (x : Nat) (ks : List Nat)
  | k (c : Cl) (fz : Bool) (ks : List Nat)
  | p (c : Cl) (x : Nat) (ks : List Nat)
  | gn (x : Nat) (ks : List Nat)
  | kf (x : Nat) (ks : List Nat)
  | mg (c : Cl) (x : Nat) (ks : List Nat)
  | bo (c : Cl)
  | gw (x : Nat) (ks : List Nat)
  | e2 (c : Cl)
  | sp (c : Cl) (x : Nat)
  | bm (c : Cl) (x : Nat)
  | iv (x : Nat)
  | gx (c : Cl) (x : Nat) (ks : List Nat)
  | st (c : Cl) (x : Nat) (ks : List Nat)
def eqN : List Nat → List Nat → Bool
  | [], [] => true
  | a :: as, b :: bs => (match Nat.beq a b with
    | true => eqN as bs
    | false => false)
  | _, _ => false
theorem eqN_ok : ∀ {a b : List Nat}, eqN a b = true → a = b
  | [], [], _ => rfl
  | [], _ :: _, h => by cases h
  | _ :: _, [], h => by cases h
  | a :: as, b :: bs, h => by
    unfold eqN at h
    split at h
    · rename_i e
      rw [Nat.eq_of_beq_eq_true e, eqN_ok h]
    · cases h
def Fid.eqb : Fid → Fid → Bool
  | .g x ks, .g y ls => (match Nat.beq x y with
    | true => eqN ks ls
    | false => false)
  | .m c x ks, .m d y ls => (match Nat.beq x y with
    | true => (match decEq c d with
      | .isTrue _ => eqN ks ls
      | .isFalse _ => false)
    | false => false)
  | .cm c x ks, .cm d y ls => (match Nat.beq x y with
    | true => (match decEq c d with
      | .isTrue _ => eqN ks ls
      | .isFalse _ => false)
    | false => false)
  | .k c x ks, .k d y ls => (match decEq c d with
    | .isTrue _ => (match x, y with
      | true, true => eqN ks ls
      | false, false => eqN ks ls
      | _, _ => false)
    | .isFalse _ => false)
  | .p c x ks, .p d y ls => (match Nat.beq x y with
    | true => (match decEq c d with
      | .isTrue _ => eqN ks ls
      | .isFalse _ => false)
    | false => false)
  | .gn x ks, .gn y ls => (match Nat.beq x y with
    | true => eqN ks ls
    | false => false)
  | .kf x ks, .kf y ls => (match Nat.beq x y with
    | true => eqN ks ls
    | false => false)
  | .mg c x ks, .mg d y ls => (match Nat.beq x y with
    | true => (match decEq c d with
      | .isTrue _ => eqN ks ls
      | .isFalse _ => false)
    | false => false)
  | .bo c, .bo d => (match decEq c d with
    | .isTrue _ => true
    | .isFalse _ => false)
  | .gw x ks, .gw y ls => (match Nat.beq x y with
    | true => eqN ks ls
    | false => false)
  | .e2 c, .e2 d => (match decEq c d with
    | .isTrue _ => true
    | .isFalse _ => false)
  | .sp c x, .sp d y => (match Nat.beq x y with
    | true => (match decEq c d with
      | .isTrue _ => true
      | .isFalse _ => false)
    | false => false)
  | .bm c x, .bm d y => (match Nat.beq x y with
    | true => (match decEq c d with
      | .isTrue _ => true
      | .isFalse _ => false)
    | false => false)
  | .iv x, .iv y => Nat.beq x y
  | .gx c x ks, .gx d y ls => (match Nat.beq x y with
    | true => (match decEq c d with
      | .isTrue _ => eqN ks ls
      | .isFalse _ => false)
    | false => false)
  | .st c x ks, .st d y ls => (match Nat.beq x y with
    | true => (match decEq c d with
      | .isTrue _ => eqN ks ls
      | .isFalse _ => false)
    | false => false)
  | _, _ => false
theorem Fid.eqb_ok {a b : Fid} (h : Fid.eqb a b = true) : a = b := by
  unfold Fid.eqb at h
  split at h
  · split at h
    · rename_i e
      rw [Nat.eq_of_beq_eq_true e, eqN_ok h]
    · cases h
  · split at h
    · rename_i e
      split at h
      · rename_i z _
        rw [Nat.eq_of_beq_eq_true e, eqN_ok h, z]
      · cases h
    · cases h
  · split at h
    · rename_i e
      split at h
      · rename_i z _
        rw [Nat.eq_of_beq_eq_true e, eqN_ok h, z]
      · cases h
    · cases h
  · split at h
    · rename_i z _
      split at h
      · rw [eqN_ok h, z]
      · rw [eqN_ok h, z]
      · cases h
    · cases h
  · split at h
    · rename_i e
      split at h
      · rename_i z _
        rw [Nat.eq_of_beq_eq_true e, eqN_ok h, z]
      · cases h
    · cases h
  · split at h
    · rename_i e
      rw [Nat.eq_of_beq_eq_true e, eqN_ok h]
    · cases h
  · split at h
    · rename_i e
      rw [Nat.eq_of_beq_eq_true e, eqN_ok h]
    · cases h
  · split at h
    · rename_i e
      split at h
      · rename_i z _
        rw [Nat.eq_of_beq_eq_true e, eqN_ok h, z]
      · cases h
    · cases h
  · split at h
    · rename_i z _
      rw [z]
    · cases h
  · split at h
    · rename_i e
      rw [Nat.eq_of_beq_eq_true e, eqN_ok h]
    · cases h
  · split at h
    · rename_i z _
      rw [z]
    · cases h
  · split at h
    · rename_i e
      split at h
      · rename_i z _
        rw [Nat.eq_of_beq_eq_true e, z]
      · cases h
    · cases h
  · split at h
    · rename_i e
      split at h
      · rename_i z _
        rw [Nat.eq_of_beq_eq_true e, z]
      · cases h
    · cases h
  · rw [Nat.eq_of_beq_eq_true h]
  · split at h
    · rename_i e
      split at h
      · rename_i z _
        rw [Nat.eq_of_beq_eq_true e, eqN_ok h, z]
      · cases h
    · cases h
  · split at h
    · rename_i e
      split at h
      · rename_i z _
        rw [Nat.eq_of_beq_eq_true e, eqN_ok h, z]
      · cases h
    · cases h
  · cases h
abbrev Tbl := List (Fid × Ct)
def look : Tbl → Fid → Option Ct
  | [], _ => none
  | (g, c) :: r, f => (match Fid.eqb f g with
    | true => some c
    | false => look r f)
theorem look_mem {F : Fid} {ct : Ct} : ∀ {L : Tbl}, look L F = some ct → (F, ct) ∈ L
  | [], h => by cases h
  | (g, c) :: r, h => by
    unfold look at h
    split at h
    · rename_i e
      cases h
      rw [Fid.eqb_ok e]
      exact List.mem_cons_self
    · exact List.mem_cons_of_mem _ (look_mem h)
def noCt : Ct := fun _ _ _ _ => False
/-- what is known while a text runs: the promises of the defs it calls (LH: also while an error is handled), the error that is handled -/
structure Rt where
  L : Tbl
  LH : Tbl := []
  Q : Qt := []
  xi : Option (Addr × Addr × Cl) := none
def Rt.ct (R : Rt) (F : Fid) : Ct := match look R.L F with
  | some c => c
  | none => noCt
/-- the table has it -/
def Rt.has (R : Rt) (F : Fid) : Bool := match look R.L F with
  | some _ => true
  | none => false
theorem Rt.has_mem {R : Rt} {F : Fid} (h : R.has F = true) : (F, R.ct F) ∈ R.L := by
  unfold Rt.has at h
  unfold Rt.ct
  cases e : look R.L F with
  | none => rw [e] at h; cases h
  | some c => exact look_mem e
def Kst.pv : Kst → PV
  | .int i => .int i
  | .str z => .str z
  | .txs zs => .ctup (zs.map .str)
/-- an error without an __init__ of its own -/
structure Facts (S : Stt) (K : Frg) (mg : Str → Option Value) : Prop where
  fre : ∀ x ∈ S.fre, mg x = none
  ka : KA K
  kc : ∀ c ∈ S.hs, kcB K c = true
  xc : ∀ c ∈ S.xs, xcB K c = true
  cn : ∀ c ∈ S.hs ++ S.xs, mg c.name = some (.ref (ca K c))
  gl : ∀ i ∈ S.gl, mg (S.nm i) = some (.ref (He.ga K (S.nm i))) ∧ PySem.W.keepIn K (.ref (He.ga K (S.nm i))) = true
  cms : ∀ p ∈ S.cms, knB K p.1 = true ∧ ClX.CRead K (ca K p.1) (.type "type") ∧ ClX.CMet K (ca K p.1) (.type "type") (S.nm p.2) (cmRec K (ca K p.1) (S.nm p.2)) (cmFn K (ca K p.1) (S.nm p.2))
  mks : ∀ c ∈ S.mks, kcB K c = true ∧ mg c.name = some (.ref (ca K c)) ∧ Mk K (ca K c) (He.ma K (ca K c) "__init__")
  ms : ∀ p ∈ S.ms, S.nm p.2 ∉ p.1.flds ∧ kcB K p.1 = true ∧ Meth K (ca K p.1) (S.nm p.2) (He.ma K (ca K p.1) (S.nm p.2)) ∧ PySem.W.fnIn K (He.ma K (ca K p.1) (S.nm p.2)) = true ∧ PySem.W.selfFirst K (ca K p.1) = true
  sa : ∀ p ∈ S.sa, He.ma K (ca K p.1) (S.nm p.2.2) = He.ma K (ca K p.2.1) (S.nm p.2.2)
  er : ∀ p ∈ S.er, p.1.flds = [p.2] ∧ ∃ fI, ErrF S.P K (ca K p.1) fI p.2
  cv : ∀ p ∈ S.cv, ∃ v u, ClX.CRead K (ca K p.1) (.type "type") ∧ ClX.CVal K (ca K p.1) (.type "type") p.2.1 v u ∧ ∀ B G, Rep K B G p.2.2.pv v
  gc : ∀ p ∈ S.gc, ∃ v u, mg p.1 = some u ∧ RelV v u ∧ ∀ B G, Rep K B G p.2.pv v
  prs : ∀ p ∈ S.prs, S.nm p.2 ∉ p.1.flds ∧ kcB K p.1 = true ∧ PropOf K (ca K p.1) (S.nm p.2) (He.ma K (ca K p.1) (S.nm p.2)) (prFn K (ca K p.1) (S.nm p.2))
  isx : S.isx = true → IsX K
  ow : ∀ c ∈ S.ow, owB K c = true
section
variable (S : Stt) (hot : Bool) (P : Program) (w : World) (K : Frg) (mg : Str → Option Value) (base : Heap) (k : Nat)
/-- the def F keeps the promise ct -/
def PromOk : Fid → Ct → Prop
  | .g x ks, ct => FnS hot P w K mg base k (He.ga K (S.nm x)) (ks.map S.nm) (spP K ct)
  | .m c x ks, ct => S.nm x ∉ c.flds ∧ kcB K c = true ∧ Meth K (ca K c) (S.nm x) (He.ma K (ca K c) (S.nm x)) ∧ PySem.W.fnIn K (He.ma K (ca K c) (S.nm x)) = true ∧ PySem.W.selfFirst K (ca K c) = true ∧ FnS hot P w K mg base k (He.ma K (ca K c) (S.nm x)) (ks.map S.nm) (spP K ct)
  | .cm c x ks, ct => FnS hot P w K mg base k (cmFn K (ca K c) (S.nm x)) (ks.map S.nm) (spP K ct)
  | .p c x ks, ct => S.nm x ∉ c.flds ∧ kcB K c = true ∧ PropOf K (ca K c) (S.nm x) (He.ma K (ca K c) (S.nm x)) (prFn K (ca K c) (S.nm x)) ∧ FnS hot P w K mg base k (prFn K (ca K c) (S.nm x)) (ks.map S.nm) (spP K ct)
  | .gn x ks, ct => GnS P w K mg base k (He.ga K (S.nm x)) (ks.headD 0) (spP K ct)
  | .kf x _, _ => KeyF K (He.ga K (S.nm x))
  | .bo c, _ => noAddB K c = true
  | .sp c x, ct => S.nm x ∉ c.flds ∧ kcB K c = true ∧ psB K c (S.nm x) = true ∧ FnS hot P w K mg base k (psFn K (ca K c) (S.nm x)) [] (spP K ct)
  | .bm c x, _ => bmB K c (S.nm x) = true
  | .iv x, _ => FnA P w K mg base k (He.ga K (S.nm x)) (spP K ctI)
  | .gx c x ks, ct => GnX P w K mg base k (He.ga K (S.nm x)) (ks.headD 0) c ct
  | .st c x ks, ct => ssB K c (S.nm x) = true ∧ FnS hot P w K mg base k (smFn K (ca K c) (S.nm x)) (ks.map S.nm) (spP K ct)
  | .e2 c, _ => c.flds = [("x" : Str), "y"] ∧ ∃ fI, ErrF2 S.P K (ca K c) fI
  | .mg c x ks, ct => S.nm x ∉ c.flds ∧ kcB K c = true ∧ Meth K (ca K c) (S.nm x) (He.ma K (ca K c) (S.nm x)) ∧ PySem.W.fnIn K (He.ma K (ca K c) (S.nm x)) = true ∧ GnW P w K mg base k (He.ma K (ca K c) (S.nm x)) (ks.headD 0 + 1) (ks.tail.map S.nm) ct
  | .gw x ks, ct => GnW P w K mg base k (He.ga K (S.nm x)) (ks.headD 0) (ks.tail.map S.nm) ct
  | .k c fz ks, kc => ∃ ct, MkC fz c ct kc ∧ FnS hot P w K mg base k (He.ma K (ca K c) "__init__") (ks.map S.nm) (spP K ct)
end
/-- where a text stands -/
structure Cc where
  S : Stt
  N : List Str
  sc : Scope
  cm : Bool
  fn : Str → Bool := fun _ => true
  lam : Bool := false
  gk : Bool := true
/-- the context X of a text is as c says -/
structure Good (k : Nat) (R : Rt) (X : Cx) (W : WX) (c : Cc) : Prop where
  prog : X.prog = c.S.P
  N : X.N = c.N
  sc : X.env.scope = c.sc
  nd : X.N.Nodup
  fn : ∀ x, c.fn x = true → X.fn x = true
  md : Md X (!c.cm)
  tk : TkI X W
  rm : Rm (k + 2) X.A
  fa : Facts c.S X.K X.mg
  pr : ∀ F ct, (F, ct) ∈ R.L → PromOk c.S (!c.cm) X.prog X.w X.K X.mg X.base k F ct
  ph : ∀ F ct, (F, ct) ∈ R.LH → PromOk c.S true X.prog X.w X.K X.mg X.base k F ct
  qo : QOk X k R.Q
  lam : c.lam = true → LamC X
  xi : ∀ a dd cl, R.xi = some (a, dd, cl) → ∃ (X0 : Cx) (oe : Obj) (pn : List (Addr × Obj)) (d : Option Addr), X = X0.suite a ((a, oe) :: pn) ∧ W = Wno ∧ xcB X.K cl = true ∧ L2N.Zn (.ref (ca X.K cl)) d oe ∧ (∃ vs, oe.data = .fields vs) ∧ XD cl d dd
  xn : c.gk = true → R.xi = none
section
variable {k : Nat} {R : Rt} {X : Cx} {W : WX} {c : Cc}
theorem Good.calm (G : Good k R X W c) (h : c.cm = true) : X.calm = true := by
  rcases G.md with z | ⟨z, _⟩
  · exact z
  · rw [h] at z; cases z
theorem Good.rm1 (G : Good k R X W c) : Rm (k + 1) X.A := G.rm.mono (by omega)
theorem Good.rm0 (G : Good k R X W c) : Rm k X.A := G.rm.mono (by omega)
theorem Good.gl (G : Good k R X W c) {x : Str} (h : glB c.sc x = true) : Gl X x ∧ (x == ("__debug__" : Str)) = false ∧ x ≠ "__name__" := by
  obtain ⟨h1, h2⟩ := He.ba h
  obtain ⟨h2, h3⟩ := He.ba h2
  refine ⟨?_, by simpa using h2, of_decide_eq_true h3⟩
  show X.env.scope.names.lookup x = some .globalImplicit
  rw [G.sc]
  exact of_decide_eq_true h1
theorem Good.free (G : Good k R X W c) {x : Str} (h : decide (x ∈ c.S.fre) = true) : X.mg x = none := G.fa.fre x (of_decide_eq_true h)
end
theorem no_prom {hot : Bool} {P : Program} {w : World} {K : Frg} {mg : Str → Option Value} {base : Heap} {k : Nat} {f : Addr} {ks : List Str} : FnS hot P w K mg base k f ks (spP K noCt) := fun A outer s H us ws vs Q E hm hr e0 hl r h => by
  obtain ⟨B, μ, G, as, q, z, o, rr, hc, hq⟩ := h
  exact hc.elim
/-- where the table has no entry, nothing is asked: a promise of False is kept by anything -/
theorem noCt_mem {R : Rt} (F : Fid) : (F, R.ct F) ∈ R.L ∨ R.ct F = noCt := by
  unfold Rt.ct
  cases e : look R.L F with
  | none => exact .inr rfl
  | some c => exact .inl (look_mem e)
section
variable {k : Nat} {R : Rt} {X : Cx} {W : WX} {c : Cc}
theorem Good.prg (G : Good k R X W c) (x : Nat) (ks : List Nat) : FnS (!c.cm) X.prog X.w X.K X.mg X.base k (He.ga X.K (c.S.nm x)) (ks.map c.S.nm) (spP X.K (R.ct (.g x ks))) := by
  rcases noCt_mem (R := R) (.g x ks) with z | z
  · exact G.pr _ _ z
  · rw [z]; exact no_prom
theorem Good.prcm (G : Good k R X W c) (cl : Cl) (x : Nat) (ks : List Nat) : FnS (!c.cm) X.prog X.w X.K X.mg X.base k (cmFn X.K (ca X.K cl) (c.S.nm x)) (ks.map c.S.nm) (spP X.K (R.ct (.cm cl x ks))) := by
  rcases noCt_mem (R := R) (.cm cl x ks) with z | z
  · exact G.pr _ _ z
  · rw [z]; exact no_prom
theorem Good.prk (G : Good k R X W c) (hc : c.cm = true) (cl : Cl) (fz : Bool) (ks : List Nat) : ∃ ct, MkC fz cl ct (R.ct (.k cl fz ks)) ∧ FnS false X.prog X.w X.K X.mg X.base k (He.ma X.K (ca X.K cl) "__init__") (ks.map c.S.nm) (spP X.K ct) := by
  rcases noCt_mem (R := R) (.k cl fz ks) with z | z
  · have := G.pr _ _ z
    rw [hc] at this
    exact this
  · rw [z]; exact ⟨noCt, fun _ _ _ _ h => h.elim, no_prom⟩
end
structure ZE where
  d : Rt → DE
  ck : Cc → Expr → Bool
  ok : ∀ {k : Nat} {R : Rt} {X : Cx} {W : WX} {c : Cc} {e : Expr}, ck c e = true → Good k R X W c → EJ X W e (d R)
structure ZA where
  d : Rt → DA
  ck : Cc → List Expr → Bool
  ok : ∀ {k : Nat} {R : Rt} {X : Cx} {W : WX} {c : Cc} {e : List Expr}, ck c e = true → Good k R X W c → AJ X W e (d R)
structure ZT where
  d : Rt → DT
  ck : Cc → Expr → Bool
  ok : ∀ {k : Nat} {R : Rt} {X : Cx} {W : WX} {c : Cc} {e : Expr}, ck c e = true → Good k R X W c → TJ X W e (d R)
structure ZL where
  d : Rt → DL
  ck : Cc → Expr → Bool
  ok : ∀ {k : Nat} {R : Rt} {X : Cx} {W : WX} {c : Cc} {e : Expr}, ck c e = true → Good k R X W c → LJ X W e (d R)
structure ZK where
  d : Rt → DA
  ck : Cc → List Keyword → Bool
  ok : ∀ {k : Nat} {R : Rt} {X : Cx} {W : WX} {c : Cc} {e : List Keyword}, ck c e = true → Good k R X W c → KJ X W e (d R)
structure ZO where
  d : Rt → DO
  ck : Cc → Option Expr → Bool
  ok : ∀ {k : Nat} {R : Rt} {X : Cx} {W : WX} {c : Cc} {e : Option Expr}, ck c e = true → Good k R X W c → OJ X W e (d R)
theorem ff {P : Prop} {b : Bool} (h : b = true) (e : b = false) : P := by rw [e] at h; cases h
def zVar (i : Nat) : ZE where
  d := fun _ => dVar i
  ck := fun c e => match e with
    | .Name x _ => decide (c.N[i]? = some x) && (visB c.sc x && (!(x == ("__debug__" : Str)) && !(x == ("__classdict__" : Str))))
    | _ => false
  ok := fun {k R X W c e} h G => by
    cases e with
    | Name x p =>
      obtain ⟨h1, h⟩ := He.ba h
      obtain ⟨h2, h⟩ := He.ba h
      obtain ⟨h3, h4⟩ := He.ba h
      exact e_var i (by rw [G.N]; exact of_decide_eq_true h1) (by rw [G.sc]; exact visB_ok h2) (by simpa using h3) (by simpa using h4)
    | _ => exact ff h rfl
def zInt (i : Int) : ZE where
  d := fun _ => dC (.int i)
  ck := fun _ e => match e with
    | .Constant v _ _ => (match v with
      | .int j => decide (j = i)
      | _ => false)
    | _ => false
  ok := fun {k R X W c e} h G => by
    cases e with
    | Constant v j p =>
      cases v with
      | int n => obtain rfl : n = i := of_decide_eq_true h; exact e_int
      | _ => exact ff h rfl
    | _ => exact ff h rfl
def zBl (i : Bool) : ZE where
  d := fun _ => dC (.bl i)
  ck := fun _ e => match e with
    | .Constant v _ _ => (match v with
      | .bool j => decide (j = i)
      | _ => false)
    | _ => false
  ok := fun {k R X W c e} h G => by
    cases e with
    | Constant v j p =>
      cases v with
      | bool n => obtain rfl : n = i := of_decide_eq_true h; exact e_bl
      | _ => exact ff h rfl
    | _ => exact ff h rfl
def zStr (i : Str) : ZE where
  d := fun _ => dC (.str i)
  ck := fun _ e => match e with
    | .Constant v _ _ => (match v with
      | .str j => decide (j = i)
      | _ => false)
    | _ => false
  ok := fun {k R X W c e} h G => by
    cases e with
    | Constant v j p =>
      cases v with
      | str n => obtain rfl : n = i := of_decide_eq_true h; exact e_str
      | _ => exact ff h rfl
    | _ => exact ff h rfl
def zNon : ZE where
  d := fun _ => dC .non
  ck := fun _ e => match e with
    | .Constant v _ _ => (match v with
      | .none => true
      | _ => false)
    | _ => false
  ok := fun {k R X W c e} h G => by
    cases e with
    | Constant v j p =>
      cases v with
      | none => exact e_non
      | _ => exact ff h rfl
    | _ => exact ff h rfl
def zCls (c : Cl) : ZE where
  d := fun _ => dC (.cls c)
  ck := fun C e => match e with
    | .Name x _ => decide (x = c.name) && (glB C.sc x && decide (c ∈ C.S.hs ++ C.S.xs))
    | _ => false
  ok := fun {k R X W C e} h G => by
    cases e with
    | Name x p =>
      obtain ⟨h1, h⟩ := He.ba h
      obtain ⟨h2, h3⟩ := He.ba h
      obtain rfl := of_decide_eq_true h1
      have h3 := of_decide_eq_true h3
      obtain ⟨g1, g2, _⟩ := G.gl h2
      refine e_cls c ?_ (G.fa.cn c h3) g1 g2
      rcases List.mem_append.mp h3 with z | z
      · unfold knB; rw [G.fa.kc c z] <;> rfl
      · unfold knB; rw [G.fa.xc c z]; simp
    | _ => exact ff h rfl
/-- a built-in class, as a value -/
def zTy (n : String) : ZE where
  d := fun _ => dC (.ty n)
  ck := fun C e => match e with
    | .Name x _ => glB C.sc x && (decide (x ∈ C.S.fre) && decide (bootBuiltins x = some (.type n)))
    | _ => false
  ok := fun {k R X W C e} h G => by
    cases e with
    | Name x p =>
      obtain ⟨h1, h⟩ := He.ba h
      obtain ⟨h2, h3⟩ := He.ba h
      obtain ⟨g1, g2, g3⟩ := G.gl h1
      exact e_ty n (G.free h2) (of_decide_eq_true h3) g1 g3 g2
    | _ => exact ff h rfl
def zNil : ZA where
  d := fun _ => dNil
  ck := fun _ e => match e with
    | [] => true
    | _ => false
  ok := fun {k R X W c e} h G => by
    cases e with
    | nil => exact a_nil
    | cons _ _ => exact ff h rfl
def zCons (a : ZE) (as : ZA) : ZA where
  d := fun R => dCons (a.d R) (as.d R)
  ck := fun c e => match e with
    | x :: xs => nstar x && (a.ck c x && as.ck c xs)
    | [] => false
  ok := fun {k R X W c e} h G => by
    cases e with
    | nil => exact ff h rfl
    | cons x xs =>
      obtain ⟨h1, h⟩ := He.ba h
      obtain ⟨h2, h3⟩ := He.ba h
      exact a_cons (a.ok h2 G) (as.ok h3 G) (star_cons h1)
def zKnil : ZK where
  d := fun _ => dNil
  ck := fun _ e => match e with
    | [] => true
    | _ => false
  ok := fun {k R X W c e} h G => by
    cases e with
    | nil => exact k_nil
    | cons _ _ => exact ff h rfl
def zKcons (a : ZE) (as : ZK) : ZK where
  d := fun R => dCons (a.d R) (as.d R)
  ck := fun c e => match e with
    | x :: xs => a.ck c x.value && as.ck c xs
    | [] => false
  ok := fun {k R X W c e} h G => by
    cases e with
    | nil => exact ff h rfl
    | cons x xs =>
      obtain ⟨nm, v, p⟩ := x
      obtain ⟨h2, h3⟩ := He.ba h
      exact k_cons (a.ok h2 G) (as.ok h3 G)
def zTup (as : ZA) : ZE where
  d := fun R => dTup (as.d R)
  ck := fun c e => match e with
    | .Tuple es _ _ => as.ck c es
    | _ => false
  ok := fun {k R X W c e} h G => by
    cases e with
    | Tuple es n p => exact e_tup (as.ok h G)
    | _ => exact ff h rfl
def zDisp (as : ZA) : ZL where
  d := fun R => lDisp (as.d R)
  ck := fun c e => match e with
    | .List es _ => as.ck c es
    | _ => false
  ok := fun {k R X W c e} h G => by
    cases e with
    | List es p => exact l_disp (as.ok h G)
    | _ => exact ff h rfl
/-- a list that is never changed -/
def zLst (l : ZL) : ZE where
  d := fun R => dLst (l.d R)
  ck := l.ck
  ok := fun h G => e_new (l.ok h G)
/-- a list that may be changed -/
def zNew (l : ZL) : ZE where
  d := fun R => dNew (l.d R)
  ck := l.ck
  ok := fun h G => e_newC (l.ok h G)
/-- .. that is changed no longer -/
def zFrz (a : ZE) : ZE where
  d := fun R => dFrz (a.d R)
  ck := a.ck
  ok := fun h G => e_frz (a.ok h G)
end Px
namespace Px
open PySem PySem.Spec PyProof.Rows L2
section
variable {k : Nat} {R : Rt} {X : Cx} {W : WX} {c : Cc}
def mT (R : Rt) (m : Nat) : Cl → Option Ct := fun cl => look R.L (.m cl m [])
theorem Good.mtab (G : Good k R X W c) (m : Nat) : MTab (!c.cm) X k (c.S.nm m) [] (mT R m) := fun cl ct h => by
  obtain ⟨h1, h2, h3, h4, h5, h6⟩ := G.pr _ _ (look_mem h)
  exact ⟨h1, _, (kcB_ok h2).cls, h3, h6⟩
theorem Good.sf (G : Good k R X W c) (m : Nat) : ∀ cl ct, mT R m cl = some ct → PySem.W.selfFirst X.K (ca X.K cl) = true := fun cl ct h => by
  obtain ⟨h1, h2, h3, h4, h5, h6⟩ := G.pr _ _ (look_mem h)
  exact h5
end
def noF : FO := fun _ _ _ _ _ => False
def opD (R : Rt) : Operator → FO
  | .Add => binA addP (mT R 0) (fun c => R.has (.bo c))
  | .Sub => binD subP (mT R 1)
  | .BitAnd => binD andP (mT R 2)
  | .BitOr => binD orP (mT R 3)
  | .BitXor => binD xorP (mT R 4)
  | .Mod => fo modP
  | .FloorDiv => fo divP
  | .Pow => fo powP
  | .LShift => fo shlP
  | .RShift => fo shrP
  | .Mult => fo mulP
  | _ => noF
theorem no_oj {X : Cx} {W : WX} {op : Value → Value → Sem Value} : OpJ X W op noF := fun pins s σ H B ρ μ G a b va vb u w q x Q J R ra rb ru rw' h gv gx => h.elim
theorem opD_ok {k : Nat} {R : Rt} {X : Cx} {W : WX} {c : Cc} (G : Good k R X W c) (op : Operator) : OpJ X W (binaryOp op) (opD R op) := by
  cases op with
  | Add => exact oj_add.withAdd (oj_add_own (G.mtab 0) (G.sf 0) (fun d h => G.pr _ _ (Rt.has_mem h)) G.md G.rm0 G.tk)
  | Sub => exact oj_sub.withOwn (oj_own (G.mtab 1) (G.sf 1) G.md G.rm0 G.tk)
  | BitAnd => exact oj_and.withOwn (oj_own (G.mtab 2) (G.sf 2) G.md G.rm0 G.tk)
  | BitOr => exact oj_or.withOwn (oj_own (G.mtab 3) (G.sf 3) G.md G.rm0 G.tk)
  | BitXor => exact oj_xor.withOwn (oj_own (G.mtab 4) (G.sf 4) G.md G.rm0 G.tk)
  | Mod => exact oj_mod
  | FloorDiv => exact oj_div
  | Pow => exact oj_pow
  | LShift => exact oj_shl
  | RShift => exact oj_shr
  | Mult => exact oj_mul
  | _ => exact no_oj
def zBin (op : Operator) (a b : ZE) : ZE where
  d := fun R => dBin (opD R op) (a.d R) (b.d R)
  ck := fun c e => match e with
    | .BinOp x o y _ => decide (o = op) && (a.ck c x && b.ck c y)
    | _ => false
  ok := fun {k R X W c e} h G => by
    cases e with
    | BinOp x o y p =>
      obtain ⟨h1, h⟩ := He.ba h
      obtain ⟨h2, h3⟩ := He.ba h
      obtain rfl := of_decide_eq_true h1
      exact e_bin (opD_ok G o) (a.ok h2 G) (b.ok h3 G)
    | _ => exact ff h rfl
/-- == and != -/
def eqD (R : Rt) (neg : Bool) : FO := eqQ R.Q neg
def cmpD (R : Rt) : CmpOp → FO
  | .Eq => eqD R false
  | .NotEq => eqD R true
  | .Lt => fo ltP
  | .LtE => fo leI
  | .Gt => fo gtI
  | .GtE => fo geI
  | .In => inD (mT R 6)
  | .NotIn => fo (inF true)
  | .Is => fo (isP false)
  | .IsNot => fo (isP true)
/-- what stands only where no error is handled -/
def cmpC : CmpOp → Bool
  | _ => false
theorem cmpD_ok {k : Nat} {R : Rt} {X : Cx} {W : WX} {c : Cc} (G : Good k R X W c) (op : CmpOp) (h : (!cmpC op || c.cm) = true) : OpJ X W (compareOp op) (cmpD R op) := by
  cases op with
  | Eq => exact oj_eqQ G.qo G.rm1
  | NotEq => exact oj_neQ G.qo G.rm1
  | Lt => exact oj_lt
  | LtE => exact oj_le
  | Gt => exact oj_gt
  | GtE => exact oj_ge
  | In => exact oj_inO (G.mtab 6) G.md G.rm0
  | NotIn => exact oj_notin
  | Is => exact oj_is
  | IsNot => exact oj_isnot
def zCmp (op : CmpOp) (a b : ZE) : ZE where
  d := fun R => dBin (cmpD R op) (a.d R) (b.d R)
  ck := fun c e => match e with
    | .Compare x [o] [y] _ => decide (o = op) && ((!cmpC op || c.cm) && (noSet y && (a.ck c x && b.ck c y)))
    | _ => false
  ok := fun {k R X W c e} h G => by
    split at h
    · rename_i x o y p
      obtain ⟨h1, h⟩ := He.ba h
      obtain ⟨h2, h⟩ := He.ba h
      obtain ⟨h3, h⟩ := He.ba h
      obtain ⟨h4, h5⟩ := He.ba h
      obtain rfl := of_decide_eq_true h1
      exact e_cmp (cmpD_ok G o h2) (a.ok h4 G) (b.ok h5 G) (mark_of h3)
    · cases h
/-- a comparison, as a test -/
def tCmp (op : CmpOp) (a b : ZE) : ZT where
  d := fun R => dB (dBin (cmpD R op) (a.d R) (b.d R))
  ck := fun c e => match e with
    | .Compare x [o] [y] _ => decide (o = op) && ((!cmpC op || c.cm) && (noSet y && (a.ck c x && b.ck c y)))
    | _ => false
  ok := fun {k R X W c e} h G => by
    split at h
    · rename_i x o y p
      obtain ⟨h1, h⟩ := He.ba h
      obtain ⟨h2, h⟩ := He.ba h
      obtain ⟨h3, h⟩ := He.ba h
      obtain ⟨h4, h5⟩ := He.ba h
      obtain rfl := of_decide_eq_true h1
      exact t_cmp (cmpD_ok G o h2) (a.ok h4 G) (b.ok h5 G) (mark_of h3)
    · cases h
def tChain (o1 o2 : CmpOp) (a b d : ZE) : ZT where
  d := fun R => dB (dChain (cmpD R o1) (cmpD R o2) (a.d R) (b.d R) (d.d R))
  ck := fun c e => match e with
    | .Compare x [p1, p2] [y, z] _ => decide (p1 = o1) && (decide (p2 = o2) && ((!cmpC o1 || c.cm) && ((!cmpC o2 || c.cm) && (noSet z && (a.ck c x && (b.ck c y && d.ck c z))))))
    | _ => false
  ok := fun {k R X W c e} h G => by
    split at h
    · rename_i x p1 p2 y z p
      obtain ⟨h1, h⟩ := He.ba h
      obtain ⟨h2, h⟩ := He.ba h
      obtain ⟨h3, h⟩ := He.ba h
      obtain ⟨h4, h⟩ := He.ba h
      obtain ⟨h5, h⟩ := He.ba h
      obtain ⟨h6, h⟩ := He.ba h
      obtain ⟨h7, h8⟩ := He.ba h
      obtain rfl := of_decide_eq_true h1
      obtain rfl := of_decide_eq_true h2
      exact t_chain (cmpD_ok G p1 h3) (cmpD_ok G p2 h4) (a.ok h6 G) (b.ok h7 G) (d.ok h8 G) (mark_of h5)
    · cases h
/-- .. or an object that says what it is -/
def tTr (a : ZE) : ZT where
  d := fun R => dTr (trD (mT R 8)) (a.d R)
  ck := fun c e => plainT e && a.ck c e
  ok := fun {k R X W c e} h G => by
    obtain ⟨h1, h2⟩ := He.ba h
    exact t_tr (tj_own (G.mtab 8) G.md G.rm0) (a.ok h2 G) (isTrue_of h1)
def tNot (a : ZT) : ZT where
  d := fun R => dNot (a.d R)
  ck := fun c e => match e with
    | .UnaryOp o x _ => (match o with
      | .Not => a.ck c x
      | _ => false)
    | _ => false
  ok := fun {k R X W c e} h G => by
    cases e with
    | UnaryOp o x p =>
      cases o with
      | Not => exact t_not (a.ok h G)
      | _ => exact ff h rfl
    | _ => exact ff h rfl
def tAndL : List ZT → Rt → DT
  | [], _ => dYes
  | [t], R => t.d R
  | t :: u :: r, R => dAnd (t.d R) (tAndL (u :: r) R)
def tOrL : List ZT → Rt → DT
  | [], _ => dYes
  | [t], R => t.d R
  | t :: u :: r, R => dOr (t.d R) (tOrL (u :: r) R)
def ckL : List ZT → Cc → List Expr → Bool
  | [], _, _ => false
  | [t], c, [e] => t.ck c e
  | t :: u :: r, c, e :: es => t.ck c e && ckL (u :: r) c es
  | _, _, _ => false
theorem andL_ok {k : Nat} {R : Rt} {X : Cx} {W : WX} {c : Cc} {pos : Pos} (G : Good k R X W c) : ∀ {ts : List ZT} {es : List Expr}, ckL ts c es = true → WJ X W (.BoolOp .And es pos) (tAndL ts R)
  | [], es, h => by cases h
  | [t], es, h => by
    match es, h with
    | [e], h => exact w_and1 (t.ok h G)
  | t :: u :: r, es, h => by
    match es, h with
    | e :: es', h =>
      obtain ⟨h1, h2⟩ := He.ba h
      match es', h2 with
      | e2 :: es2, h2 => exact w_and (t.ok h1 G) (andL_ok G h2)
      | [], h2 => cases r <;> cases h2
theorem orL_ok {k : Nat} {R : Rt} {X : Cx} {W : WX} {c : Cc} {pos : Pos} (G : Good k R X W c) : ∀ {ts : List ZT} {es : List Expr}, ckL ts c es = true → WJ X W (.BoolOp .Or es pos) (tOrL ts R)
  | [], es, h => by cases h
  | [t], es, h => by
    match es, h with
    | [e], h => exact w_or1 (t.ok h G)
  | t :: u :: r, es, h => by
    match es, h with
    | e :: es', h =>
      obtain ⟨h1, h2⟩ := He.ba h
      match es', h2 with
      | e2 :: es2, h2 => exact w_or (t.ok h1 G) (orL_ok G h2)
      | [], h2 => cases r <;> cases h2
def tAnd (ts : List ZT) : ZT where
  d := fun R => tAndL ts R
  ck := fun c e => match e with
    | .BoolOp o es _ => (match o with
      | .And => ckL ts c es
      | _ => false)
    | _ => false
  ok := fun {k R X W c e} h G => by
    cases e with
    | BoolOp o es p =>
      cases o with
      | And => exact t_w (andL_ok G h)
      | Or => exact ff h rfl
    | _ => exact ff h rfl
def tOr (ts : List ZT) : ZT where
  d := fun R => tOrL ts R
  ck := fun c e => match e with
    | .BoolOp o es _ => (match o with
      | .Or => ckL ts c es
      | _ => false)
    | _ => false
  ok := fun {k R X W c e} h G => by
    cases e with
    | BoolOp o es p =>
      cases o with
      | Or => exact t_w (orL_ok G h)
      | And => exact ff h rfl
    | _ => exact ff h rfl
def andV : List ZE → Rt → DE
  | [], _ => fun _ _ _ _ => False
  | [t], R => t.d R
  | t :: u :: r, R => dAndV (t.d R) (andV (u :: r) R)
def ckV : List ZE → Cc → List Expr → Bool
  | [], _, _ => false
  | [t], c, [e] => t.ck c e
  | t :: u :: r, c, e :: es => t.ck c e && ckV (u :: r) c es
  | _, _, _ => false
theorem andV_ok {k : Nat} {R : Rt} {X : Cx} {W : WX} {c : Cc} {pos : Pos} (G : Good k R X W c) : ∀ {ts : List ZE} {es : List Expr}, ckV ts c es = true → EJ X W (.BoolOp .And es pos) (andV ts R)
  | [], es, h => by cases h
  | [t], es, h => by
    match es, h with
    | [e], h => exact e_one (t.ok h G)
  | t :: u :: r, es, h => by
    match es, h with
    | e :: es', h =>
      obtain ⟨h1, h2⟩ := He.ba h
      match es', h2 with
      | e2 :: es2, h2 => exact e_and (t.ok h1 G) (andV_ok G h2)
      | [], h2 => cases r <;> cases h2
def zAnd (ts : List ZE) : ZE where
  d := fun R => andV ts R
  ck := fun c e => match e with
    | .BoolOp o es _ => (match o with
      | .And => ckV ts c es
      | _ => false)
    | _ => false
  ok := fun {k R X W c e} h G => by
    cases e with
    | BoolOp o es p =>
      cases o with
      | And => exact andV_ok G h
      | Or => exact ff h rfl
    | _ => exact ff h rfl
def zNot (a : ZE) : ZE where
  d := fun R => dNotV (a.d R)
  ck := fun c e => match e with
    | .UnaryOp o x _ => (match o with
      | .Not => a.ck c x
      | _ => false)
    | _ => false
  ok := fun {k R X W c e} h G => by
    cases e with
    | UnaryOp o x p =>
      cases o with
      | Not => exact e_not (a.ok h G)
      | _ => exact ff h rfl
    | _ => exact ff h rfl
/-- f(e, ..) -/
def zCall (x : Nat) (as : ZA) : ZE where
  d := fun R => dCall (R.ct (.g x [])) (as.d R)
  ck := fun c e => match e with
    | .Call (.Name y _) (a :: es) [] _ => decide (y = c.S.nm x) && (glB c.sc y && (decide (x ∈ c.S.gl) && (nstar a && (nost es && as.ck c (a :: es)))))
    | _ => false
  ok := fun {k R X W c e} h G => by
    split at h
    · rename_i y p0 a es pos
      obtain ⟨h1, h⟩ := He.ba h
      obtain ⟨h2, h⟩ := He.ba h
      obtain ⟨h3, h⟩ := He.ba h
      obtain ⟨n1, h⟩ := He.ba h
      obtain ⟨n2, h4⟩ := He.ba h
      obtain rfl := of_decide_eq_true h1
      obtain ⟨g1, g2, _⟩ := G.gl h2
      obtain ⟨p1, p2⟩ := G.fa.gl x (of_decide_eq_true h3)
      exact e_call (G.prg x []) G.md G.rm0 G.tk p1 p2 (as.ok h4 G) g1 g2 (star_cons n1) (nost_any n2)
    · cases h
def zMk0 (cl : Cl) (fz : Bool) : ZE where
  d := fun R => dCall (R.ct (.k cl fz [])) dNil
  ck := fun c e => match e with
    | .Call (.Name y _) [] [] _ => decide (y = cl.name) && (glB c.sc y && (decide (cl ∈ c.S.mks) && c.cm))
    | _ => false
  ok := fun {k R X W c e} h G => by
    split at h
    · rename_i y p0 pos
      obtain ⟨h1, h⟩ := He.ba h
      obtain ⟨h2, h⟩ := He.ba h
      obtain ⟨h3, h4⟩ := He.ba h
      obtain rfl := of_decide_eq_true h1
      obtain ⟨g1, g2, _⟩ := G.gl h2
      obtain ⟨p1, p2, p3⟩ := G.fa.mks cl (of_decide_eq_true h3)
      obtain ⟨ct, m1, m2⟩ := G.prk h4 cl fz []
      exact e_make0 p1 m1 p3 m2 (G.calm h4) G.rm1 G.tk p2 g1 g2
    · cases h
def zMk (cl : Cl) (fz : Bool) (as : ZA) : ZE where
  d := fun R => dCall (R.ct (.k cl fz [])) (as.d R)
  ck := fun c e => match e with
    | .Call (.Name y _) (a :: es) [] _ => decide (y = cl.name) && (glB c.sc y && (decide (cl ∈ c.S.mks) && (c.cm && (nstar a && (nost es && as.ck c (a :: es))))))
    | _ => false
  ok := fun {k R X W c e} h G => by
    split at h
    · rename_i y p0 a es pos
      obtain ⟨h1, h⟩ := He.ba h
      obtain ⟨h2, h⟩ := He.ba h
      obtain ⟨h3, h⟩ := He.ba h
      obtain ⟨h4, h⟩ := He.ba h
      obtain ⟨n1, h⟩ := He.ba h
      obtain ⟨n2, h5⟩ := He.ba h
      obtain rfl := of_decide_eq_true h1
      obtain ⟨g1, g2, _⟩ := G.gl h2
      obtain ⟨p1, p2, p3⟩ := G.fa.mks cl (of_decide_eq_true h3)
      obtain ⟨ct, m1, m2⟩ := G.prk h4 cl fz []
      exact e_make p1 m1 p3 m2 (G.calm h4) G.rm1 G.tk p2 (as.ok h5 G) g1 g2 (star_cons n1) (nost_any n2)
    · cases h
/-- v(e, ..): the local v holds the class -/
def zMkV (cl : Cl) (fz : Bool) (v : ZE) (as : ZA) : ZE where
  d := fun R => dMkV cl (R.ct (.k cl fz [])) (v.d R) (as.d R)
  ck := fun c e => match e with
    | .Call (.Name y p) (a :: es) [] _ => v.ck c (.Name y p) && (decide (cl ∈ c.S.mks) && (c.cm && (nstar a && (nost es && as.ck c (a :: es)))))
    | _ => false
  ok := fun {k R X W c e} h G => by
    split at h
    · rename_i y p0 a es pos
      obtain ⟨h2, h⟩ := He.ba h
      obtain ⟨h3, h⟩ := He.ba h
      obtain ⟨h4, h⟩ := He.ba h
      obtain ⟨n1, h⟩ := He.ba h
      obtain ⟨n2, h5⟩ := He.ba h
      obtain ⟨p1, p2, p3⟩ := G.fa.mks cl (of_decide_eq_true h3)
      obtain ⟨ct, m1, m2⟩ := G.prk h4 cl fz []
      exact e_mkV p1 m1 p3 m2 (G.calm h4) G.rm1 G.tk (v.ok h2 G) (as.ok h5 G) (star_cons n1) (nost_any n2)
    · cases h
/-- v(*e) -/
def zMkVS (cl : Cl) (fz : Bool) (v a : ZE) : ZE where
  d := fun R => dMkV cl (R.ct (.k cl fz [])) (v.d R) (dStar (a.d R) dNil)
  ck := fun c e => match e with
    | .Call (.Name y p) [.Starred x _] [] _ => v.ck c (.Name y p) && (decide (cl ∈ c.S.mks) && (c.cm && a.ck c x))
    | _ => false
  ok := fun {k R X W c e} h G => by
    split at h
    · rename_i y p0 x p1 pos
      obtain ⟨h2, h⟩ := He.ba h
      obtain ⟨h3, h⟩ := He.ba h
      obtain ⟨h4, h5⟩ := He.ba h
      obtain ⟨p1, p2, p3⟩ := G.fa.mks cl (of_decide_eq_true h3)
      obtain ⟨ct, m1, m2⟩ := G.prk h4 cl fz []
      exact e_mkVS p1 m1 p3 m2 (G.calm h4) G.rm1 G.tk (v.ok h2 G) (a.ok h5 G)
    · cases h
def zMeth0 (m : Nat) (o : ZE) : ZE where
  d := fun R => dMeth (mT R m) (o.d R) dNil
  ck := fun c e => match e with
    | .Call (.Attribute x y apos) [] [] pos => decide (y = c.S.nm m) && (nsup x && (fewB [] [] apos pos && o.ck c x))
    | _ => false
  ok := fun {k R X W c e} h G => by
    split at h
    · rename_i x y apos pos
      obtain ⟨h1, h⟩ := He.ba h
      obtain ⟨h2, h⟩ := He.ba h
      obtain ⟨h3, h4⟩ := He.ba h
      obtain rfl := of_decide_eq_true h1
      exact e_meth0 (G.mtab m) G.md G.rm0 G.tk (o.ok h4 G) (eval_meth (ks := []) h2 h3 rfl)
    · cases h
end Px
namespace Px
open PySem PySem.Spec PyProof.Rows L2
def zCm0 (cl : Cl) (m : Nat) (o : ZE) : ZE where
  d := fun R => dCm cl (R.ct (.cm cl m [])) (o.d R) dNil
  ck := fun c e => match e with
    | .Call (.Attribute x y apos) [] [] pos => decide (y = c.S.nm m) && (nsup x && (fewB [] [] apos pos && (o.ck c x && decide ((cl, m) ∈ c.S.cms))))
    | _ => false
  ok := fun {k R X W c e} h G => by
    split at h
    · rename_i x y apos pos
      obtain ⟨h1, h⟩ := He.ba h
      obtain ⟨h2, h⟩ := He.ba h
      obtain ⟨h3, h⟩ := He.ba h
      obtain ⟨h4, h5⟩ := He.ba h
      obtain rfl := of_decide_eq_true h1
      obtain ⟨p1, p2, p3⟩ := G.fa.cms _ (of_decide_eq_true h5)
      exact e_cmeth0 p1 p2 p3 (G.prcm cl m []) G.md G.rm0 G.tk (o.ok h4 G) (eval_meth (ks := []) h2 h3 rfl)
    · cases h
def zCm (cl : Cl) (m : Nat) (o : ZE) (as : ZA) : ZE where
  d := fun R => dCm cl (R.ct (.cm cl m [])) (o.d R) (as.d R)
  ck := fun c e => match e with
    | .Call (.Attribute x y apos) (a :: es) [] pos => decide (y = c.S.nm m) && (nsup x && (fewB (a :: es) [] apos pos && (o.ck c x && (decide ((cl, m) ∈ c.S.cms) && (nstar a && (nost es && as.ck c (a :: es)))))))
    | _ => false
  ok := fun {k R X W c e} h G => by
    split at h
    · rename_i x y apos a es pos
      obtain ⟨h1, h⟩ := He.ba h
      obtain ⟨h2, h⟩ := He.ba h
      obtain ⟨h3, h⟩ := He.ba h
      obtain ⟨h4, h⟩ := He.ba h
      obtain ⟨h5, h⟩ := He.ba h
      obtain ⟨n1, h⟩ := He.ba h
      obtain ⟨n2, h6⟩ := He.ba h
      obtain rfl := of_decide_eq_true h1
      obtain ⟨p1, p2, p3⟩ := G.fa.cms _ (of_decide_eq_true h5)
      exact e_cmeth p1 p2 p3 (G.prcm cl m []) G.md G.rm0 G.tk (o.ok h4 G) (as.ok h6 G) (star_cons n1) (nost_any n2) (eval_meth (ks := []) h2 h3 rfl)
    · cases h
def zAtt (f : Str) (o : ZE) : ZE where
  d := fun R => dUn (attrP f) (o.d R)
  ck := fun c e => match e with
    | .Attribute x y _ => decide (y = f) && (nsup x && o.ck c x)
    | _ => false
  ok := fun {k R X W c e} h G => by
    cases e with
    | Attribute x y p =>
      obtain ⟨h1, h⟩ := He.ba h
      obtain ⟨h2, h3⟩ := He.ba h
      obtain rfl := of_decide_eq_true h1
      exact e_att uj_attr (o.ok h3 G) (base_of h2)
    | _ => exact ff h rfl
/-- C.NAME -/
def zCval (cl : Cl) (f : Str) (v : Kst) (o : ZE) : ZE where
  d := fun R => dUn (cvP cl v.pv) (o.d R)
  ck := fun c e => match e with
    | .Attribute x y _ => decide (y = f) && (nsup x && (o.ck c x && decide ((cl, f, v) ∈ c.S.cv)))
    | _ => false
  ok := fun {k R X W c e} h G => by
    cases e with
    | Attribute x y p =>
      obtain ⟨h1, h⟩ := He.ba h
      obtain ⟨h2, h⟩ := He.ba h
      obtain ⟨h3, h4⟩ := He.ba h
      obtain rfl := of_decide_eq_true h1
      obtain ⟨v', u, p1, p2, p3⟩ := G.fa.cv _ (of_decide_eq_true h4)
      exact e_cval p1 p2 p3 (o.ok h3 G) (base_of h2)
    | _ => exact ff h rfl
def zIdx (a b : ZE) : ZE where
  d := fun R => dBin (fo ixP) (a.d R) (b.d R)
  ck := fun c e => match e with
    | .Subscript x y _ => noSlice y && (a.ck c x && b.ck c y)
    | _ => false
  ok := fun {k R X W c e} h G => by
    cases e with
    | Subscript x y p =>
      obtain ⟨h1, h⟩ := He.ba h
      obtain ⟨h2, h3⟩ := He.ba h
      exact e_ixJ ij_seq (a.ok h2 G) (b.ok h3 G) (plainIx_of h1)
    | _ => exact ff h rfl
def zO0 : ZO where
  d := fun _ => oNone
  ck := fun _ e => match e with
    | none => true
    | some _ => false
  ok := fun {k R X W c e} h G => by
    cases e with
    | none => exact o_none
    | some _ => exact ff h rfl
def zO1 (a : ZE) : ZO where
  d := fun R => oSome (a.d R)
  ck := fun c e => match e with
    | some x => a.ck c x
    | none => false
  ok := fun {k R X W c e} h G => by
    cases e with
    | some x => exact o_some (a.ok h G)
    | none => exact ff h rfl
def zSl (a : ZE) (lo hi : ZO) : ZE where
  d := fun R => dSl (a.d R) (lo.d R) (hi.d R)
  ck := fun c e => match e with
    | .Subscript x (.Slice l u none _) _ => a.ck c x && (lo.ck c l && hi.ck c u)
    | _ => false
  ok := fun {k R X W c e} h G => by
    split at h
    · obtain ⟨h1, h⟩ := He.ba h
      obtain ⟨h2, h3⟩ := He.ba h
      exact e_slice (a.ok h1 G) (lo.ok h2 G) (hi.ok h3 G)
    · cases h
/-- the built-ins that are called by name: len, int, bool, all, any, sum, tuple, isinstance, repr, str -/
inductive Blt where
  | len | int | bool | all | any | sum | tuple | isi | repr | str | lenH
  deriving DecidableEq
def Blt.nm : Blt → Str
  | .len => "len" | .int => "int" | .bool => "bool" | .all => "all" | .any => "any" | .sum => "sum" | .tuple => "tuple" | .isi => "isinstance" | .repr => "repr" | .str => "str" | .lenH => "len"
def bltF (R : Rt) : Blt → FC
  | .len => bltD fLen (mT R 7) okLen
  | .int => fc fInt
  | .bool => bltD fBool (mT R 8) okBl
  | .all => fc fAll
  | .any => fc fAny
  | .sum => fc fSum
  | .tuple => fc fTuple
  | .isi => fc fIsi
  | .repr => own1 (mT R 11) okStr
  | .str => bltD fStr (mT R 10) okStr
  | .lenH => fc fLen
/-- those that may stand where an error is handled -/
def Blt.hot : Blt → Bool
  | .int => true | .isi => true | .lenH => true | .all => true | .len => true | .bool => true | .repr => true | .str => true | .tuple => true
  | _ => false
def zBlt (b : Blt) (as : ZA) : ZE where
  d := fun R => dBlt (bltF R b) (as.d R)
  ck := fun c e => match e with
    | .Call (.Name y _) (a :: es) [] _ => decide (y = b.nm) && (glB c.sc y && (decide (y ∈ c.S.fre) && ((b.hot || c.cm) && (nstar a && (nost es && as.ck c (a :: es))))))
    | _ => false
  ok := fun {k R X W c e} h G => by
    split at h
    · rename_i y p0 a es pos
      obtain ⟨h1, h⟩ := He.ba h
      obtain ⟨h2, h⟩ := He.ba h
      obtain ⟨h3, h⟩ := He.ba h
      obtain ⟨h4, h⟩ := He.ba h
      obtain ⟨n1, h⟩ := He.ba h
      obtain ⟨n2, h5⟩ := He.ba h
      obtain rfl := of_decide_eq_true h1
      obtain ⟨g1, g2, g3⟩ := G.gl h2
      have hf := G.free h3
      have ha := as.ok h5 G
      have hc : b.hot = false → X.calm = true := fun z => by
        rw [z] at h4
        exact G.calm h4
      cases b with
      | len => exact e_blt (cj_lenO (G.mtab 7) G.md G.rm1) hf (by decide +kernel) ha g1 g3 g2 (star_cons n1) (nost_any n2)
      | int => exact e_bty cj_int hf (by decide +kernel) ha g1 g3 g2 (star_cons n1) (nost_any n2)
      | bool => exact e_bty (cj_boolO (G.mtab 8) G.md G.rm1) hf (by decide +kernel) ha g1 g3 g2 (star_cons n1) (nost_any n2)
      | all => exact e_blt (cj_allM G.md) hf (by decide +kernel) ha g1 g3 g2 (star_cons n1) (nost_any n2)
      | any => exact e_blt (cj_any (hc rfl)) hf (by decide +kernel) ha g1 g3 g2 (star_cons n1) (nost_any n2)
      | sum => exact e_blt (cj_sum (hc rfl)) hf (by decide +kernel) ha g1 g3 g2 (star_cons n1) (nost_any n2)
      | tuple => exact e_bty cj_tuple hf (by decide +kernel) ha g1 g3 g2 (star_cons n1) (nost_any n2)
      | isi => exact e_blt (cj_isi G.fa.ka) hf (by decide +kernel) ha g1 g3 g2 (star_cons n1) (nost_any n2)
      | repr => exact e_blt (cj_reprO (G.mtab 11) G.md G.rm1) hf (by decide +kernel) ha g1 g3 g2 (star_cons n1) (nost_any n2)
      | lenH => exact e_blt cj_len hf (by decide +kernel) ha g1 g3 g2 (star_cons n1) (nost_any n2)
      | str => exact e_bty (cj_strO (G.mtab 10) G.md G.rm1) hf (by decide +kernel) ha g1 g3 g2 (star_cons n1) (nost_any n2)
    · cases h
def zJoin (a b : ZE) : ZE where
  d := fun R => dJoin (a.d R) (b.d R)
  ck := fun c e => match e with
    | .Call (.Attribute x y apos) [z] [] pos => decide (y = "join") && (nsup x && (nstar z && ((apos.endLine == pos.line) && (a.ck c x && b.ck c z))))
    | _ => false
  ok := fun {k R X W c e} h G => by
    split at h
    · rename_i x y apos z pos
      obtain ⟨h1, h⟩ := He.ba h
      obtain ⟨h2, h⟩ := He.ba h
      obtain ⟨h3, h⟩ := He.ba h
      obtain ⟨h4, h⟩ := He.ba h
      obtain ⟨h5, h6⟩ := He.ba h
      obtain rfl := of_decide_eq_true h1
      exact e_join (a.ok h5 G) (b.ok h6 G) (star_cons h3) (base_of h2) h4
    · cases h
end Px
namespace Px
open PySem PySem.Spec PyProof.Rows L2
section
variable {X : Cx} {W : WX} {y : Str} {py spos : Pos} {elt tg iter : Expr} {ifs : List Expr} {scope : Scope} {own : List (Str × Nat)} {pos : Pos}
theorem ps_setLcH {i : Nat} {wi : TI} {g : TG} {tt : TT} {te : TE} (hc : L2H.HotC X) (nd : X.N.Nodup) (hy : X.N[i]? = some y) (hyl : X.env.scope.names.lookup y = some .local) (hsw : swapsWith (.ListComp elt [⟨tg, iter, ifs, 0⟩] scope pos) (some (.Name y py)) spos.line X.env = pure true) (hi : L2H.PIH X tg iter wi) (ok : BlkOk X.N X.env.scope scope own)
    (hg : ∀ (p : Addr × Obj), L2H.Hot1 X.A p → ∀ (s : Shared) (H : Hp) (C : Addr) (cl : List (Str × Addr)) (fp : List Addr), PG (blkH X p s H scope (compEnvC scope cl C X.env) fp) tg g) (ht : ∀ (p : Addr × Obj), L2H.Hot1 X.A p → ∀ (s : Shared) (H : Hp) (C : Addr) (cl : List (Str × Addr)) (fp : List Addr), PTs (blkH X p s H scope (compEnvC scope cl C X.env) fp) ifs tt)
    (he : ∀ (p : Addr × Obj), L2H.Hot1 X.A p → ∀ (s : Shared) (H : Hp) (C : Addr) (cl : List (Str × Addr)) (fp : List Addr), PE (blkH X p s H scope (compEnvC scope cl C X.env) fp) elt te) (hs : ∀ x, foldedSetIterable iter X.env x = pure x) :
    PS X (.Assign [.Name y py] (.ListComp elt [⟨tg, iter, ifs, 0⟩] scope pos) spos) (tAsg (tLc wi g tt te (own.map (·.2))) (gName i)) := by
  refine ⟨fun pins s σ H D J h => ?_⟩
  rw [exec_Assign_Name_used _ _ _ _ hsw]
  refine wpAny_bind (wpAny_standAt (wpAny_bind ?_))
  show wpAny _ X.A (do let _ ← comprehension (.ListComp elt [⟨tg, iter, ifs, 0⟩] scope pos) scope X.env (firstIterPos [⟨tg, iter, ifs, 0⟩] pos) (newList []) false (eval iter X.env) (some (assign (.Name y py) X.env))) _ _ s
  have h : tLc wi g tt te (own.map (·.2)) σ H (fun x H1 => gName i x σ H1 D.nx) := h
  refine wpAny_bind (thn (lcH_core (Qf := fun _ s' => SP X pins D .next s') hc nd J hi ok hg ht he hs h fun L C s' m H' J' q hn f => ?_) fun _ s' hq => wpAny_pure (wpAny_pure hq))
  show wpAny _ _ (assign (.Name y py) X.env (.ref L)) _ _ _
  refine wpAny_assign_Name (store_ok2 (v := V.ref L) J' nd hy (.inl hyl) rfl (fun s2 J2 ⟨a, sb, ha⟩ => ?_) (.inr hyl))
  obtain ⟨f0, f1, f2, f3, f4, f5⟩ := f
  have nC : C ≠ a := ha.elim (fun z => by rw [z]; exact f1) fun z k => f4 y a z k.symm
  exact ⟨m, hn.sameBut sb nC, fun h3 sb3 => ⟨_, H', J2.turned (t' := s2.toks) (fun b o hb k => (sb3.2 b hb).trans k) f0 f1 f3 f4 f5, q⟩⟩
variable {di : DI} {dt : DT} {de : DE} {t : Tg}
def dFzL (fz : Bool) (l : DL) : DE := match fz with
  | true => dLst l
  | false => dNew l
theorem s_setLH (i : Nat) (fz : Bool) (hc : L2H.HotC X) (nd : X.N.Nodup) (hsw : swapsWith (.ListComp elt [⟨tg, iter, ifs, 0⟩] scope pos) (some (.Name y py)) spos.line X.env = pure true) (hi : IJH X W tg iter di) (ok : BlkOk X.N X.env.scope scope own)
    (hg : ∀ (p : Addr × Obj), L2H.Hot1 X.A p → ∀ (s : Shared) (H : Hp) (C : Addr) (cl : List (Str × Addr)) (fp : List Addr), PG (blkH X p s H scope (compEnvC scope cl C X.env) fp) tg (tgOf X.K t)) (ht : ∀ (p : Addr × Obj), L2H.Hot1 X.A p → ∀ (s : Shared) (H : Hp) (C : Addr) (cl : List (Str × Addr)) (fp : List Addr), TsJ (blkH X p s H scope (compEnvC scope cl C X.env) fp) Wno ifs dt)
    (he : ∀ (p : Addr × Obj), L2H.Hot1 X.A p → ∀ (s : Shared) (H : Hp) (C : Addr) (cl : List (Str × Addr)) (fp : List Addr), EJ (blkH X p s H scope (compEnvC scope cl C X.env) fp) Wno elt de) (hw : ∀ i ∈ t.idx, i ∈ own.map (·.2)) (hy : X.N[i]? = some y) (hyl : X.env.scope.names.lookup y = some .local) (hs : ∀ x, foldedSetIterable iter X.env x = pure x) :
    SJ X W (.Assign [.Name y py] (.ListComp elt [⟨tg, iter, ifs, 0⟩] scope pos) spos) (dSet i (dFzL fz (lComp t (own.map (·.2)) di dt de))) := by
  have r := ps_setLcH (i := i) (wi := tI X.K W di) (tt := tT X.K Wno dt) (te := tE X.K Wno de) hc nd hy hyl hsw hi ok hg ht he hs
  cases fz with
  | true =>
    exact ps_imp r fun D σ H ⟨B, ρ, μ, G, P, R, h, eo⟩ => tlc_of hw ⟨B, ρ, μ, G, _, _, R, h, fun ps l vs μ' G' H' hp g hl gl ml h2 rs => by
      have g2 := g.take1 hl h2 gl ml (R.ok.notB hl)
      exact eo.nx _ _ _ _ _ hp ((R.go g2).set i (rep_lst upd_same (rs.mono (.upd gl)))) g2, eo.gx R⟩
  | false =>
    exact ps_imp r fun D σ H ⟨B, ρ, μ, G, P, R, h, eo⟩ => tlc_of hw ⟨B, ρ, μ, G, _, _, R, h, fun ps l vs μ' G' H' hp g hl gl ml h2 rs => by
      have g2 := g.take hl h2 gl (R.ok.notB hl) (c := .lst ps) ⟨vs, rfl, rs⟩
      exact eo.nx _ _ _ _ _ (hp l ml) ((R.go g2).set i (rep_cell l)) g2, eo.gx R⟩
end
end Px
namespace Px
open PySem PySem.Spec PyProof.Rows L2
def locF (c : Cc) (x : Str) : Bool := locB c.sc x && (c.fn x || decide (c.sc.names.lookup x = some .local))
def tgNs (c : Cc) : List Nat → List Expr → Bool
  | [], [] => true
  | i :: is, .Name x _ :: es => decide (c.N[i]? = some x) && (locF c x && tgNs c is es)
  | _, _ => false
def tgCk (c : Cc) (t : Tg) (e : Expr) : Bool := match t with
  | .one i => (match e with
    | .Name x _ => decide (c.N[i]? = some x) && locF c x
    | _ => false)
  | .many is => (match e with
    | .Tuple es _ _ => tgNs c is es
    | _ => false)
  | .nest i is => (match e with
    | .Tuple [.Name x _, .Tuple es _ _] _ _ => decide (c.N[i]? = some x) && (locF c x && tgNs c is es)
    | _ => false)
section
variable {k : Nat} {R : Rt} {X : Cx} {W : WX} {c : Cc}
theorem Good.loc (G : Good k R X W c) {x : Str} (h : locF c x = true) : Loc X.env.scope x ∧ (X.fn x = true ∨ X.env.scope.names.lookup x = some .local) := by
  obtain ⟨h1, h2⟩ := He.ba h
  rw [G.sc]
  refine ⟨locB_ok h1, ?_⟩
  rcases Bool.or_eq_true_iff.mp h2 with z | z
  · exact .inl (G.fn x z)
  · exact .inr (of_decide_eq_true z)
theorem Good.name (G : Good k R X W c) {i : Nat} {x : Str} {p : Pos} (h1 : c.N[i]? = some x) (h2 : locF c x = true) : PG X (.Name x p) (gName i) :=
  g_one i G.nd (by rw [G.N]; exact h1) (G.loc h2).1 (G.loc h2).2
theorem Good.gj (G : Good k R X W c) : ∀ {is : List Nat} {es : List Expr}, tgNs c is es = true → GJ X es is ∧ (assignEach es X.env).length = is.length ∧ (assignEach es X.env).findIdx? (·.1) = none
  | [], [], _ => ⟨.nil, rfl, rfl⟩
  | [], _ :: _, h => by cases h
  | _ :: _, [], h => by cases h
  | i :: is, e :: es, h => by
    cases e with
    | Name x p =>
      obtain ⟨h1, h⟩ := He.ba h
      obtain ⟨h2, h3⟩ := He.ba h
      obtain ⟨j1, j2, j3⟩ := G.gj h3
      refine ⟨.cons (G.name (of_decide_eq_true h1) h2) j1, ?_, ?_⟩
      · show (assignEach es X.env).length + 1 = is.length + 1
        rw [j2]
      · show List.findIdx? (·.1) ((false, assign (.Name x p) X.env) :: assignEach es X.env) = none
        rw [List.findIdx?_cons, j3] <;> rfl
    | _ => exact ff h rfl
theorem Good.tg (G : Good k R X W c) {t : Tg} {e : Expr} (h : tgCk c t e = true) : PG X e (tgOf X.K t) := by
  cases t with
  | one i =>
    cases e with
    | Name x p =>
      obtain ⟨h1, h2⟩ := He.ba h
      exact G.name (of_decide_eq_true h1) h2
    | _ => exact ff h rfl
  | many is =>
    cases e with
    | Tuple es n p =>
      obtain ⟨j1, j2, j3⟩ := G.gj (show tgNs c is es = true from h)
      exact pg_tupM G.md j1.pg j2 j3
    | _ => exact ff h rfl
  | nest i is =>
    unfold tgCk at h
    dsimp only at h
    split at h
    · obtain ⟨h2, h⟩ := He.ba h
      obtain ⟨h3, h4⟩ := He.ba h
      obtain ⟨j1, j2, j3⟩ := G.gj h4
      exact pg_tupM G.md (pgs_cons (G.name (of_decide_eq_true h2) h3) (pgs_cons (pg_tupM G.md j1.pg j2 j3) pgs_nil))
    · cases h
end
structure ZI where
  d : Rt → DI
  ck : Cc → Expr → Expr → Bool
  ok : ∀ {k : Nat} {R : Rt} {X : Cx} {W : WX} {c : Cc} {tg e : Expr}, ck c tg e = true → Good k R X W c → IJ X W tg e (d R)
  hk : Bool := false
  okH : ∀ {k : Nat} {R : Rt} {X : Cx} {W : WX} {c : Cc} {tg e : Expr}, hk = true → ck c tg e = true → Good k R X W c → IJH X W tg e (d R) := by
    intro _ _ _ _ _ _ _ h
    cases h
def iSq (a : ZE) : ZI where
  d := fun R => iSeq (a.d R)
  ck := fun c _ e => a.ck c e
  ok := fun h G => i_seq (a.ok h G)
  hk := true
  okH := fun _ h G => i_seqH (a.ok h G)
def iRg1 (a : ZE) : ZI where
  d := fun R => iR1 (dCons (a.d R) dNil)
  ck := fun c _ e => match e with
    | .Call (.Name y _) [x] [] _ => decide (y = "range") && (glB c.sc "range" && (decide (("range" : Str) ∈ c.S.fre) && (nstar x && a.ck c x)))
    | _ => false
  ok := fun {k R X W c tg e} h G => by
    split at h
    · obtain ⟨h1, h⟩ := He.ba h
      obtain ⟨h2, h⟩ := He.ba h
      obtain ⟨h3, h⟩ := He.ba h
      obtain ⟨h4, h5⟩ := He.ba h
      obtain rfl := of_decide_eq_true h1
      exact i_range1 (G.free h3) (a_cons (a.ok h5 G) a_nil (star_cons h4)) (G.gl h2).1 (star_cons h4)
    · cases h
  hk := true
  okH := fun {k R X W c tg e} _ h G => by
    split at h
    · obtain ⟨h1, h⟩ := He.ba h
      obtain ⟨h2, h⟩ := He.ba h
      obtain ⟨h3, h⟩ := He.ba h
      obtain ⟨h4, h5⟩ := He.ba h
      obtain rfl := of_decide_eq_true h1
      exact i_range1H (G.free h3) (a_cons (a.ok h5 G) a_nil (star_cons h4)) (G.gl h2).1 (star_cons h4)
    · cases h
def Cc.blk (c : Cc) (scope : Scope) : Cc := { c with sc := relS scope c.sc, fn := fun x => scope.names.lookup x == some .cell, lam := false }
/-- the block of a comprehension -/
theorem Good.blk {k : Nat} {R : Rt} {X : Cx} {W : WX} {c : Cc} (G : Good k R X W c) (hc : c.cm = true) (s : Shared) (H : Hp) (scope : Scope) (C : Addr) (cl : List (Str × Addr)) (fp : List Addr) :
    Good k R (X.blk s H scope (compEnvC scope cl C X.env) fp) Wno (c.blk scope) where
  prog := G.prog
  N := G.N
  sc := by
    show relS scope X.env.scope = _
    rw [G.sc] <;> rfl
  nd := G.nd
  fn := fun x h => h
  md := .inl (G.calm hc)
  tk := takes_no
  rm := G.rm
  fa := G.fa
  pr := G.pr
  ph := G.ph
  qo := ⟨G.qo.ka, G.qo.calm, G.qo.ok⟩
  lam := fun h => by cases h
  xi := fun a dd cl e => by
    obtain ⟨X0, oe, pn, d, hX, _⟩ := G.xi a dd cl e
    have h1 := G.calm hc
    rw [hX] at h1
    cases h1
  xn := G.xn
/-- the block of a comprehension in a def that runs while an error is handled -/
theorem Good.blkH {k : Nat} {R : Rt} {X : Cx} {W : WX} {c : Cc} (G : Good k R X W c) (hg : c.gk = true) (hc : c.cm = false) (p : Addr × Obj) (hp : L2H.Hot1 X.A p) (s : Shared) (H : Hp) (scope : Scope) (C : Addr) (cl : List (Str × Addr)) (fp : List Addr) :
    Good k R (blkH X p s H scope (compEnvC scope cl C X.env) fp) Wno (c.blk scope) where
  prog := G.prog
  N := G.N
  sc := by
    show relS scope X.env.scope = _
    rw [G.sc] <;> rfl
  nd := G.nd
  fn := fun x h => h
  md := .inr ⟨by show (!c.cm) = true; rw [hc] <;> rfl, p, hp, List.mem_singleton.mpr rfl⟩
  tk := takes_no
  rm := G.rm
  fa := G.fa
  pr := G.pr
  ph := G.ph
  qo := ⟨G.qo.ka, G.qo.calm, G.qo.ok⟩
  lam := fun h => by cases h
  xi := fun a dd cl e => by
    rw [G.xn hg] at e
    cases e
  xn := G.xn
/-- .. the same, as it is calm -/
theorem Good.blkC {k : Nat} {R : Rt} {X : Cx} {W : WX} {c : Cc} (G : Good k R X W c) (hg : c.gk = true) (hc : X.calm = true) (s : Shared) (H : Hp) (scope : Scope) (C : Addr) (cl : List (Str × Addr)) (fp : List Addr) :
    Good k R (X.blk s H scope (compEnvC scope cl C X.env) fp) Wno (c.blk scope) where
  prog := G.prog
  N := G.N
  sc := by
    show relS scope X.env.scope = _
    rw [G.sc] <;> rfl
  nd := G.nd
  fn := fun x h => h
  md := .inl hc
  tk := takes_no
  rm := G.rm
  fa := G.fa
  pr := G.pr
  ph := G.ph
  qo := ⟨G.qo.ka, G.qo.calm, G.qo.ok⟩
  lam := fun h => by cases h
  xi := fun a dd cl e => by
    rw [G.xn hg] at e
    cases e
  xn := G.xn
/-- calm, or the walk may stand where an error is handled -/
def cmH (c : Cc) (i : ZI) : Bool := c.cm || (c.gk && i.hk)
theorem cmH_ok {c : Cc} {i : ZI} (h : cmH c i = true) : c.cm = true ∨ (c.cm = false ∧ c.gk = true ∧ i.hk = true) := by
  unfold cmH at h
  cases e : c.cm with
  | true => exact .inl rfl
  | false =>
    rw [e] at h
    obtain ⟨h1, h2⟩ := He.ba (show (c.gk && i.hk) = true from h)
    exact .inr ⟨rfl, h1, h2⟩
/-- the tests of a comprehension -/
structure ZTs where
  d : Rt → DT
  ck : Cc → List Expr → Bool
  ok : ∀ {k : Nat} {R : Rt} {X : Cx} {W : WX} {c : Cc} {e : List Expr}, ck c e = true → Good k R X W c → TsJ X W e (d R)
def tsNil : ZTs where
  d := fun _ => dYes
  ck := fun _ e => match e with
    | [] => true
    | _ => false
  ok := fun {k R X W c e} h G => by
    cases e with
    | nil => exact ts_nil
    | cons _ _ => exact ff h rfl
def tsOne (t : ZT) : ZTs where
  d := fun R => t.d R
  ck := fun c e => match e with
    | [x] => t.ck c x
    | _ => false
  ok := fun {k R X W c e} h G => by
    split at h
    · exact ts_one (t.ok h G)
    · cases h
def ownN (N : List Str) (own : List Nat) : List (Str × Nat) := own.map fun i => (N.getD i Str.empty, i)
theorem ownN_ix {N : List Str} {own : List Nat} : (ownN N own).map (·.2) = own := by
  unfold ownN
  rw [List.map_map]
  exact List.map_id own
/-- [e for t in i if ..]; own: the slots of the block -/
def zComp (t : Tg) (own : List Nat) (i : ZI) (ts : ZTs) (a : ZE) : ZL where
  d := fun R => lComp t own (i.d R) (ts.d R) (a.d R)
  ck := fun c e => match e with
    | .ListComp elt [⟨tg, iter, ifs, as⟩] scope _ => decide (as = 0) && (cmH c i && (blkC c.N c.sc scope (ownN c.N own) && (decide (∀ j ∈ t.idx, j ∈ own) && (noSet iter && (i.ck c tg iter && (tgCk (c.blk scope) t tg && (ts.ck (c.blk scope) ifs && a.ck (c.blk scope) elt)))))))
    | _ => false
  ok := fun {k R X W c e} h G => by
    split at h
    · rename_i elt tg iter ifs as scope pos
      obtain ⟨h0, h⟩ := He.ba h
      obtain ⟨h1, h⟩ := He.ba h
      obtain ⟨h2, h⟩ := He.ba h
      obtain ⟨h3, h⟩ := He.ba h
      obtain ⟨h4, h⟩ := He.ba h
      obtain ⟨h5, h⟩ := He.ba h
      obtain ⟨h6, h⟩ := He.ba h
      obtain ⟨h7, h8⟩ := He.ba h
      obtain rfl := of_decide_eq_true h0
      have bo : BlkOk X.N X.env.scope scope (ownN c.N own) := by rw [G.N, G.sc]; exact blkOk_by h2
      have calm : X.calm = true → (∀ (s : Shared) (H : Hp) (C : Addr) (cl : List (Str × Addr)) (fp : List Addr), Good k R (X.blk s H scope (compEnvC scope cl C X.env) fp) Wno (c.blk scope)) → LJ X W (.ListComp elt [⟨tg, iter, ifs, 0⟩] scope pos) (lComp t ((ownN c.N own).map (·.2)) (i.d R) (ts.d R) (a.d R)) := fun hc GB =>
        l_comp (t := t) (own := ownN c.N own) (pos := pos) hc G.nd (i.ok (tg := tg) h5 G) bo (fun s H C cl fp => (GB s H C cl fp).tg h6) (fun s H C cl fp => ts.ok h7 (GB s H C cl fp)) (fun s H C cl fp => a.ok h8 (GB s H C cl fp))
          (by rw [ownN_ix]; exact of_decide_eq_true h3) (fold_of h4)
      have r : LJ X W (.ListComp elt [⟨tg, iter, ifs, 0⟩] scope pos) (lComp t ((ownN c.N own).map (·.2)) (i.d R) (ts.d R) (a.d R)) := by
        rcases cmH_ok h1 with h1 | ⟨h1, hg, hk⟩
        · exact calm (G.calm h1) fun s H C cl fp => G.blk h1 s H scope C cl fp
        · rcases G.md with hc | ⟨_, hot⟩
          · exact calm hc fun s H C cl fp => G.blkC hg hc s H scope C cl fp
          · have GB := fun p hp s H C cl fp => G.blkH hg h1 p hp s H scope C cl fp
            exact l_compH (t := t) (own := ownN c.N own) (pos := pos) hot G.nd (i.okH (tg := tg) hk h5 G) bo (fun p hp s H C cl fp => (GB p hp s H C cl fp).tg h6) (fun p hp s H C cl fp => ts.ok h7 (GB p hp s H C cl fp)) (fun p hp s H C cl fp => a.ok h8 (GB p hp s H C cl fp))
              (by rw [ownN_ix]; exact of_decide_eq_true h3) (fold_of h4)
      rw [ownN_ix] at r
      exact r
    · cases h
structure GoodS (k : Nat) (R : Rt) (X : Cx) (W : WX) (c : Cc) : Prop extends Good k R X W c where
  own : (c.cm || c.gk) = true → PassesOwn (model X.prog X.w) X.A X.env X.xe
  xk : c.gk = true → XeK X
  st : X.stack = X.env :: X.outer
  fr : X.env.frame = some X.env.locals
structure ZS where
  d : Rt → DS
  ck : Cc → Stmt → Bool
  ok : ∀ {k : Nat} {R : Rt} {X : Cx} {W : WX} {c : Cc} {e : Stmt}, ck c e = true → GoodS k R X W c → SJ X W e (d R)
structure ZB where
  d : Rt → DS
  ck : Cc → List Stmt → Bool
  ok : ∀ {k : Nat} {R : Rt} {X : Cx} {W : WX} {c : Cc} {e : List Stmt}, ck c e = true → GoodS k R X W c → BJ X W e (d R)
def bNil : ZB where
  d := fun _ => dNext
  ck := fun _ e => match e with
    | [] => true
    | _ => false
  ok := fun {k R X W c e} h G => by
    cases e with
    | nil => exact b_nil
    | cons _ _ => exact ff h rfl
def bOne (s : ZS) : ZB where
  d := fun R => s.d R
  ck := fun c e => match e with
    | [x] => s.ck c x
    | _ => false
  ok := fun {k R X W c e} h G => by
    split at h
    · exact b_one (s.ok h G)
    · cases h
def bCons (s : ZS) (b : ZB) : ZB where
  d := fun R => dSeq (s.d R) (b.d R)
  ck := fun c e => match e with
    | x :: xs => s.ck c x && b.ck c xs
    | [] => false
  ok := fun {k R X W c e} h G => by
    cases e with
    | nil => exact ff h rfl
    | cons x xs =>
      obtain ⟨h1, h2⟩ := He.ba h
      exact b_cons (s.ok h1 G) (b.ok h2 G)
def sRet (a : ZE) : ZS where
  d := fun R => dRet (a.d R)
  ck := fun c e => match e with
    | .Return (some x) _ => a.ck c x
    | _ => false
  ok := fun {k R X W c e} h G => by
    split at h
    · exact s_ret (a.ok h G.toGood)
    · cases h
def sExpr (a : ZE) : ZS where
  d := fun R => dDrop (a.d R)
  ck := fun c e => match e with
    | .Expr x _ => noComp x && a.ck c x
    | _ => false
  ok := fun {k R X W c e} h G => by
    cases e with
    | Expr x p =>
      obtain ⟨h1, h2⟩ := He.ba h
      exact s_expr (a.ok h2 G.toGood) (swaps_of h1)
    | _ => exact ff h rfl
def sSet (i : Nat) (a : ZE) : ZS where
  d := fun R => dSet i (a.d R)
  ck := fun c e => match e with
    | .Assign [.Name x _] y _ => decide (c.N[i]? = some x) && (locF c x && (noComp y && a.ck c y))
    | _ => false
  ok := fun {k R X W c e} h G => by
    split at h
    · obtain ⟨h1, h⟩ := He.ba h
      obtain ⟨h2, h⟩ := He.ba h
      obtain ⟨h3, h4⟩ := He.ba h
      exact s_set i (a.ok h4 G.toGood) G.nd (by rw [G.N]; exact of_decide_eq_true h1) (G.loc h2).1 (swaps_of h3) (G.loc h2).2
    · cases h
/-- x = [comprehension]: stored within the comprehension's frame; swapB: so it is -/
def swapB (c : Cc) (x : Str) (p : Pos) (scope : Scope) (vpos : Pos) : Bool := decide (c.sc.kind = .function) && (decide (c.sc.names.lookup x = some .local) && ((p.line == vpos.line) && !(scope.names.any fun (n, k) => n == x && (k == .local || k == .cell))))
theorem swap_ok {k : Nat} {R : Rt} {X : Cx} {W : WX} {c : Cc} (G : Good k R X W c) {x : Str} {p vpos : Pos} {scope : Scope} {elt : Expr} {gs : List Comprehension} {l : Nat} (h : swapB c x p scope vpos = true) : swapsWith (.ListComp elt gs scope vpos) (some (.Name x p)) l X.env = pure true := by
  obtain ⟨h0, h⟩ := He.ba h
  obtain ⟨h1, h⟩ := He.ba h
  obtain ⟨h2, h3⟩ := He.ba h
  have hb : X.env.blockKind = .function := by
    unfold Env.blockKind
    rw [G.sc, of_decide_eq_true h0] <;> rfl
  have h1 : X.env.kindOf x = some .local := by
    show X.env.scope.names.lookup x = some .local
    rw [G.sc]; exact of_decide_eq_true h1
  show (pure (X.env.blockKind == .function && X.env.kindOf x == some .local && p.line == vpos.line && !(scope.names.any fun (n, k) => n == x && (k == .local || k == .cell))) : Sem Bool) = pure true
  rw [hb, h1, h2, h3] <;> rfl
/-- x = [e for ..], never changed (fz) or not -/
def sSetL (i : Nat) (fz : Bool) (t : Tg) (own : List Nat) (it : ZI) (ts : ZTs) (a : ZE) : ZS where
  d := fun R => dSet i (match fz with
    | true => dLst (lComp t own (it.d R) (ts.d R) (a.d R))
    | false => dNew (lComp t own (it.d R) (ts.d R) (a.d R)))
  ck := fun c e => match e with
    | .Assign [.Name x p] (.ListComp elt [⟨tg, iter, ifs, as⟩] scope vpos) _ => decide (c.N[i]? = some x) && (swapB c x p scope vpos && (decide (as = 0) && (cmH c it && (blkC c.N c.sc scope (ownN c.N own) && (decide (∀ j ∈ t.idx, j ∈ own) && (noSet iter && (it.ck c tg iter && (tgCk (c.blk scope) t tg && (ts.ck (c.blk scope) ifs && a.ck (c.blk scope) elt)))))))))
    | _ => false
  ok := fun {k R X W c e} h G => by
    split at h
    · rename_i x p elt tg iter ifs as scope vpos spos
      obtain ⟨g1, h⟩ := He.ba h
      obtain ⟨g2, h⟩ := He.ba h
      obtain ⟨h0, h⟩ := He.ba h
      obtain ⟨h1, h⟩ := He.ba h
      obtain ⟨h2, h⟩ := He.ba h
      obtain ⟨h3, h⟩ := He.ba h
      obtain ⟨h4, h⟩ := He.ba h
      obtain ⟨h5, h⟩ := He.ba h
      obtain ⟨h6, h⟩ := He.ba h
      obtain ⟨h7, h8⟩ := He.ba h
      obtain rfl := of_decide_eq_true h0
      have G0 := G.toGood
      have bo : BlkOk X.N X.env.scope scope (ownN c.N own) := by rw [G.N, G.sc]; exact blkOk_by h2
      have hl : X.env.scope.names.lookup x = some .local := by rw [G.sc]; exact of_decide_eq_true (He.ba (He.ba g2).2).1
      have calm : X.calm = true → (∀ (s : Shared) (H : Hp) (C : Addr) (cl : List (Str × Addr)) (fp : List Addr), Good k R (X.blk s H scope (compEnvC scope cl C X.env) fp) Wno (c.blk scope)) → SJ X W (.Assign [.Name x p] (.ListComp elt [⟨tg, iter, ifs, 0⟩] scope vpos) spos) (dSet i (dFzL fz (lComp t ((ownN c.N own).map (·.2)) (it.d R) (ts.d R) (a.d R)))) := fun hc GB => by
        cases fz with
        | true =>
          exact s_setLN (t := t) (own := ownN c.N own) (spos := spos) i hc G.nd (swap_ok G0 g2) (it.ok (tg := tg) h5 G0) bo (fun s H C cl fp => (GB s H C cl fp).tg h6) (fun s H C cl fp => ts.ok h7 (GB s H C cl fp)) (fun s H C cl fp => a.ok h8 (GB s H C cl fp))
            (by rw [ownN_ix]; exact of_decide_eq_true h3) (by rw [G.N]; exact of_decide_eq_true g1) hl (fold_of h4)
        | false =>
          exact s_setLC (t := t) (own := ownN c.N own) (spos := spos) i hc G.nd (swap_ok G0 g2) (it.ok (tg := tg) h5 G0) bo (fun s H C cl fp => (GB s H C cl fp).tg h6) (fun s H C cl fp => ts.ok h7 (GB s H C cl fp)) (fun s H C cl fp => a.ok h8 (GB s H C cl fp))
            (by rw [ownN_ix]; exact of_decide_eq_true h3) (by rw [G.N]; exact of_decide_eq_true g1) hl (fold_of h4)
      have r : SJ X W (.Assign [.Name x p] (.ListComp elt [⟨tg, iter, ifs, 0⟩] scope vpos) spos) (dSet i (dFzL fz (lComp t ((ownN c.N own).map (·.2)) (it.d R) (ts.d R) (a.d R)))) := by
        rcases cmH_ok h1 with h1 | ⟨h1, hgk, hk⟩
        · exact calm (G0.calm h1) fun s H C cl fp => G0.blk h1 s H scope C cl fp
        · rcases G0.md with hc | ⟨_, hot⟩
          · exact calm hc fun s H C cl fp => G0.blkC hgk hc s H scope C cl fp
          · have GB := fun p hp s H C cl fp => G0.blkH hgk h1 p hp s H scope C cl fp
            exact s_setLH (t := t) (own := ownN c.N own) (spos := spos) i fz hot G.nd (swap_ok G0 g2) (it.okH (tg := tg) hk h5 G0) bo (fun p hp s H C cl fp => (GB p hp s H C cl fp).tg h6) (fun p hp s H C cl fp => ts.ok h7 (GB p hp s H C cl fp)) (fun p hp s H C cl fp => a.ok h8 (GB p hp s H C cl fp))
              (by rw [ownN_ix]; exact of_decide_eq_true h3) (by rw [G.N]; exact of_decide_eq_true g1) hl (fold_of h4)
      rw [ownN_ix] at r
      cases fz <;> exact r
    · cases h
def sAttr (f : Str) (o a : ZE) : ZS where
  d := fun R => dAttrSet f (o.d R) (a.d R)
  ck := fun c e => match e with
    | .Assign [.Attribute x y _] z _ => decide (y = f) && (o.ck c x && (noComp z && a.ck c z))
    | _ => false
  ok := fun {k R X W c e} h G => by
    split at h
    · obtain ⟨h1, h⟩ := He.ba h
      obtain ⟨h2, h⟩ := He.ba h
      obtain ⟨h3, h4⟩ := He.ba h
      obtain rfl := of_decide_eq_true h1
      exact s_attr (o.ok h2 G.toGood) (a.ok h4 G.toGood) (swaps_of h3)
    · cases h
def sIf (t : ZT) (a b : ZB) : ZS where
  d := fun R => dIfS (t.d R) (a.d R) (b.d R)
  ck := fun c e => match e with
    | .If x y z _ => t.ck c x && (a.ck c y && b.ck c z)
    | _ => false
  ok := fun {k R X W c e} h G => by
    cases e with
    | If x y z p =>
      obtain ⟨h1, h⟩ := He.ba h
      obtain ⟨h2, h3⟩ := He.ba h
      exact s_if (t.ok h1 G.toGood) (a.ok h2 G) (b.ok h3 G)
    | _ => exact ff h rfl
def sFor (t : Tg) (i : ZI) (b : ZB) : ZS where
  d := fun R => dFor t (i.d R) (b.d R)
  ck := fun c e => match e with
    | .For tg iter body [] _ => cmH c i && (noSet iter && (i.ck c tg iter && (tgCk c t tg && b.ck c body)))
    | _ => false
  ok := fun {k R X W c e} h G => by
    split at h
    · rename_i tg iter body pos
      obtain ⟨h1, h⟩ := He.ba h
      obtain ⟨h2, h⟩ := He.ba h
      obtain ⟨h3, h⟩ := He.ba h
      obtain ⟨h4, h5⟩ := He.ba h
      have own : PassesOwn (model X.prog X.w) X.A X.env X.xe := by
        rcases cmH_ok h1 with h1 | ⟨h1, hg, hk⟩
        · exact G.own (by rw [h1] <;> rfl)
        · exact G.own (by rw [h1, hg] <;> rfl)
      have calm := fun (hc : X.calm = true) => s_for (pos := pos) own hc (i.ok h3 G.toGood) (G.tg h4) (b.ok h5 G) (fold_of h2)
      rcases cmH_ok h1 with h1 | ⟨h1, hg, hk⟩
      · exact calm (G.calm h1)
      · rcases G.md with hc | ⟨_, hot⟩
        · exact calm hc
        · exact s_forH own hot (i.okH hk h3 G.toGood) (G.tg h4) (b.ok h5 G) (fold_of h2)
    · cases h
/-- raise C(e), C with one field -/
def sRaise (cl : Cl) (f : Str) (a : ZA) : ZS where
  d := fun R => dRaise cl (a.d R)
  ck := fun c e => match e with
    | .Raise (some (.Call (.Name y _) [x] [] _)) none _ => decide (y = cl.name) && (glB c.sc y && (decide ((cl, f) ∈ c.S.er) && (decide (cl ∈ c.S.xs) && (decide (("super" : Str) ∈ c.S.fre) && (c.cm && (nstar x && a.ck c [x]))))))
    | _ => false
  ok := fun {k R X W c e} h G => by
    split at h
    · obtain ⟨h1, h⟩ := He.ba h
      obtain ⟨h2, h⟩ := He.ba h
      obtain ⟨h3, h⟩ := He.ba h
      obtain ⟨h4, h⟩ := He.ba h
      obtain ⟨h5, h⟩ := He.ba h
      obtain ⟨h6, h⟩ := He.ba h
      obtain ⟨h7, h8⟩ := He.ba h
      obtain rfl := of_decide_eq_true h1
      have h4 := of_decide_eq_true h4
      obtain ⟨g1, g2, _⟩ := G.gl h2
      obtain ⟨f1, fI, f2⟩ := G.fa.er _ (of_decide_eq_true h3)
      rw [← G.prog] at f2
      exact s_raise f1 (G.fa.xc cl h4) f2 (G.fa.cn cl (List.mem_append_right _ h4)) (G.free h5) G.rm0 (G.calm h6) G.fr G.tk (a.ok h8 G.toGood) g1 g2 (star_cons h7) rfl
    · cases h
end Px
namespace Px
open PySem PySem.Spec PyProof.Rows L2
section
variable {S : Stt} {fn : List DefP} {er : List ErrD} {su : List SupD} {mo : Frg → Bool} {K : Frg} {mg : Str → Option Value} {base : Heap}
theorem Says.fa_ (c : Says (S.want fn er su mo) K) {f : He.Fa} (h : f ∈ S.fas) : f.ok K = true := List.all_eq_true.mp (He.ba c.ok).1 f h
theorem Says.facts (c : Says (S.want fn er su mo) K) (kin : K.In base) (ns : base.Ns mainGlobals mg) (her : ∀ p ∈ S.er, p.1.flds = [p.2] ∧ ∃ fI, ErrF S.P K (ca K p.1) fI p.2) : Facts S K mg := by
  have m : (S.more K && mo K) = true := c.more
  obtain ⟨m, _⟩ := He.ba m
  obtain ⟨m1, m⟩ := He.ba m
  obtain ⟨m, m8⟩ := He.ba m
  obtain ⟨m8, m9⟩ := He.ba m8
  obtain ⟨m2, m⟩ := He.ba m
  obtain ⟨m3, m⟩ := He.ba m
  obtain ⟨m4, m⟩ := He.ba m
  obtain ⟨m5, m⟩ := He.ba m
  obtain ⟨m6, m7⟩ := He.ba m
  have kc : ∀ c ∈ S.hs, kcB K c = true := fun d h => c.kc h
  have cn : ∀ d ∈ S.hs ++ S.xs, mg d.name = some (.ref (ca K d)) := fun d h => He.glo_ok kin ns (c.fa_ (by
    unfold Stt.fas
    exact List.mem_append_right _ (List.mem_append_left _ (List.mem_map.mpr ⟨d, h, rfl⟩))))
  refine ⟨fun x h => ?_, c.ka, kc, fun d h => c.xc h, cn, fun i h => ⟨?_, ?_⟩, fun p h => ?_, fun d h => ?_, fun p h => ?_, fun p h => ?_, her, fun p h => ?_, fun p h => ?_, fun p h => ?_, fun hi => ?_, fun c h => List.all_eq_true.mp m9 c h⟩
  · exact He.free_ok kin ns (c.fa_ (by unfold Stt.fas; exact List.mem_append_left _ (List.mem_map.mpr ⟨x, h, rfl⟩)))
  · exact He.glo_ok kin ns (c.fa_ (by unfold Stt.fas; exact List.mem_append_right _ (List.mem_append_right _ (List.mem_append_left _ (List.mem_map.mpr ⟨i, h, rfl⟩)))))
  · exact c.fa_ (f := .keep (S.nm i)) (by unfold Stt.fas; exact List.mem_append_right _ (List.mem_append_right _ (List.mem_append_right _ (List.mem_append_left _ (List.mem_map.mpr ⟨i, h, rfl⟩)))))
  · obtain ⟨a, b⟩ := He.ba (List.all_eq_true.mp m1 p h)
    refine ⟨?_, cmB_ok a⟩
    unfold knB
    rw [kc _ (of_decide_eq_true b)] <;> rfl
  · have hd := of_decide_eq_true (List.all_eq_true.mp m6 d h)
    exact ⟨kc d hd, cn d (List.mem_append_left _ hd), He.mkr_ok (c.fa_ (by unfold Stt.fas; exact List.mem_append_right _ (List.mem_append_right _ (List.mem_append_right _ (List.mem_append_right _ (List.mem_map.mpr ⟨d, h, rfl⟩))))))⟩
  · obtain ⟨a1, a⟩ := He.ba (List.all_eq_true.mp m2 p h)
    obtain ⟨a2, a⟩ := He.ba a
    obtain ⟨a3, a⟩ := He.ba a
    obtain ⟨a4, a5⟩ := He.ba a
    exact ⟨by simpa using a4, kc _ (of_decide_eq_true a5), He.meth_ok a1, a2, a3⟩
  · exact of_decide_eq_true (List.all_eq_true.mp m3 p h)
  · have a := List.all_eq_true.mp m4 p h
    obtain ⟨d, f, v⟩ := p
    cases v with
    | int i =>
      obtain ⟨r, u, v⟩ := cvB_ok (show Px.cvB K d f i = true from a)
      exact ⟨.int i, u, r, v, fun _ _ => rep_int i⟩
    | txs zs =>
      obtain ⟨r, a, ⟨u, v⟩, rp⟩ := cvTB_ok (show cvTB K d f zs = true from a)
      exact ⟨.ref a, u, r, v, rp⟩
    | str z => cases a
  · have a := List.all_eq_true.mp m5 p h
    obtain ⟨x, v⟩ := p
    cases v with
    | int i =>
      obtain ⟨t, e⟩ := He.int_ok kin ns (show (He.Fa.int x i).ok K = true from a)
      exact ⟨.int i, _, e, ⟨t, rfl⟩, fun _ _ => rep_int i⟩
    | str z =>
      obtain ⟨t, e⟩ := He.str_ok kin ns (show (He.Fa.str x z).ok K = true from a)
      exact ⟨.str z, _, e, ⟨t, rfl⟩, fun _ _ => rep_str z⟩
    | txs zs => cases a
  · obtain ⟨a1, a⟩ := He.ba (List.all_eq_true.mp m7 p h)
    obtain ⟨a2, a3⟩ := He.ba a
    exact ⟨by simpa using a2, kc _ (of_decide_eq_true a3), prB_ok a1⟩
  · rw [hi] at m8
    have q1 := (He.ba (He.ba (He.ba c.ok).2).1).1
    refine isxB_ok (fun d hd => ?_) (fun d hd => ?_) (by simpa using m8)
    · have := (He.ba (List.all_eq_true.mp q1 d (allCl_mem d))).1
      rw [hd] at this
      have : d ∈ (S.want fn er su mo).hs := by simpa using this
      exact this
    · have := (He.ba (List.all_eq_true.mp q1 d (allCl_mem d))).2
      rw [hd] at this
      have : d ∈ (S.want fn er su mo).xs := by simpa using this
      exact this
end
section
variable (S : Stt) (hot : Bool) (P : Program) (w : World) (K : Frg) (mg : Str → Option Value) (base : Heap) (k : Nat)
def AllP : Tbl → Prop
  | [] => True
  | (F, ct) :: r => PromOk S hot P w K mg base k F ct ∧ AllP r
theorem AllP.mem : ∀ {L : Tbl}, AllP S hot P w K mg base k L → ∀ F ct, (F, ct) ∈ L → PromOk S hot P w K mg base k F ct
  | [], _, F, ct, h => by cases h
  | (F0, ct0) :: r, ⟨p, q⟩, F, ct, h => by
    rcases List.mem_cons.mp h with e | e
    · cases e; exact p
    · exact AllP.mem q F ct e
end
section
variable {S : Stt} {hot : Bool} {P : Program} {w : World} {K : Frg} {mg : Str → Option Value} {base : Heap} {k : Nat}
theorem prom_m {c : Cl} {x : Nat} {ks : List Nat} {ct : Ct} (fa : Facts S K mg) (h : (c, x) ∈ S.ms) (F : FnS hot P w K mg base k (He.ma K (ca K c) (S.nm x)) (ks.map S.nm) (spP K ct)) : PromOk S hot P w K mg base k (.m c x ks) ct := by
  obtain ⟨h1, h2, h3, h4, h5⟩ := fa.ms _ h
  exact ⟨h1, h2, h3, h4, h5, F⟩
/-- an inherited method -/
theorem prom_i {c d : Cl} {x : Nat} {ks : List Nat} {ct : Ct} (fa : Facts S K mg) (h : (c, x) ∈ S.ms) (hs : (c, d, x) ∈ S.sa) (F : FnS hot P w K mg base k (He.ma K (ca K d) (S.nm x)) (ks.map S.nm) (spP K ct)) : PromOk S hot P w K mg base k (.m c x ks) ct :=
  prom_m fa h (by have e := fa.sa _ hs; rw [show He.ma K (ca K c) (S.nm x) = He.ma K (ca K d) (S.nm x) from e]; exact F)
/-- a stronger promise -/
theorem FnS.imp {f : Addr} {ks : List Str} {c c' : Ct} (F : FnS hot P w K mg base k f ks (spP K c)) (i : ∀ as μ q x, c' as μ q x → c as μ q x) : FnS hot P w K mg base k f ks (spP K c') := fun A outer s H us ws vs Q E hm hr e0 hl r ⟨B, μ, G, as, q, z, o, rr, hc, hq⟩ =>
  F A outer s H us ws vs Q E hm hr e0 hl r ⟨B, μ, G, as, q, z, o, rr, i _ _ _ _ hc, hq⟩
end
section
variable {S : Stt} {hot : Bool} {P : Program} {w : World} {K : Frg} {mg : Str → Option Value} {base : Heap} {k : Nat}
theorem AllP.nil : AllP S hot P w K mg base k [] := trivial
theorem AllP.cons {F : Fid} {ct : Ct} {r : Tbl} (p : PromOk S hot P w K mg base k F ct) (q : AllP S hot P w K mg base k r) : AllP S hot P w K mg base k ((F, ct) :: r) := ⟨p, q⟩
def AllE (S : Stt) (K : Frg) : List (Cl × Str) → Prop
  | [] => True
  | p :: r => (p.1.flds = [p.2] ∧ ∃ fI, ErrF S.P K (ca K p.1) fI p.2) ∧ AllE S K r
theorem AllE.nil : AllE S K [] := trivial
theorem AllE.cons {p : Cl × Str} {r : List (Cl × Str)} {fI : Addr} (h : p.1.flds = [p.2]) (e : ErrF S.P K (ca K p.1) fI p.2) (q : AllE S K r) : AllE S K (p :: r) := ⟨⟨h, fI, e⟩, q⟩
theorem AllE.mem : ∀ {l : List (Cl × Str)}, AllE S K l → ∀ p ∈ l, p.1.flds = [p.2] ∧ ∃ fI, ErrF S.P K (ca K p.1) fI p.2
  | [], _, p, h => by cases h
  | _ :: r, ⟨a, b⟩, p, h => by
    rcases List.mem_cons.mp h with e | e
    · rw [e]; exact a
    · exact AllE.mem b p e
end
section
variable (P : Program) (w : World) (K : Frg) (mg : Str → Option Value) (base : Heap) (k : Nat)
def AllQ : Qt → Prop
  | [] => True
  | (c, f) :: r => (SameO c f ∧ kcB K c = true ∧ Meth K (ca K c) "__eq__" (He.ma K (ca K c) "__eq__") ∧ FnS false P w K mg base k (He.ma K (ca K c) "__eq__") [] (spP K (cEq c f))) ∧ AllQ r
end
section
variable {S : Stt} {P : Program} {w : World} {K : Frg} {mg : Str → Option Value} {base : Heap} {k : Nat}
theorem AllQ.nil : AllQ P w K mg base k [] := trivial
theorem AllQ.cons {c : Cl} {f : Qf} {r : Qt} (fa : Facts S K mg) (hm : (c, 9) ∈ S.ms) (sm : SameO c f) (F : FnS false P w K mg base k (He.ma K (ca K c) "__eq__") [] (spP K (cEq c f))) (q : AllQ P w K mg base k r) : AllQ P w K mg base k ((c, f) :: r) := by
  obtain ⟨_, h2, h3, _, _⟩ := fa.ms _ hm
  exact ⟨⟨sm, h2, h3, F⟩, q⟩
theorem AllQ.mem : ∀ {Q : Qt}, AllQ P w K mg base k Q → ∀ c f, (c, f) ∈ Q → SameO c f ∧ kcB K c = true ∧ ∃ g, Meth K (ca K c) "__eq__" g ∧ FnS false P w K mg base k g [] (spP K (cEq c f))
  | [], _, c, f, h => by cases h
  | (c0, f0) :: r, ⟨⟨a1, a2, a3, a4⟩, q⟩, c, f, h => by
    rcases List.mem_cons.mp h with e | e
    · cases e; exact ⟨a1, a2, _, a3, a4⟩
    · exact AllQ.mem q c f e
end
section
variable {S : Stt} {w : World} {K : Frg} {mg : Str → Option Value} {base : Heap} {x qual : Str} {params : Arguments} {body : List Stmt} {scope : Scope} {dvs : List V} {kws : List (Str × V)} {f : Addr} {fd : FuncData} {N ps : List Str} {k : Nat} {b : ZB} {L LH : Tbl} {Q : Qt} {c : Ct}
theorem goodS_of {hot cm : Bool} {pn : List (Addr × Obj)} {cd : Value} {A : Around} {outer : List Env} {s : Shared} {H : Hp} {E : XK} (fa : Facts S K mg) (nd : N.Nodup) (he : Here hot (cxG cm pn S.P w K mg base N qual scope f cd A outer s H E) (fun cls dd _ H' => E cls dd H') (k + 2))
    (pr : AllP S hot S.P w K mg base k L) (ph : AllP S true S.P w K mg base k LH) (hq : Q ≠ [] → hot = false) (pq : AllQ S.P w K mg base k Q) : GoodS k { L := L, LH := LH, Q := Q } (cxG cm pn S.P w K mg base N qual scope f cd A outer s H E) (fun cls dd _ H' => E cls dd H') { S := S, N := N, sc := scope, cm := !hot } :=
  ⟨⟨rfl, rfl, rfl, nd, fun _ _ => rfl, by show Md _ (!!hot); rw [Bool.not_not]; exact he.md, he.tk, he.rm, fa, by show ∀ F ct, _ → PromOk S (!!hot) _ _ _ _ _ _ _ _; rw [Bool.not_not]; exact AllP.mem _ _ _ _ _ _ _ _ pr, AllP.mem _ _ _ _ _ _ _ _ ph, ⟨fa.ka, fun z => he.md.elim (fun q => q) (fun q => absurd q.1 (by rw [hq z]; decide)), AllQ.mem pq⟩, (fun h => by cases h), (fun _ _ _ e => by cases e), fun _ => rfl⟩, fun _ => he.own, fun _ => xek_cx, rfl, rfl⟩
theorem fn_z (hot : Bool) (fa : Facts S K mg) (Fn : FunD K x qual params body scope dvs kws f fd) (Sc : FnScope N ps scope) (ck : b.ck { S := S, N := N, sc := scope, cm := !hot } body = true) (pr : AllP S hot S.P w K mg base k L) (ph : AllP S true S.P w K mg base k LH) (hq : Q ≠ [] → hot = false) (pq : AllQ S.P w K mg base k Q)
    (len : ∀ as μ q z, c as μ q z → as.length = ps.length) (pure_ : ∀ as μ q z, c as μ q z → b.d { L := L, LH := LH, Q := Q } (endsOf q z) (startE N.length as) μ) : FnO hot S.P w K mg base (k + 3) f fd ps (spP K c) :=
  fn_p hot Fn Sc c _ len (fun cm pn cd A outer s H E hcm he => b.ok ck (goodS_of fa Sc.nd he pr ph hq pq)) pure_
theorem fn_zs {qs : List Str} {pv : Str} (fa : Facts S K mg) (Fn : FunD K x qual params body scope [] kws f fd) (Sc : FnScope N (qs ++ [pv]) scope) (ck : b.ck { S := S, N := N, sc := scope, cm := true } body = true) (pr : AllP S false S.P w K mg base k L) (ph : AllP S true S.P w K mg base k LH) (pq : AllQ S.P w K mg base k Q)
    (hb : ∀ (kV doc pm : Value) (an : Option Addr) (cdv ct : Value) (us rest : List Value), us.length = qs.length → bindArgs (PySem.W.fnOf x qual params body scope .none kV doc pm an cdv ct) ⟨us ++ rest, []⟩ = (newTuple rest >>= fun t => pure (qs.zip us ++ [(pv, t)])))
    (pure_ : ∀ as μ q z, c as μ q z → b.d { L := L, LH := LH, Q := Q } (endsOf q z) (startE N.length as) μ) : FnS false S.P w K mg base (k + 3) f [] (spP K (starC qs.length c)) :=
  fn_star Fn Sc c _ hb (fun cm pn cd A outer s H E hcm he => b.ok ck (goodS_of fa Sc.nd he pr ph (fun _ => rfl) pq)) pure_
theorem fn_zlaw {n : Nat} {st : Stmt} {rest : List Stmt} (fa : Facts S K mg) (Fn : FunD K x qual params body scope dvs kws f fd) (Sc : FnScope N ps scope) (hb : body = st :: rest) (hN : N.length = n + 2) (hp : ps.length = 1)
    (ck : b.ck { S := S, N := N, sc := scope, cm := true } rest = true) (pr : AllP S false S.P w K mg base k L) (ph : AllP S true S.P w K mg base k LH) (pq : AllQ S.P w K mg base k Q)
    (first : ∀ (pn : List (Addr × Obj)) (cd : Value) (A : Around) (outer : List Env) (s : Shared) (H : Hp) (E : XK), Here false (cxG true pn S.P w K mg base N qual scope f cd A outer s H E) (fun cls dd _ H' => E cls dd H') (k + 2) →
      PS (cxG true pn S.P w K mg base N qual scope f cd A outer s H E) st (tAsg (tRaw (fun cls dd _ H' => E cls dd H') (spBox K) (tCons (tVar 0) tNil)) (gName 1)))
    (pure_ : b.d { L := L, LH := LH, Q := Q } lawEnds (lawE n) mu0) : FnO false S.P w K mg base (k + 3) f fd ps (spLaw K) :=
  fn_law Fn Sc hb hN hp first (fun pn cd A outer s H E he => b.ok ck (goodS_of fa Sc.nd he pr ph (fun _ => rfl) pq)) pure_
end
def supT (R : Rt) (D0 Bc : Cl) (m : Nat) (ks : List Nat) : Cl → Option Ct := fun c => match decEq c D0 with
  | .isTrue _ => look R.L (.m Bc m ks)
  | .isFalse _ => none
theorem stab_of {S : Stt} {w : World} {K : Frg} {mg : Str → Option Value} {base : Heap} {k : Nat} {L LH : Tbl} {D0 Bc : Cl} {m : Nat} {ks : List Nat} (kc : kcB K D0 = true) (hm : S.nm m ∉ D0.flds) (sm : SupM K (ca K D0) (ca K D0) (S.nm m) (He.ma K (ca K Bc) (S.nm m))) (pr : AllP S false S.P w K mg base k L) :
    STab K S.P w mg base k (ca K D0) (S.nm m) (ks.map S.nm) (supT { L := L, LH := LH } D0 Bc m ks) := fun c ct h => by
  unfold supT at h
  split at h
  · rename_i e _
    subst e
    obtain ⟨_, _, _, _, _, F⟩ := AllP.mem _ _ _ _ _ _ _ _ pr _ _ (look_mem h)
    exact ⟨hm, (kcB_ok kc).cls, _, sm, F⟩
  · cases h
section
open NdefX (NF NScope)
variable {S : Stt} {w : World} {K : Frg} {mg : Str → Option Value} {base : Heap} {k : Nat} {f cda cc : Addr} {nm qual : Str} {kwd : List (Str × V)} {body : List Stmt} {params : Arguments} {scope : Scope} {N ps ks : List Str} {e : Expr} {es : List Expr} {kws : List Keyword} {p0 p1 p2 pos pos' : Pos} {c : Ct} {ar : Arg} {L LH : Tbl} {D0 Bc : Cl} {m : Nat} {k2 : List Nat}
theorem good_sup {F : NF} {A : Around} {outer : List Env} {s : Shared} {H : Hp} {E : XK} (fa : Facts S K mg) (nd : N.Nodup) (hs : F.scope = scope) (he : Here false (cxS S.P w K mg base N F f A outer s H E) (fun cls dd _ H' => E cls dd H') (k + 2))
    (pr : AllP S false S.P w K mg base k L) (ph : AllP S true S.P w K mg base k LH) : Good k { L := L, LH := LH } (cxS S.P w K mg base N F f A outer s H E) (fun cls dd _ H' => E cls dd H') { S := S, N := N, sc := scope, cm := true, fn := fun _ => false } :=
  ⟨rfl, rfl, hs, nd, fun _ z => z, he.md, he.tk, he.rm, fa, AllP.mem _ _ _ _ _ _ _ _ pr, AllP.mem _ _ _ _ _ _ _ _ ph, ⟨fa.ka, fun z => absurd rfl z, fun _ _ z => (nomatch z)⟩, (fun h => by cases h), (fun _ _ _ e => by cases e), fun _ => rfl⟩
theorem zsup_body (a : ZA) (kw : ZK) (fa : Facts S K mg) (T : SupF S.P K f (ca K D0) nm qual params [.Expr (.Call (.Attribute (.Call (.Name "super" p0) [] [] p1) (S.nm m) p2) (e :: es) kws pos) pos'] scope kwd cda cc) (Sc : NScope N ps ["__class__"] scope)
    (kc : kcB K D0 = true) (hm : S.nm m ∉ D0.flds) (sm : SupM K (ca K D0) (ca K D0) (S.nm m) (He.ma K (ca K Bc) (S.nm m))) (pr : AllP S false S.P w K mg base (k + 2) L) (ph : AllP S true S.P w K mg base k LH) (pr0 : AllP S false S.P w K mg base k L)
    (hsu : ("super" : Str) ∈ S.fre) (hks : scope.names.lookup ("super" : Str) = some .globalImplicit) (hkc : scope.names.lookup ("__class__" : Str) = some .free) (hka : scope.names.lookup ar.arg = some .local) (hp : (params.posonlyargs ++ params.args).head? = some ar) (hN : N[0]? = some ar.arg)
    (ck1 : a.ck { S := S, N := N, sc := scope, cm := true, fn := fun _ => false } (e :: es) = true) (ck2 : kw.ck { S := S, N := N, sc := scope, cm := true, fn := fun _ => false } kws = true)
    (ns : nost (e :: es) = true) (kn : kwN kws = (k2.map S.nm).map some) (few : fewB (e :: es) kws p2 pos = true)
    (pure_ : ∀ as μ q z, c as μ q z → dSup (supT { L := L, LH := LH } D0 Bc m k2) k2.length (a.d { L := L, LH := LH }) (kw.d { L := L, LH := LH }) (endsOf q z) (startE N.length as) μ) (hit : ∀ Lo, interactive (PySem.W.envX qual scope Lo f (.ref cda) [("__class__", cc)]) = false) :
    BodyOk S.P w K mg base (k + 2) f cda cc nm qual params [.Expr (.Call (.Attribute (.Call (.Name "super" p0) [] [] p1) (S.nm m) p2) (e :: es) kws pos) pos'] scope N c := by
  have ns' : (nstar e && nost es) = true := ns
  obtain ⟨n1, n2⟩ := He.ba ns'
  have der : ∀ (F : NF) (A : Around) (outer : List Env) (s : Shared) (H : Hp) (E : XK), F.scope = scope → F.qual = qual → Here false (cxS S.P w K mg base N F f A outer s H E) (fun cls dd _ H' => E cls dd H') (k + 2) → AJ (cxS S.P w K mg base N F f A outer s H E) (fun cls dd _ H' => E cls dd H') (e :: es) (a.d { L := L, LH := LH }) ∧ KJ (cxS S.P w K mg base N F f A outer s H E) (fun cls dd _ H' => E cls dd H') kws (kw.d { L := L, LH := LH }) := fun F A outer s H E hs hq he => by
    have G := good_sup (L := L) (LH := LH) fa Sc.nd hs he pr0 ph
    exact ⟨a.ok ck1 G, kw.ok ck2 G⟩
  refine body_supI (w := w) (mg := mg) (base := base) (k := k + 2) (tab := supT { L := L, LH := LH } D0 Bc m k2) T Sc (stab_of (w := w) (base := base) kc hm sm pr) (fa.fre _ hsu) hks hkc hka hp hN der (fun as μ q z h => by rw [List.length_map]; exact pure_ as μ q z h) (fun env => ⟨(do return (← importBound (.Call (.Name "super" p0) [] [] p1) env).getD true), ?_⟩) (fun env => star_cons n1) (fun env => (kw_all kn).1) (fun env => (kw_all kn).2.1) (fun env => ?_) (fun env => rfl) hit
  · obtain ⟨h1, h2⟩ := He.ba few
    obtain ⟨h2, h3⟩ := He.ba h2
    have h2 := of_decide_eq_true h2
    have fw : methodCallForm ((e :: es).length + kws.length) (backTo pos (starEach (e :: es) env)) (backToKw pos (keywordEach kws env)) = true := by
      unfold methodCallForm
      rw [nost_all h1, (kw_all kn).1]
      have : (e :: es).length + kws.length + (if (backToKw pos (keywordEach kws env)).isEmpty then 0 else 1) < 30 := by split <;> omega
      exact decide_eq_true this
    show (do
      let ov ← attributeBase (.Call (.Name "super" p0) [] [] p1) (S.nm m) env (eval (.Call (.Name "super" p0) [] [] p1) env)
      standAt p2.atName
      methodCall (.Call (.Name "super" p0) [] [] p1) (S.nm m) p2 pos env ov ((e :: es).length + kws.length) (backTo pos (starEach (e :: es) env)) (backToKw pos (keywordEach kws env))) = _
    unfold methodCall
    simp only [fw, calleeOf, methodCallPos, h3, if_true, Bool.not_true, Bool.false_or]
    rfl
  · rw [nost_any ns, (kw_all kn).2.2] <;> rfl
theorem fn_zsupD {dp : List PV} (T : SupF S.P K f (ca K D0) nm qual params body scope kwd cda cc) (Sc : NScope N ps ["__class__"] scope) (n : Nat) (hk : kwd ≠ []) (hn : n + kwd.length = ps.length)
    (h : ∀ (D0 : Addr) (doc pm : Value) (an : Option Addr) (ct : Value) (us vs : List Value), us.length = n → vs.length = kwd.length → KwChain D0 ((kwd.map (·.1)).zip vs) (bindArgs (PySem.W.fnX nm qual params body scope [("__class__", cc)] .none (.ref D0) doc pm an (.ref cda) ct) ⟨us, []⟩) (ps.zip (us ++ vs)))
    (rd : ∀ B G, Reps K B G dp (kwd.map (·.2))) (len : ∀ as μ q z, c as μ q z → as.length = ps.length) (ok : BodyOk S.P w K mg base k f cda cc nm qual params body scope N c) : FnS false S.P w K mg base (k + 1) f [] (spP K fun as μ q z => c (as ++ dp) μ q z) :=
  fn_at T Sc (.dfl n hk hn h) rd len ok
end
/-- keyword-only parameters that are left out -/
def dfl (ds : List PV) (c : Ct) : Ct := fun as μ q z => c (as ++ ds) μ q z
theorem MkC.dfl {fz : Bool} {c : Cl} {ct kc : Ct} {ds : List PV} (h : MkC fz c ct kc) : MkC fz c (Px.dfl ds ct) (Px.dfl ds kc) := fun ps μ q x z y hy => h (ps ++ ds) μ q x z y hy
end Px
namespace Px
open PySem PySem.Spec PyProof.Rows L2
def isLC (μ : Mu) (o : PV) : Bool := match o with
  | .cell a => (match μ a with
    | some (.lst _) => true
    | _ => false)
  | _ => false
def appP (o p : PV) (μ : Mu) (q : QV) : Prop := match o with
  | .cell a => (match μ a with
    | some (.lst xs) => xs.length < sizeLine ∧ q .non (μ.put a (.lst (xs ++ [p])))
    | _ => False)
  | _ => False
def dApp (dO d : DE) : DE := fun ρ μ q x => dO ρ μ (fun o μ1 => br (isLC μ1 o) (d ρ μ1 (fun p μ2 => appP o p μ2 q) x) False) x
section
variable {X : Cx} {W : WX} {apos pos : Pos} {o e : Expr} {dO d : DE}
theorem e_app (ho : EJ X W o dO) (he : EJ X W e d) (h1 : nsup o = true) (h2 : nstar e = true) (h3 : (apos.endLine == pos.line) = true) : EJ X W (.Call (.Attribute o "append" apos) [e] [] pos) (dApp dO d) :=
  pe_imp (pe_bm PySem.F.plainAttrs_list PySem.F.slot_list_append PySem.F.type_list_append mt_append ho (pa_cons he pa_nil (star_cons h2)) (base_of h1) (by rw [star_cons h2] <;> rfl) h3 (star_cons h2) rfl) fun σ H Q ⟨B, ρ, μ, G, q, x, R, h, gv, gx⟩ =>
  ⟨B, ρ, μ, G, _, x, R, h, fun oo w μ1 G1 H1 h0 g1 r1 => by
    obtain ⟨hb, h1⟩ := br_and h0
    cases oo with
    | cell a =>
      unfold isLC at hb
      cases e0 : μ1 a with
      | none => simp only [e0] at hb; cases hb
      | some cc =>
        cases cc with
        | lst xs =>
          obtain ⟨_, _, u, ha, vs, rfl, rs⟩ := g1.ok.cell a _ e0
          have hv := r1.cell_inv
          subst hv
          refine ⟨.inl ⟨rfl, vs, .inl (.inl ha)⟩, B, ρ, μ1, G1, _, x, R.go g1, h1, fun p v μ2 G2 H2 h2 g2 r2 => ?_, gx.go g1⟩
          unfold appP at h2
          cases e1 : μ2 a with
          | none => simp only [e1] at h2
          | some c2 =>
            cases c2 with
            | lst ys =>
              simp only [e1] at h2
              obtain ⟨hl, hq⟩ := h2
              obtain ⟨ga, nb, u2, ha2, ws, rfl, rs2⟩ := g2.ok.cell a _ e1
              have gp := g2.ok.goPut (d := .lst (ys ++ [p])) (u := .lst (ws ++ [v])) e1 ⟨_, rfl, rs2.append (.cons r2 .nil)⟩
              exact ⟨a, ws, v, rfl, rfl, ha2, by rw [rs2.length]; exact hl, gv _ _ _ _ _ hq ((g1.trans g2).trans gp) rep_non⟩
            | _ => simp only [e1] at h2
        | _ => simp only [e0] at hb; cases hb
    | _ => exact absurd hb Bool.false_ne_true, gx⟩
end
def zApp (o a : ZE) : ZE where
  d := fun R => dApp (o.d R) (a.d R)
  ck := fun c e => match e with
    | .Call (.Attribute x y apos) [z] [] pos => decide (y = "append") && (nsup x && (nstar z && ((apos.endLine == pos.line) && (o.ck c x && a.ck c z))))
    | _ => false
  ok := fun {k R X W c e} h G => by
    split at h
    · obtain ⟨h1, h⟩ := He.ba h
      obtain ⟨h2, h⟩ := He.ba h
      obtain ⟨h3, h⟩ := He.ba h
      obtain ⟨h4, h⟩ := He.ba h
      obtain ⟨h5, h6⟩ := He.ba h
      obtain rfl := of_decide_eq_true h1
      exact e_app (o.ok h5 G) (a.ok h6 G) h2 h3 h4
    · cases h
theorem Rel.same {K : Frg} {B : BX} {ρ : En} {μ : Mu} {σ : L2.St} {G H : Hp} {i : Nat} {x y : PV} (R : Rel K B ρ μ σ G H) (h : nth ρ i = some y) (hv : ∀ v, Rep K B G y v → Rep K B G x v) : Rel K B (ρ.set i (some x)) μ σ G H := by
  refine ⟨R.ok, by rw [List.length_set]; exact R.len, fun j z e => ?_⟩
  rcases set_get e with ⟨rfl, q⟩ | ⟨n, q⟩
  · cases q
    obtain ⟨v, e1, r⟩ := R.at_ i y (nth_some h)
    exact ⟨v, e1, hv v r⟩
  · exact R.at_ j z q
end Px
namespace Px
open PySem PySem.Spec PyProof.Rows L2
open NdefX (NF NScope CellsAt startF envF ncx inv_startN)
open PySem.W (findIn typeIn keepIn subIn clsIn nsIn codeIn alongIn fnX envX)
end Px
namespace Px
open PySem PySem.Spec PyProof.Rows L2
abbrev Clau := Cl × Option Nat × (Addr → Addr → Cl → DS)
structure Cla where
  c : Cl
  i : Option Nat
  s : ZB
def Cla.d (R : Rt) (k : Cla) : Clau := (k.c, k.i, fun a dd c => k.s.d { R with L := R.LH, Q := [], xi := some (a, dd, c) })
theorem br_self {α : Type} {b : α} [Decidable (b = b)] {A B : Prop} (h : A) : br (decide (b = b)) A B := brT (decide_eq_true rfl) h
theorem br_nself {α : Type} {b : α} [Decidable (b = b)] {A B : Prop} (h : B) : br (!decide (b = b)) A B := brF (by rw [decide_eq_true rfl]; rfl) h
end Px
namespace Px
open PySem PySem.Spec PyProof.Rows L2
end Px
namespace Px
open PySem PySem.Spec PyProof.Rows L2
def sgnsP (z : Str) : List PV := z.cps.toList.map fun c => .str ⟨#[c]⟩
/-- sorted(a list of texts) -/
def zSortL (a : ZE) : ZE where
  d := fun R => dBlt (fc fSortL) (dCons (a.d R) dNil)
  ck := fun c e => match e with
    | .Call (.Name y _) [e1] [] _ => decide (y = "sorted") && (glB c.sc y && (decide (y ∈ c.S.fre) && (nstar e1 && a.ck c e1)))
    | _ => false
  ok := fun {k R X W c e} h G => by
    split at h
    · rename_i y p0 e1 pos
      obtain ⟨h1, h⟩ := He.ba h
      obtain ⟨h2, h⟩ := He.ba h
      obtain ⟨h3, h⟩ := He.ba h
      obtain ⟨h4, h5⟩ := He.ba h
      obtain rfl := of_decide_eq_true h1
      obtain ⟨g1, g2, g3⟩ := G.gl h2
      exact e_blt cj_sortL (G.free h3) (by decide +kernel) (a_cons (a.ok h5 G) a_nil (star_cons h4)) g1 g3 g2 (star_cons h4) rfl
    · cases h
end Px
namespace Px
open PySem PySem.Spec PyProof.Rows L2
end Px
namespace Px
open PySem PySem.Spec PyProof.Rows L2
end Px
namespace Px
open PySem PySem.Spec PyProof.Rows L2
inductive Src where
  | l (a : Addr)
  | t (a : Addr)
  | s (x : Str)
namespace Src
def v : Src → V
  | .l a => .ref a
  | .t a => .ref a
  | .s x => .str x
/-- its item at i -/
def G (K : PySem.W.Frag) (S : Src) (H : Hp) (i : Nat) (x : V) : Prop := match S with
  | .l a => ∃ xs, SqL K H a xs ∧ xs[i]? = some x
  | .t a => ∃ xs, SqT K H a xs ∧ xs[i]? = some x
  | .s z => ∃ c, z.cps[i]? = some c ∧ x = .str ⟨#[c]⟩
/-- it has none at i -/
def N (K : PySem.W.Frag) (S : Src) (H : Hp) (i : Nat) : Prop := match S with
  | .l a => ∃ xs : List V, SqL K H a xs ∧ xs.length ≤ i
  | .t a => ∃ xs : List V, SqT K H a xs ∧ xs.length ≤ i
  | .s z => z.cps.size ≤ i
def Ok (K : PySem.W.Frag) (S : Src) (H : Hp) : Prop := match S with
  | .l a => ∃ xs : List V, SqL K H a xs
  | .t a => ∃ xs : List V, SqT K H a xs
  | .s _ => True
def tn (S : Src) (it : Addr) (i : Nat) (h : Heap) : Prop := match S with
  | .l a => h.IsListIter it a i ∧ a ≠ it
  | .t a => h.IsTupleIter it a i ∧ a ≠ it
  | .s x => ∃ t, h.IsStrIter it (strIterType x) x t i
def fp : Src → List Addr
  | .l a => [a]
  | .t a => [a]
  | .s _ => []
theorem G.inj {X : Cx} {pins : List (Addr × Obj)} {σ : L2.St} {H : Hp} {s : Shared} {S : Src} {i : Nat} {x y : V} (I : Inv X pins σ H s) (h : S.G X.K H i x) (h2 : S.G X.K H i y) : x = y := by
  cases S with
  | l a =>
    obtain ⟨xs, q, e⟩ := h
    obtain ⟨ys, q2, e2⟩ := h2
    rw [I.list_inj q q2, e2] at e
    cases e; rfl
  | t a =>
    obtain ⟨xs, q, e⟩ := h
    obtain ⟨ys, q2, e2⟩ := h2
    rw [I.tuple_inj q q2, e2] at e
    cases e; rfl
  | s z =>
    obtain ⟨c, e, rfl⟩ := h
    obtain ⟨d, e2, rfl⟩ := h2
    rw [e] at e2
    cases e2; rfl
/-- an iterator with one more item -/
theorem item {X : Cx} {pins : List (Addr × Obj)} {σ : L2.St} {H : Hp} {s : Shared} {S : Src} {it : Addr} {i : Nat} {x : V} {A : Around} (hh : A.handled = none) (I : Inv X pins σ H s) (g : S.G X.K H i x) (st : S.tn it i s.heap) :
    ∃ n P St, Draws X.prog X.w A it (it :: S.fp) n P St ∧ St i s.heap ∧ i < n ∧ (∀ u, P i u → RelV x u) ∧ ∀ h', St (i + 1) h' → S.tn it (i + 1) h' := by
  cases S with
  | l a =>
    obtain ⟨xs, q, e⟩ := g
    obtain ⟨its, rv, p, hz⟩ := I.list q
    obtain ⟨u, hu, ru⟩ := rv.get e
    have hlt := (List.getElem?_eq_some_iff.mp hu).1
    refine ⟨_, _, _, Draws.list hh it a st.2 its.toArray, ⟨st.1, p.isList⟩, by simpa using hlt, fun w hw => ?_, fun h' k => ⟨k.1, st.2⟩⟩
    have e1 : its.toArray[i]? = some u := by simpa using hu
    rw [e1] at hw
    cases hw
    exact ru
  | t a =>
    obtain ⟨xs, q, e⟩ := g
    obtain ⟨its, rv, p, hz⟩ := I.tuple q
    have hp : s.heap.IsTuple a its.toArray := p
    obtain ⟨u, hu, ru⟩ := rv.get e
    have hlt := (List.getElem?_eq_some_iff.mp hu).1
    refine ⟨_, _, _, Draws.tuple hh it a st.2 its.toArray, ⟨st.1, hp⟩, by simpa using hlt, fun w hw => ?_, fun h' k => ⟨k.1, st.2⟩⟩
    have e1 : its.toArray[i]? = some u := by simpa using hu
    rw [e1] at hw
    cases hw
    exact ru
  | s z =>
    obtain ⟨c, e, rfl⟩ := g
    obtain ⟨t, st⟩ := st
    have hlt : i < z.cps.size := (Array.getElem?_eq_some_iff.mp e).1
    refine ⟨_, _, _, Draws.text hh it z t, st, hlt, fun w hw => ?_, fun h' k => ⟨t, k⟩⟩
    obtain ⟨d, u, e2, rfl⟩ := hw
    rw [e] at e2
    cases e2
    exact ⟨u, rfl⟩
/-- an iterator that has none -/
theorem none {X : Cx} {pins : List (Addr × Obj)} {σ : L2.St} {H : Hp} {s : Shared} {S : Src} {it : Addr} {i : Nat} {A : Around} (hh : A.handled = Option.none) (I : Inv X pins σ H s) (g : S.N X.K H i) (st : S.tn it i s.heap) :
    ∃ P St, Draws X.prog X.w A it (it :: S.fp) i P St ∧ St i s.heap := by
  cases S with
  | l a =>
    obtain ⟨xs, q, e⟩ := g
    obtain ⟨its, rv, p, hz⟩ := I.list q
    have hl := rv.length
    have en : its.toArray[i]? = Option.none := by simp; omega
    refine ⟨fun _ _ => True, fun j h => j = i ∧ h.IsListIter it a i ∧ h.IsList a its.toArray, ?_, rfl, st.1, p.isList⟩
    exact {
      live := fun _ _ st => let ⟨o, ho, _⟩ := st.2.1; ⟨o, ho⟩
      frame := fun _ _ _ st hk => ⟨st.1, st.2.1.at fun o e => hk it (by simp) o e, st.2.2.at fun o e => hk a (by simp [fp]) o e⟩
      item := fun j s Q E hj st _ => absurd st.1 (Nat.ne_of_lt hj)
      done := fun s Q E st hE => wpAny_nextOf_list_end hh st.2.1 st.2.2 en hE }
  | t a =>
    obtain ⟨xs, q, e⟩ := g
    obtain ⟨its, rv, p, hz⟩ := I.tuple q
    have hp : s.heap.IsTuple a its.toArray := p
    have hl := rv.length
    have en : its.toArray[i]? = Option.none := by simp; omega
    refine ⟨fun _ _ => True, fun j h => j = i ∧ h.IsTupleIter it a i ∧ h.IsTuple a its.toArray, ?_, rfl, st.1, hp⟩
    exact {
      live := fun _ _ st => let ⟨o, ho, _⟩ := st.2.1; ⟨o, ho⟩
      frame := fun _ _ _ st hk => ⟨st.1, st.2.1.at fun o e => hk it (by simp) o e, st.2.2.at fun o e => hk a (by simp [fp]) o e⟩
      item := fun j s Q E hj st _ => absurd st.1 (Nat.ne_of_lt hj)
      done := fun s Q E st hE => wpAny_nextOf_tuple_end hh st.2.1 st.2.2 en hE }
  | s z =>
    obtain ⟨t, st⟩ := st
    have g : z.cps.size ≤ i := g
    have en : z.cps[i]? = Option.none := by simp; omega
    refine ⟨fun _ _ => True, fun j h => j = i ∧ h.IsStrIter it (strIterType z) z t i, ?_, rfl, st⟩
    exact {
      live := fun _ _ st => let ⟨o, ho, _⟩ := st.2; ⟨o, ho⟩
      frame := fun _ _ _ st hk => ⟨st.1, let ⟨o, ho, r⟩ := st.2; ⟨o, hk it (by simp) o ho, r⟩⟩
      item := fun j s Q E hj st _ => absurd st.1 (Nat.ne_of_lt hj)
      done := fun s Q E st hE => by
        obtain ⟨_, st⟩ := st
        cases ha : z.cps.all (· < 128)
        · simp only [strIterType, ha, Bool.false_eq_true, if_false] at st
          exact wpAny_nextOf_wide_end hh st en hE
        · simp only [strIterType, ha, if_true] at st
          exact wpAny_nextOf_ascii_end hh st en hE }
theorem frame {S : Src} {it : Addr} {i : Nat} {h h' : Heap} (st : S.tn it i h) (k : ∀ o, h.get? it = some o → h'.get? it = some o) : S.tn it i h' := by
  cases S with
  | l a => exact ⟨st.1.at k, st.2⟩
  | t a => exact ⟨st.1.at k, st.2⟩
  | s z => obtain ⟨t, o, ho, r⟩ := st; exact ⟨t, o, k o ho, r⟩
theorem obj {S : Src} {it : Addr} {i : Nat} {h : Heap} (st : S.tn it i h) : ∃ o, h.get? it = some o ∧ ∀ v, o.data ≠ .cell v := by
  cases S with
  | l a => obtain ⟨⟨o, e, _, d⟩, _⟩ := st; exact ⟨o, e, fun v q => by rw [d] at q; cases q⟩
  | t a => obtain ⟨⟨o, e, _, d⟩, _⟩ := st; exact ⟨o, e, fun v q => by rw [d] at q; cases q⟩
  | s z => obtain ⟨t, o, e, _, d⟩ := st; exact ⟨o, e, fun v q => by rw [d] at q; cases q⟩
end Src
end Px
namespace Px
open PySem PySem.Spec PyProof.Rows L2 RT
end Px
namespace Px
open PySem PySem.Spec PyProof.Rows L2
/-- a source that holds xs -/
def SrcR (K : Frg) (B : BX) (G : Hp) (S : Src) (xs : List PV) : Prop := match S with
  | .l a => ∃ vs, SqL K G a vs ∧ Reps K B G xs vs
  | .t a => ∃ vs, SqT K G a vs ∧ Reps K B G xs vs
  | .s z => xs = sgnsP z
theorem SrcR.get {K : Frg} {B : BX} {G0 G H : Hp} {μ : Mu} {S : Src} {xs : List PV} (r : SrcR K B G0 S xs) (s : Sub G0 G) (o : Ok K B μ G H) {i : Nat} {x : PV} (e : xs[i]? = some x) : ∃ v, S.G K H i v ∧ Rep K B G x v := by
  cases S with
  | l a =>
    obtain ⟨vs, sq, rs⟩ := r
    obtain ⟨u, e2, ru⟩ := rs.get e
    exact ⟨u, ⟨vs, o.sub.l (s.l sq), e2⟩, ru.mono s⟩
  | t a =>
    obtain ⟨vs, sq, rs⟩ := r
    obtain ⟨u, e2, ru⟩ := rs.get e
    exact ⟨u, ⟨vs, o.sub.t (s.t sq), e2⟩, ru.mono s⟩
  | s z =>
    have r : xs = sgnsP z := r
    subst r
    unfold sgnsP at e
    rw [List.getElem?_map, Array.getElem?_toList] at e
    cases hc : z.cps[i]? with
    | none => rw [hc] at e; cases e
    | some c =>
      rw [hc] at e
      cases e
      exact ⟨_, ⟨c, hc, rfl⟩, rep_str _⟩
theorem SrcR.inj {K : Frg} {B : BX} {G0 G H : Hp} {μ : Mu} {S : Src} {xs : List PV} (r : SrcR K B G0 S xs) (s : Sub G0 G) (o : Ok K B μ G H) {i : Nat} {x : PV} {v : V} (e : xs[i]? = some x) (g : S.G K H i v) (hi : ∀ a vs ws, SqL K H a vs → SqL K H a ws → vs = ws) (hi2 : ∀ a vs ws, SqT K H a vs → SqT K H a ws → vs = ws) : Rep K B G x v := by
  cases S with
  | l a =>
    obtain ⟨vs, sq, rs⟩ := r
    obtain ⟨u, e2, ru⟩ := rs.get e
    obtain ⟨ws, q, e3⟩ := g
    rw [hi a _ _ q (o.sub.l (s.l sq)), e2] at e3
    cases e3
    exact ru.mono s
  | t a =>
    obtain ⟨vs, sq, rs⟩ := r
    obtain ⟨u, e2, ru⟩ := rs.get e
    obtain ⟨ws, q, e3⟩ := g
    rw [hi2 a _ _ q (o.sub.t (s.t sq)), e2] at e3
    cases e3
    exact ru.mono s
  | s z =>
    have r : xs = sgnsP z := r
    subst r
    obtain ⟨c, hc, rfl⟩ := g
    unfold sgnsP at e
    rw [List.getElem?_map, Array.getElem?_toList, hc] at e
    cases e
    exact rep_str _
end Px
namespace Px
open PySem PySem.Spec PyProof.Rows L2
/-- an expression whose value is a new generator -/
structure ZG where
  n : Nat
  m : Rt → Bool
  ct : Rt → Ct
  ds : Rt → DA
  ck : Cc → Expr → Bool
  ok : ∀ {k : Nat} {R : Rt} {X : Cx} {W : WX} {c : Cc} {e : Expr}, ck c e = true → c.cm = true → Good k R X W c → PGn X k n (m R) e (tA X.K W (ds R)) (spP X.K (ct R))
def ZG.d (z : ZG) (R : Rt) : DI := iGen (z.m R) z.n (z.ct R) (z.ds R)
/-- sorted(a, key=f), f the def that returns (len(x), x) -/
def dHas (b : Bool) (d : DE) : DE := fun ρ μ q x => b = true ∧ d ρ μ q x
end Px
namespace Px
open PySem PySem.Spec PyProof.Rows L2
end Px
namespace Px
open PySem PySem.Spec PyProof.Rows L2
end Px
namespace Px
open PySem PySem.Spec PyProof.Rows L2
structure GoodG (k : Nat) (R : Rt) (Γ : GP) (c : Cc) : Prop where
  good : ∀ d : WD, Γ.L ≤ d.s.heap.objs.size → GoodS k R (Γ.X d) Wno c
  nc : Γ.env.cells = []
  co : Γ.scope.isCoroutine = false
  kind : Γ.scope.kind = .function
  cm : c.cm = true
structure ZYs where
  d : Rt → List Addr → DG
  ck : Cc → List Stmt → Bool
  ok : ∀ {k : Nat} {R : Rt} {Γ : GP} {c : Cc} {e : List Stmt}, ck c e = true → GoodG k R Γ c → GnJ Γ e (d R Γ.ks)
section
variable {S : Stt} {w : World} {K : Frg} {mg : Str → Option Value} {base : Heap} {nm qual : Str} {params : Arguments} {body : List Stmt} {scope : Scope} {dvs : List V} {kws : List (Str × V)} {f : Addr} {fd : FuncData} {N ps : List Str} {k : Nat} {b : ZYs} {L LH : Tbl} {Q : Qt} {c : Ct}
theorem GnW.imp {P : Program} {n : Nat} {kn : List Str} {c c' : Ct} (F : GnW P w K mg base k f n kn c) (i : ∀ as μ q x, c' as μ q x → c as μ q x) : GnW P w K mg base k f n kn c' := fun A outer s H us ws vs B μ G as q z h1 h2 h3 h4 h5 h6 h7 h8 h => F A outer s H us ws vs B μ G as q z h1 h2 h3 h4 h5 h6 h7 h8 (i _ _ _ _ h)
theorem GnW.up {P : Program} {n : Nat} {kn : List Str} {k2 : Nat} (F : GnW P w K mg base k f n kn c) (h : k ≤ k2) : GnW P w K mg base k2 f n kn c := fun A outer s H us ws vs B μ G as q z h1 h2 h3 h4 h5 h6 h7 h8 hc => by
  refine codeAny_mono (F A outer s H us ws vs B μ G as q z h1 (h2.mono h) h3 h4 h5 h6 h7 h8 hc) fun r s1 ⟨a, g, L, oa, gs, ys, ks, e, hq, N⟩ => ⟨a, g, L, oa, gs, ys, ks, e, hq, ?_⟩
  exact ⟨N.L1, N.L2, N.a2, N.ge, N.isg, N.noc, N.gen, N.fresh, N.os, N.bare, N.keep, N.own, N.bsz, fun A h1 h2 h3 => N.wake A h1 (h2.mono h) h3⟩
end
end Px
namespace Px
open PySem PySem.Spec PyProof.Rows L2
end Px
namespace Px
open PySem PySem.Spec PyProof.Rows L2
end Px
namespace Px
open PySem PySem.Spec PyProof.Rows L2
end Px
namespace Px
open PySem PySem.Spec PyProof.Rows L2
end Px
namespace Px
open PySem PySem.Spec PyProof.Rows L2
end Px
namespace Px
open PySem PySem.Spec PyProof.Rows L2
end Px
namespace PySem.W
open PySem PySem.Calls PyProof.Rows PyProof.V PySem.Spec
end PySem.W
namespace Px
open PySem PySem.Spec PyProof.Rows L2
end Px
namespace Px
open PySem PySem.Spec PyProof.Rows L2
mutual
inductive DtP : PV → PyData → Prop
  | non : DtP .non .none
  | bl (b : Bool) : DtP (.bl b) (.bool b)
  | int (i : Int) : DtP (.int i) (.int i)
  | str (z : Str) : DtP (.str z) (.str z)
  | lst {xs : List PV} {ds : List PyData} : DtPs xs ds → DtP (.lst xs) (.list ds)
  | tup {xs : List PV} {ds : List PyData} : DtPs xs ds → DtP (.tup xs) (.tuple ds)
inductive DtPs : List PV → List PyData → Prop
  | nil : DtPs [] []
  | cons {p : PV} {ps : List PV} {d : PyData} {ds : List PyData} : DtP p d → DtPs ps ds → DtPs (p :: ps) (d :: ds)
end
section
variable {K : Frg} {B : BX} {G H : Hp}
mutual
theorem DtP.dp (sub : Sub G H) : ∀ {p : PV} {d : PyData} {v : V}, DtP p d → Rep K B G p v → Dp K H v d
  | _, _, _, .non, r => by rw [r.non_inv]; exact .non
  | _, _, _, .bl b, r => by rw [r.bl_inv]; exact .bl b
  | _, _, _, .int i, r => by rw [r.int_inv]; exact .int i
  | _, _, _, .str z, r => by rw [r.str_inv]; exact .str z
  | _, _, _, .lst h, r => by
    obtain ⟨a, vs, rfl, g, rs⟩ := r.lst_inv
    exact .lst (.inl (.inl (sub _ _ g))) (DtPs.dps sub h rs)
  | _, _, _, .tup h, r => by
    obtain ⟨a, vs, rfl, g, rs⟩ := r.tup_inv
    exact .tup (sub.t g) (DtPs.dps sub h rs)
theorem DtPs.dps (sub : Sub G H) : ∀ {ps : List PV} {ds : List PyData} {vs : List V}, DtPs ps ds → Reps K B G ps vs → DpAll K H vs ds
  | _, _, _, .nil, r => by rw [r.nil_inv]; exact .nil
  | _, _, _, .cons h hs, r => by
    obtain ⟨v, ws, rfl, r1, r2⟩ := r.cons_inv
    exact .cons (DtP.dp sub h r1) (DtPs.dps sub hs r2)
end
end
end Px
namespace Px
open PySem PySem.Spec PyProof.Rows L2
def bandsI (n : Int) : List Int := ([0, 1, 2, 3, 4, 5] : List Int).filter fun k => decide ((n / 2 ^ k.toNat) % 2 = 1)
/-- the light of a number -/
def lt (n : Int) : PV := .obj .Light [.int n, .tup ((bandsI n).map .int)]
def badB (b : Int) : Bool := !(decide (0 ≤ b) && decide (b < 6))
def orB (a b : Int) : Int := Builtin.bitOr a (1 * 2 ^ b.toNat)
def numOf (ns : List Int) : Int := ns.foldl orB 0
def rng6 : List PV := [.int 0, .int 1, .int 2, .int 3, .int 4, .int 5]
theorem rng6_map (f : Int → Bool) (g : PV → Bool) (h : ∀ i : Int, g (.int i) = f i) : (rng6.filter g).map id = (([0, 1, 2, 3, 4, 5] : List Int).filter f).map PV.int := by
  have e : rng6 = ([0, 1, 2, 3, 4, 5] : List Int).map PV.int := rfl
  rw [e, List.filter_map, List.map_id]
  have e2 : (g ∘ PV.int) = f := funext h
  rw [e2]
theorem all64 {p : Int → Bool} (h : ((List.range 64).all fun k => p (k : Int)) = true) {n : Int} (h0 : 0 ≤ n) (h1 : n < 64) : p n = true := by
  obtain ⟨k, rfl⟩ := Int.eq_ofNat_of_zero_le h0
  exact List.all_eq_true.mp h k (List.mem_range.mpr (by omega))
theorem all2 {p : Int → Int → Prop} [∀ m n, Decidable (p m n)] (h : ((List.range 64).all fun j => (List.range 64).all fun k => decide (p (j : Int) (k : Int))) = true) {m n : Int} (hm : 0 ≤ m ∧ m < 64) (hn : 0 ≤ n ∧ n < 64) : p m n := by
  obtain ⟨j, rfl⟩ := Int.eq_ofNat_of_zero_le hm.1
  obtain ⟨k, rfl⟩ := Int.eq_ofNat_of_zero_le hn.1
  exact of_decide_eq_true (List.all_eq_true.mp (List.all_eq_true.mp h j (List.mem_range.mpr (by omega))) k (List.mem_range.mpr (by omega)))
theorem numOf_bands {n : Int} (h0 : 0 ≤ n) (h1 : n < 64) : numOf (bandsI n) = n := of_decide_eq_true (all64 (p := fun n => decide (numOf (bandsI n) = n)) (by decide +kernel) h0 h1)
theorem bit_and {n k : Int} (h0 : 0 ≤ n) (h1 : n < 64) (hk : k ∈ ([0, 1, 2, 3, 4, 5] : List Int)) : decide (Builtin.bitAnd (n / 2 ^ k.toNat) 1 = 1) = decide ((n / 2 ^ k.toNat) % 2 = 1) := by
  have := all64 (p := fun n => ([0, 1, 2, 3, 4, 5] : List Int).all fun k => decide (Builtin.bitAnd (n / 2 ^ k.toNat) 1 = 1) == decide ((n / 2 ^ k.toNat) % 2 = 1)) (by decide +kernel) h0 h1
  exact beq_iff_eq.mp (List.all_eq_true.mp this k hk)
theorem bands_good (n : Int) : ∀ b ∈ bandsI n, badB b = false := fun b hb => by
  have hb := (List.mem_filter.mp hb).1
  have : ([0, 1, 2, 3, 4, 5] : List Int).all (fun b => !badB b) = true := by decide
  have := List.all_eq_true.mp this b hb
  simpa using this
theorem find_none {f : Int → Bool} {l : List Int} (h : ∀ b ∈ l, f b = false) : l.find? f = none := List.find?_eq_none.mpr fun b hb => by rw [h b hb]; simp
theorem orB_step : ((List.range 64).all fun n => (List.range 6).all fun b => decide (0 ≤ orB (n : Int) (b : Int)) && decide (orB (n : Int) (b : Int) < 64)) = true := by decide +kernel
theorem orB_lt {n b : Int} (h0 : 0 ≤ n) (h1 : n < 64) (hb : badB b = false) : 0 ≤ orB n b ∧ orB n b < 64 := by
  unfold badB at hb
  simp at hb
  obtain ⟨k, rfl⟩ := Int.eq_ofNat_of_zero_le h0
  obtain ⟨j, rfl⟩ := Int.eq_ofNat_of_zero_le hb.1
  have := List.all_eq_true.mp (List.all_eq_true.mp orB_step k (List.mem_range.mpr (by omega))) j (List.mem_range.mpr (by omega))
  simpa using this
theorem numOf_lt : ∀ (ns : List Int) (a : Int), 0 ≤ a → a < 64 → (∀ b ∈ ns, badB b = false) → 0 ≤ ns.foldl orB a ∧ ns.foldl orB a < 64
  | [], a, h0, h1, _ => ⟨h0, h1⟩
  | b :: ns, a, h0, h1, h => by
    have := orB_lt h0 h1 (h b List.mem_cons_self)
    exact numOf_lt ns (orB a b) this.1 this.2 fun x hx => h x (List.mem_cons_of_mem _ hx)
def toS (i : Int) : Str := toString i
def joinB (sep : Str) (n : Int) : Str := Txt.join sep ((bandsI n).map toS)
def wordT (n : Int) : Str := if n = 0 then "-" else joinB "." n
abbrev R6 (n : Int) : Prop := 0 ≤ n ∧ n < 64
def intsP : List PV → Option (List Int)
  | [] => some []
  | p :: ps => (match p with
    | .int i => (match intsP ps with
      | some is => some (i :: is)
      | none => none)
    | _ => none)
theorem intsP_map : ∀ (is : List Int), intsP (is.map .int) = some is
  | [] => rfl
  | i :: is => by
    show (match intsP (is.map .int) with
      | some is => some (i :: is)
      | none => none) = _
    rw [intsP_map is]
theorem intsP_inv : ∀ {ps : List PV} {is : List Int}, intsP ps = some is → ps = is.map .int
  | [], is, h => by cases h; rfl
  | p :: ps, is, h => by
    unfold intsP at h
    split at h
    · split at h
      · rename_i i js e
        cases h
        rw [intsP_inv e] <;> rfl
      · cases h
    · cases h
theorem rng_and {m n : Int} (hm : R6 m) (hn : R6 n) : R6 (Builtin.bitAnd m n) := all2 (p := fun m n => R6 (Builtin.bitAnd m n)) (by decide +kernel) hm hn
def takesB (z : Str) : Bool := decide (z = "any") || (decide (z = "bare") || decide (z = "inked"))
def lowB (n : Int) : Int := match bandsI n with
  | b :: _ => b
  | [] => 0
theorem lowB_at {n : Int} (h0 : R6 n) (h : n ≠ 0) : ∃ bs, bandsI n = lowB n :: bs := by
  have := all64 (p := fun n => decide (n = 0) || !(bandsI n).isEmpty) (by decide +kernel) h0.1 h0.2
  unfold lowB
  cases e : bandsI n with
  | nil => rw [e] at this; simp at this; exact absurd this h
  | cons b bs => exact ⟨bs, rfl⟩
def nothingF : PV := .obj .Film [.tup [lt 0, lt 0, .bl false], .tup [lt 0, lt 0, .bl true]]
def filmOf (when_ : Str) (off on : PV) : PV := if when_ = "bare" then .obj .Film [.tup [off, on, .bl true], .tup [lt 0, lt 0, .bl true]] else if when_ = "inked" then .obj .Film [.tup [lt 0, lt 0, .bl false], .tup [off, on, .bl true]] else .obj .Film [.tup [off, on, .bl true], .tup [off, on, .bl true]]
def one (mask : PV) (side : Bool) (when_ : Str) (off on : Int) (kind : Str) : PV := .tup [mask, .bl side, .str when_, .int off, .int on, .str kind]
def WhenOk (cond : Bool) (z : Str) : Prop := z = "any" ∨ (cond = true ∧ (z = "bare" ∨ z = "inked"))
def KindOk (off on : Int) (kind : Str) : Prop := R6 off ∧ R6 on ∧ ((kind = "filter" ∧ on = 0) ∨ (kind = "bleach" ∧ off = 0) ∨ (kind = "opaque" ∧ off = 63 - on) ∨ (kind = "ink" ∧ Builtin.bitAnd off on = 0))
def MaskOk (ns : List PV) (sided : Bool) (mask : PV) (side : Bool) : Prop := (mask = .non ∧ side = false) ∨ (mask ∈ ns ∧ (side = true → sided = true))
theorem and0 {m : Int} (hm : R6 m) : Builtin.bitAnd m 0 = 0 ∧ Builtin.bitAnd 0 m = 0 ∧ Builtin.bitAnd (63 - m) m = 0 ∧ Builtin.bitAnd m (63 - m) = 0 := of_decide_eq_true (all64 (p := fun m => decide (Builtin.bitAnd m 0 = 0 ∧ Builtin.bitAnd 0 m = 0 ∧ Builtin.bitAnd (63 - m) m = 0 ∧ Builtin.bitAnd m (63 - m) = 0)) (by decide +kernel) hm.1 hm.2)
theorem KindOk.and (h : KindOk off on kind) : Builtin.bitAnd off on = 0 := by
  obtain ⟨h1, h2, ⟨_, rfl⟩ | ⟨_, rfl⟩ | ⟨_, rfl⟩ | ⟨_, h⟩⟩ := h
  · exact (and0 h1).1
  · exact (and0 h2).2.1
  · exact (and0 h2).2.2.1
  · exact h
def inkCl (kind : Str) : Cl := if kind = "filter" then .Filter else if kind = "bleach" then .Bleach else if kind = "opaque" then .Opaque else .Ink
def inkOf (kind when_ : Str) (off on : Int) : PV := .obj (inkCl kind) [lt off, lt on, .str when_]
/-- the pass of a one -/
structure One where
  mask : PV
  side : Bool
  when_ : Str
  off : Int
  on : Int
  kind : Str
def One.pv (o : One) : PV := one o.mask o.side o.when_ o.off o.on o.kind
def inkC (c : Cl) : Bool := decide (c = .Ink) || (decide (c = .Filter) || (decide (c = .Opaque) || decide (c = .Bleach)))
end Px
namespace Px
open PySem PySem.Spec PyProof.Rows L2
def bt (n : Int) (i : Nat) : Bool := n.toNat.testBit i
structure Eff where
  off : Int
  on : Int
  mkd : Bool
  deriving DecidableEq
def Eff.pv (e : Eff) : PV := .tup [lt e.off, lt e.on, .bl e.mkd]
def Eff.ok (e : Eff) : Prop := R6 e.off ∧ R6 e.on
def filmV (b i : Eff) : PV := .obj .Film [b.pv, i.pv]
def e0 : Eff := ⟨0, 0, false⟩
def e1 : Eff := ⟨0, 0, true⟩
/-- what a film is made of -/
structure Fm where
  b : Eff
  i : Eff
  deriving DecidableEq
def Fm.pv (f : Fm) : PV := filmV f.b f.i
def Fm.ok (f : Fm) : Prop := f.b.ok ∧ f.i.ok
def fNo0 : Fm := ⟨e0, e1⟩
def fOf (when_ : Str) (off on : Int) : Fm := if when_ = "bare" then ⟨⟨off, on, true⟩, e1⟩ else if when_ = "inked" then ⟨e0, ⟨off, on, true⟩⟩ else ⟨⟨off, on, true⟩, ⟨off, on, true⟩⟩
theorem filmOf_eq (when_ : Str) (off on : Int) : filmOf when_ (lt off) (lt on) = (fOf when_ off on).pv := by
  unfold filmOf fOf
  split
  · rfl
  · split <;> rfl
theorem fOf_ok {when_ : Str} {off on : Int} (h1 : R6 off) (h2 : R6 on) : (fOf when_ off on).ok := by
  have z : R6 0 := by decide
  unfold fOf
  split
  · exact ⟨⟨h1, h2⟩, z, z⟩
  · split
    · exact ⟨⟨z, z⟩, h1, h2⟩
    · exact ⟨⟨h1, h2⟩, h1, h2⟩
/-- an inked start stays inked -/
def Fm.wet (f : Fm) : Prop := f.i.mkd = true
theorem fOf_wet (w : Str) (off on : Int) : (fOf w off on).wet := by unfold fOf Fm.wet; split; rfl; split <;> rfl
def Eff.dj (e : Eff) : Prop := Builtin.bitAnd e.off e.on = 0
def Fm.dj (f : Fm) : Prop := f.b.dj ∧ f.i.dj
theorem fOf_dj {w : Str} {off on : Int} (h : Builtin.bitAnd off on = 0) : (fOf w off on).dj := by
  have z : Builtin.bitAnd 0 0 = (0 : Int) := by decide +kernel
  unfold fOf
  split
  · exact ⟨h, z⟩
  · split
    · exact ⟨z, h⟩
    · exact ⟨h, h⟩
end Px
namespace Px
open PySem PySem.Spec PyProof.Rows L2
theorem cEq_inv {c : Cl} {f : Qf} {as : List PV} {μ : Mu} {q : QV} {x : QX} (h : cEq c f as μ q x) : ∃ xs b k, as = [.obj c xs, b] ∧ f xs b = some k ∧ q (.bl k) μ := by
  unfold cEq at h
  split at h
  · rename_i d xs b
    split at h
    · rename_i e _
      subst e
      split at h
      · rename_i k e
        exact ⟨xs, b, k, rfl, e, h⟩
      · exact h.elim
    · exact h.elim
  · exact h.elim
theorem cEq_len {c : Cl} {f : Qf} : ∀ as μ q z, cEq c f as μ q z → as.length = 2 := fun as μ q z h => by
  obtain ⟨xs, b, k, rfl, _⟩ := cEq_inv h
  rfl
/-- something that is no instance of the class -/
def othB (c : Cl) (b : PV) : Bool := match b with
  | .int _ | .str _ | .bl _ | .non | .tup _ | .lst _ => true
  | .obj d _ => !subCl d c
  | _ => false
def othQ (c : Cl) (b : PV) : Option Bool := match othB c b with
  | true => some false
  | false => none
theorem othQ_inv {c : Cl} {b : PV} {k : Bool} (h : othQ c b = some k) : othB c b = true ∧ k = false := by
  unfold othQ at h
  split at h
  · rename_i e; cases h; exact ⟨e, rfl⟩
  · cases h
theorem oth_isi {c : Cl} {b : PV} {μ : Mu} (h : othB c b = true) : isiP μ b (.cls c) = some false := by
  cases b <;> first | rfl | cases h | skip
  rename_i d ys
  have h : subCl d c = false := by simpa [othB] using h
  show some (subCl d c) = some false
  rw [h]
def q_Light : Qf := fun xs b => match xs with
  | [.int m, _] => (match b with
    | .obj .Light [.int n, _] => some (decide (m = n))
    | b => othQ .Light b)
  | _ => none
theorem q_Light_inv {xs : List PV} {b : PV} {k : Bool} (h : q_Light xs b = some k) : (∃ m t n t2, xs = [.int m, t] ∧ b = .obj .Light [.int n, t2] ∧ k = decide (m = n)) ∨ ∃ m t, xs = [.int m, t] ∧ othB .Light b = true ∧ k = false := by
  unfold q_Light at h
  split at h
  · split at h
    · cases h; exact .inl ⟨_, _, _, _, rfl, rfl, rfl⟩
    · exact .inr ⟨_, _, rfl, othQ_inv h⟩
  · cases h
theorem same_Light : SameO .Light q_Light := fun X pins s σ H B μ G xs ys vs k ka J o rx ry h => by
  rcases q_Light_inv h with ⟨m, t, n, t2, rfl, e, rfl⟩ | ⟨m, t, rfl, hb, rfl⟩
  · cases e
    obtain ⟨v, ws, rfl, r1, _⟩ := rx.cons_inv
    obtain ⟨v2, ws2, e, r2, _⟩ := ry.cons_inv
    cases e
    have e1 := r1.int_inv
    have e2 := r2.int_inv
    rw [e1] at e2
    cases e2
    simp
  · cases hb
theorem eqi_Light : ∀ as μ q x, cEq .Light q_Light as μ q x → cEq .Light q_Light as μ q x := fun _ _ _ _ h => h
def QL : Qt := [(.Light, q_Light)]
theorem sameQL : ∀ c f, (c, f) ∈ QL → SameO c f := fun c f h => by
  have : (c, f) = (.Light, q_Light) := by simpa [QL] using h
  cases this
  exact same_Light
def q_Film : Qf := fun xs b => match xs with
  | [.tup a1, .tup a2] => (match b with
    | .obj .Film [.tup b1, .tup b2] => andO (deq QL 10 (.tup a1) (.tup b1)) (deq QL 10 (.tup a2) (.tup b2))
    | b => othQ .Film b)
  | _ => none
theorem q_Film_inv {xs : List PV} {b : PV} {k : Bool} (h : q_Film xs b = some k) : (∃ a1 a2 b1 b2, xs = [.tup a1, .tup a2] ∧ b = .obj .Film [.tup b1, .tup b2] ∧ andO (deq QL 10 (.tup a1) (.tup b1)) (deq QL 10 (.tup a2) (.tup b2)) = some k) ∨ ∃ a1 a2, xs = [.tup a1, .tup a2] ∧ othB .Film b = true ∧ k = false := by
  unfold q_Film at h
  split at h
  · split at h
    · exact .inl ⟨_, _, _, _, rfl, rfl, h⟩
    · exact .inr ⟨_, _, rfl, othQ_inv h⟩
  · cases h
theorem same_and {f g : PV → PV → Option Bool} (hf : Same f) (hg : Same g) {X : Cx} {pins : List (Addr × Obj)} {s : Shared} {σ : L2.St} {H : Hp} {B : BX} {μ : Mu} {G : Hp} {a1 a2 b1 b2 : PV} {v1 v2 : V} {k : Bool} (ka : KA X.K) (J : Inv X pins σ H s) (o : Ok X.K B μ G H) (r1 : Rep X.K B G a1 v1) (q1 : Rep X.K B G b1 v1) (r2 : Rep X.K B G a2 v2) (q2 : Rep X.K B G b2 v2) (h : andO (f a1 b1) (g a2 b2) = some k) : k = true := by
  rcases andO_inv h with ⟨h1, _⟩ | ⟨_, h2⟩
  · exact absurd (hf X pins s σ H B μ G a1 b1 v1 false ka J o r1 q1 h1) (by decide)
  · exact hg X pins s σ H B μ G a2 b2 v2 k ka J o r2 q2 h2
theorem same_Film : SameO .Film q_Film := fun X pins s σ H B μ G xs ys vs k ka J o rx ry h => by
  rcases q_Film_inv h with ⟨a1, a2, b1, b2, rfl, e, h⟩ | ⟨a1, a2, rfl, hb, rfl⟩
  · cases e
    obtain ⟨v, ws, rfl, r1, rx⟩ := rx.cons_inv
    obtain ⟨v2, ws2, e, q1, ry⟩ := ry.cons_inv
    cases e
    obtain ⟨v, ws, rfl, r2, _⟩ := rx.cons_inv
    obtain ⟨v2, ws2, e, q2, _⟩ := ry.cons_inv
    cases e
    exact same_and (same_deq sameQL 10) (same_deq sameQL 10) ka J o r1 q1 r2 q2 h
  · cases hb
theorem eqi_Film : ∀ as μ q x, cEq .Film q_Film as μ q x → cEq .Film q_Film as μ q x := fun _ _ _ _ h => h
theorem deq_eff (a b : Eff) : deq QL 10 a.pv b.pv = some (decide (a = b)) := by
  have h : deq QL 10 a.pv b.pv = andO (some (decide (a.off = b.off))) (andO (some (decide (a.on = b.on))) (andO (some (decide (a.mkd = b.mkd))) (some true))) := rfl
  rw [h]
  obtain ⟨x, y, z⟩ := a
  obtain ⟨x', y', z'⟩ := b
  simp only [Eff.mk.injEq]
  by_cases h1 : x = x' <;> by_cases h2 : y = y' <;> by_cases h3 : z = z' <;> simp [h1, h2, h3, andO]
theorem deq_film (f g : Fm) : q_Film [f.b.pv, f.i.pv] g.pv = some (decide (f = g)) := by
  have h : q_Film [f.b.pv, f.i.pv] g.pv = andO (deq QL 10 f.b.pv g.b.pv) (deq QL 10 f.i.pv g.i.pv) := rfl
  rw [h, deq_eff, deq_eff]
  obtain ⟨x, y⟩ := f
  obtain ⟨x', y'⟩ := g
  simp only [Fm.mk.injEq]
  by_cases h1 : x = x' <;> by_cases h2 : y = y' <;> simp [h1, h2, andO]
end Px
namespace Px
open PySem PySem.Spec PyProof.Rows L2
def One.fm (o : One) : Fm := fOf o.when_ o.off o.on
structure One.Ok (o : One) (cond : Bool) : Prop where
  w : WhenOk cond o.when_
  k : KindOk o.off o.on o.kind
theorem One.Ok.fok {o : One} {c : Bool} (h : o.Ok c) : o.fm.ok := fOf_ok h.k.1 h.k.2.1
theorem One.Ok.fdj {o : One} {c : Bool} (h : o.Ok c) : o.fm.dj := fOf_dj h.k.and
theorem One.fwet (o : One) : o.fm.wet := fOf_wet _ _ _
structure Fm.Gd (f : Fm) : Prop where
  ok : f.ok
  dj : f.dj
  wet : f.wet
theorem Fm.Gd.r {f : Fm} (h : f.Gd) : R6 f.b.off ∧ R6 f.b.on ∧ R6 f.i.off ∧ R6 f.i.on := ⟨h.ok.1.1, h.ok.1.2, h.ok.2.1, h.ok.2.2⟩
theorem One.Ok.gd {o : One} {c : Bool} (h : o.Ok c) : o.fm.Gd := ⟨h.fok, h.fdj, o.fwet⟩
end Px
namespace Px
open PySem PySem.Spec PyProof.Rows L2
end Px
namespace Px
open PySem PySem.Spec PyProof.Rows L2
structure Inc where
  c : Cl
  off : Int
  on : Int
  z : Str
def Inc.pv (i : Inc) : PV := .obj i.c [lt i.off, lt i.on, .str i.z]
structure Inc.Ok (i : Inc) : Prop where
  c : inkC i.c = true
  off : R6 i.off
  on : R6 i.on
def Inc.fm (i : Inc) : Fm := fOf i.z i.off i.on
theorem Inc.Ok.fok {i : Inc} (h : i.Ok) : i.fm.ok := fOf_ok h.off h.on
end Px
namespace Px
open PySem PySem.Spec PyProof.Rows L2
theorem sq_cell {μ : Mu} {a : Addr} {xs : List PV} (e : μ a = some (.lst xs)) : seqOf μ (.cell a) = some (false, xs) := by
  show (match μ a with | some (.lst xs) => some (false, xs) | _ => none) = _
  rw [e]
theorem isLC_cell {μ : Mu} {a : Addr} {xs : List PV} (e : μ a = some (.lst xs)) : isLC μ (.cell a) = true := by
  show (match μ a with | some (.lst _) => true | _ => false) = _
  rw [e]
/-- a drawn one -/
structure One.Dr (o : One) (ns : List PV) (cond sided : Bool) : Prop where
  m : MaskOk ns sided o.mask o.side
  w : WhenOk cond o.when_
  k : KindOk o.off o.on o.kind
theorem One.Dr.ok {o : One} {ns : List PV} {c s : Bool} (h : o.Dr ns c s) : o.Ok c := ⟨h.w, h.k⟩
theorem eqM {a : Option Bool} {f : Bool → Prop} {k : Bool} (e : a = some k) (h : f k) : (match (generalizing := false) a with | some r => f r | none => False) := by
  rw [e]
  exact h
end Px
namespace Px
open PySem PySem.Spec PyProof.Rows L2
def tailT (z : Str) : Str := if z = "any" then "" else " " ++ z
def toldI (off on : Int) (z : Str) : Str := "ink " ++ wordT off ++ " " ++ wordT on ++ tailT z
/-- the written form, by kind -/
def toldK (kind : Str) (off on : Int) (z : Str) : Str := if kind = "ink" then toldI off on z else if kind = "filter" then "filter " ++ wordT off ++ tailT z else kind ++ " " ++ wordT on ++ tailT z
end Px
namespace Px
open PySem PySem.Spec PyProof.Rows L2
def ABC : Str := "abcdefghijklmnopqrstuvwxyz"
def letB (c : Nat) : Bool := decide (c ∈ ABC.cps.toList)
def nameB (z : Str) : Bool := decide (1 ≤ z.length) && (decide (z.length ≤ 6) && z.cps.toList.all letB)
theorem name_len {z : Str} (h : nameB z = true) : 1 ≤ z.length ∧ z.length ≤ 6 := by
  unfold nameB at h
  simp only [Bool.and_eq_true, decide_eq_true_eq] at h
  exact ⟨h.1, h.2.1⟩
def sg (c : Nat) : Str := ⟨#[c]⟩
theorem join_sg : ∀ cs : List Nat, Txt.join ("" : Str) (cs.map sg) = ⟨cs.toArray⟩ := fun cs => by
  rw [TL.join_eq]
  induction cs with
  | nil => rfl
  | cons c cs ih =>
    cases cs with
    | nil => rfl
    | cons d ds =>
      show sg c ++ ("" : Str) ++ Str.join "" ((d :: ds).map sg) = _
      rw [ih]
      have e : ∀ a b : Str, (⟨a.cps ++ b.cps⟩ : Str) = a ++ b := fun _ _ => rfl
      rw [← e, ← e]
      show (⟨(#[c] ++ ("" : Str).cps) ++ (d :: ds).toArray⟩ : Str) = _
      have e2 : (("" : Str).cps) = #[] := rfl
      rw [e2]
      simp
theorem flat_strs' (xs : List Str) : (xs.map PV.str).all flatP = true := by
  rw [List.all_eq_true]
  intro x hx
  obtain ⟨i, _, rfl⟩ := List.mem_map.mp hx
  rfl
theorem inP_str (z : Str) (ns : List Str) : inP (.str z) (ns.map .str) = decide (z ∈ ns) := by
  unfold inP
  induction ns with
  | nil => rfl
  | cons n ns ih =>
    rw [List.map_cons, List.any_cons, ih]
    have : eqF (.str n) (.str z) = (n == z) := rfl
    rw [this]
    by_cases e : n = z
    · subst e; simp
    · have e2 : ¬ z = n := fun y => e y.symm
      simp [e, e2]
def passP (mask ink : PV) (around : Bool) : PV := .obj .Pass [mask, ink, .bl around]
def One.pass (o : One) : PV := passP o.mask (inkOf o.kind o.when_ o.off o.on) o.side
/-- a mask as a pass may have it -/
def MaskP (mask : PV) (side : Bool) : Prop := (mask = .non ∧ side = false) ∨ ∃ z, mask = .str z ∧ nameB z = true
def lineT (mask : PV) (side : Bool) (told : Str) : Str := match mask with
  | .str m => (if side then "around " else "on ") ++ m ++ " " ++ told
  | _ => "all " ++ told
/-- what of a one a pass's == looks at -/
def One.key (o : One) : PV × Bool × Int × Int × Str := (o.mask, o.side, o.off, o.on, o.when_)
theorem sub_len {α : Type} [DecidableEq α] : ∀ (l D : List α), l.Nodup → (∀ x ∈ l, x ∈ D) → l.length ≤ D.length
  | [], D, _, _ => Nat.zero_le _
  | x :: l, D, nd, h => by
    obtain ⟨n1, n2⟩ := List.nodup_cons.mp nd
    have hx := h x List.mem_cons_self
    have ih := sub_len l (D.erase x) n2 fun y hy => (List.mem_erase_of_ne (show y ≠ x from fun e => n1 (by rw [← e]; exact hy))).mpr (h y (List.mem_cons_of_mem _ hy))
    rw [List.length_erase_of_mem hx] at ih
    have : 0 < D.length := List.length_pos_of_mem hx
    rw [List.length_cons]
    omega
def words9 : List Str := ["qa", "b", "zeb", "mo", "aq", "xylox", "ba", "k", "mm"]
theorem words_name : words9.all nameB = true := by decide +kernel
theorem words_nodup : words9.Nodup := by decide +kernel
/-- a word that is no name yet -/
theorem words_left {ns : List Str} (h : ns.length ≤ 8) : ∃ w ws, words9.filter (fun w => !decide (w ∈ ns)) = w :: ws ∧ nameB w = true ∧ w ∉ ns := by
  cases e : words9.filter (fun w => !decide (w ∈ ns)) with
  | nil =>
    have := sub_len words9 ns words_nodup fun x hx => by
      have := List.filter_eq_nil_iff.mp e x hx
      simpa using this
    have l9 : words9.length = 9 := rfl
    omega
  | cons w ws =>
    have hw : w ∈ words9.filter (fun w => !decide (w ∈ ns)) := by rw [e]; exact List.mem_cons_self
    obtain ⟨h1, h2⟩ := List.mem_filter.mp hw
    exact ⟨w, ws, rfl, List.all_eq_true.mp words_name w h1, by simpa using h2⟩
theorem MaskOk.p {ns : List Str} {sided : Bool} {mask : PV} {side : Bool} (hn : ∀ z ∈ ns, nameB z = true) (h : MaskOk (ns.map .str) sided mask side) : MaskP mask side := by
  rcases h with ⟨h1, h2⟩ | ⟨h1, _⟩
  · exact .inl ⟨h1, h2⟩
  · obtain ⟨z, hz, rfl⟩ := List.mem_map.mp h1
    exact .inr ⟨z, rfl, hn z hz⟩
/-- a one whose pass can be made -/
structure One.Pk (o : One) : Prop where
  m : MaskP o.mask o.side
  w : takesB o.when_ = true
  k : KindOk o.off o.on o.kind
end Px
namespace Px
open PySem PySem.Spec PyProof.Rows L2
def t__law_name_1 : ZB := bOne (sRet (zJoin (zStr "") (zLst (zComp (.one 2) [2] (iRg1 (zVar 1)) tsNil (zIdx (zStr "abcdefghijklmnopqrstuvwxyz") (zCall 48 (zCons (zVar 0) (zCons (zInt 26) zNil))))))))
def t__law_name_0 : ZB := bCons (sSet 1 (zBin .Add (zInt 1) (zCall 48 (zCons (zVar 0) (zCons (zInt 6) zNil))))) t__law_name_1
def c__law_name : Ct := fun as μ q _ => match as with
  | [.box] => ∀ z : Str, nameB z = true → q (.str z) μ
  | _ => False
theorem len__law_name : ∀ as μ q z, c__law_name as μ q z → as.length = 1 := fun as μ q z h => by
  unfold c__law_name at h
  split at h <;> first | rfl | exact h.elim
def L__law_name : Tbl := [(.g 48 [], cDraw)]
def H__law_name : Tbl := []
def Q__law_name : Qt := []
def R__law_name : Rt := { L := L__law_name, LH := H__law_name, Q := Q__law_name }
theorem name_draw {q : List PV → Mu → Prop} {μ : Mu} {s1 s2 : Option PV} : ∀ (ys : List PV) (cs : List Nat), cs.all letB = true → (∀ cs' : List Nat, cs'.length = cs.length + ys.length → cs'.all letB = true → q ((cs'.map sg).map .str) μ) → Lk (lcD (.one 2) [2] (tsNil.d R__law_name) ((zIdx (zStr "abcdefghijklmnopqrstuvwxyz") (zCall 48 (zCons (zVar 0) (zCons (zInt 26) zNil)))).d R__law_name) [some .box, s1, s2] q ys ((cs.map sg).map .str) μ)
  | [], cs, hc, h => lcD_n rfl (h cs rfl hc)
  | y :: ys, cs, hc, h => by
    refine lcD_c rfl ?_
    (conv => whnf); (repeat (first | (refine brT rfl ?_; (conv => whnf)) | (refine brF rfl ?_; (conv => whnf)) | (refine And.intro rfl ?_; (conv => whnf)) | (refine And.intro (Nat.le_of_ble_eq_true rfl) ?_; (conv => whnf)) | (refine And.intro (by assumption) ?_; (conv => whnf)) | (refine And.intro (by decide) ?_; (conv => whnf))))
    refine draw_of (by omega) (by omega) fun r r0 r1 => ?_
    obtain ⟨j, rfl⟩ := Int.eq_ofNat_of_zero_le r0
    have hj : j < ABC.cps.toList.length := by
      have : ABC.cps.toList.length = 26 := rfl
      omega
    have ea : atI ABC.cps.toList (j : Int) = some ABC.cps.toList[j] := atI_nat (List.getElem?_eq_getElem hj)
    have hl : letB ABC.cps.toList[j] = true := decide_eq_true (List.getElem_mem hj)
    generalize ABC.cps.toList[j] = c at ea hl
    have ea : atI (Str.ofString "abcdefghijklmnopqrstuvwxyz").cps.toList (j : Int) = some c := ea
    (conv => whnf); (repeat (first | (refine brT rfl ?_; (conv => whnf)) | (refine brF rfl ?_; (conv => whnf)) | (refine And.intro rfl ?_; (conv => whnf)) | (refine And.intro (Nat.le_of_ble_eq_true rfl) ?_; (conv => whnf)) | (refine And.intro (by assumption) ?_; (conv => whnf)) | (refine And.intro (by decide) ?_; (conv => whnf))))
    rw [ea]
    have e : (cs.map sg).map PV.str ++ [.str ⟨#[c]⟩] = ((cs ++ [c]).map sg).map PV.str := by rw [List.map_append, List.map_append] <;> rfl
    (conv => whnf); (repeat (first | (refine brT rfl ?_; (conv => whnf)) | (refine brF rfl ?_; (conv => whnf)) | (refine And.intro rfl ?_; (conv => whnf)) | (refine And.intro (Nat.le_of_ble_eq_true rfl) ?_; (conv => whnf)) | (refine And.intro (by assumption) ?_; (conv => whnf)) | (refine And.intro (by decide) ?_; (conv => whnf))))
    rw [e]
    refine name_draw (s2 := s2) ys _ (by rw [List.all_append, hc]; simp [hl]) fun cs' hl' hc' => h cs' ?_ hc'
    rw [hl', List.length_append, List.length_cons, List.length_cons, List.length_nil]
    omega
theorem pure__law_name : ∀ as μ q z, c__law_name as μ q z → t__law_name_0.d R__law_name (endsOf q z) (startE 3 as) μ := fun as μ q z h => by
  unfold c__law_name at h
  split at h
  · (conv => whnf); (repeat (first | (refine brT rfl ?_; (conv => whnf)) | (refine brF rfl ?_; (conv => whnf)) | (refine And.intro rfl ?_; (conv => whnf)) | (refine And.intro (Nat.le_of_ble_eq_true rfl) ?_; (conv => whnf)) | (refine And.intro (by assumption) ?_; (conv => whnf)) | (refine And.intro (by decide) ?_; (conv => whnf))))
    refine draw_of (by omega) (by omega) fun n n0 n1 => ?_
    (conv => whnf); (repeat (first | (refine brT rfl ?_; (conv => whnf)) | (refine brF rfl ?_; (conv => whnf)) | (refine And.intro rfl ?_; (conv => whnf)) | (refine And.intro (Nat.le_of_ble_eq_true rfl) ?_; (conv => whnf)) | (refine And.intro (by assumption) ?_; (conv => whnf)) | (refine And.intro (by decide) ?_; (conv => whnf))))
    refine ⟨by omega, by omega, ?_⟩
    have lr : (rangeP 0 (1 + n).toNat).length = (1 + n).toNat := rangeP_len _ _
    refine ⟨by rw [lr, sizeLine_eq]; omega, ?_⟩
    refine name_draw (s2 := none) _ [] rfl fun cs hl hc => ?_
    rw [lr, List.length_nil, Nat.zero_add] at hl
    (conv => whnf); (repeat (first | (refine brT rfl ?_; (conv => whnf)) | (refine brF rfl ?_; (conv => whnf)) | (refine And.intro rfl ?_; (conv => whnf)) | (refine And.intro (Nat.le_of_ble_eq_true rfl) ?_; (conv => whnf)) | (refine And.intro (by assumption) ?_; (conv => whnf)) | (refine And.intro (by decide) ?_; (conv => whnf))))
    have hs : ((cs.map sg).map (·.length)).sum = cs.length := by
      clear hl hc
      induction cs with
      | nil => rfl
      | cons c cs ih =>
        rw [List.map_cons, List.map_cons, List.sum_cons, ih, List.length_cons]
        show 1 + cs.length = cs.length + 1
        omega
    refine ⟨cs.map sg, rfl, ?_, ?_⟩
    · rw [hs]
      have : (Str.ofString "").length = 0 := rfl
      rw [this]
      omega
    · rw [join_sg]
      refine h _ ?_
      unfold nameB
      have e1 : (⟨cs.toArray⟩ : Str).length = cs.length := by
        show cs.toArray.size = _
        simp
      rw [e1]
      simp only [Bool.and_eq_true, decide_eq_true_eq]
      exact ⟨by omega, by omega, by simpa using hc⟩
  · exact h.elim
end Px
namespace Px
open PySem PySem.Spec PyProof.Rows L2
def f__law_names_v3_0 : ZB := (bCons (sSet 4 (zCall 114 (zCons (zVar 0) zNil)))
  (bCons (sIf (tCmp .In (zVar 4) (zVar 2)) (bOne (sSet 4 (zIdx (zLst (zComp (.one 5) [5] (iSq (zLst (zDisp (zCons (zStr "qa") (zCons (zStr "b") (zCons (zStr "zeb") (zCons (zStr "mo") (zCons (zStr "aq") (zCons (zStr "xylox") (zCons (zStr "ba") (zCons (zStr "k") (zCons (zStr "mm") zNil)))))))))))) (tsOne (tCmp .NotIn (zVar 5) (zVar 2))) (zVar 5))) (zInt 0)))) bNil)
  (bOne (sExpr (zApp (zVar 2) (zVar 4))))))
def t__law_names_v3_2 : ZB := bOne (sRet (zFrz (zVar 2)))
def t__law_names_v3_1 : ZB := bCons (sFor (.one 3) (iRg1 (zVar 1)) f__law_names_v3_0) t__law_names_v3_2
def t__law_names_v3_0 : ZB := bCons (sSet 2 (zNew (zDisp zNil))) t__law_names_v3_1
def c__law_names_v3 : Ct := fun as μ q _ => match as with
  | [.box, .int many] => 0 ≤ many ∧ many ≤ 9 ∧ ∀ ns : List Str, (ns.length : Int) = many → (∀ z ∈ ns, nameB z = true) → ns.Nodup → q (.lst (ns.map .str)) μ
  | _ => False
theorem len__law_names_v3 : ∀ as μ q z, c__law_names_v3 as μ q z → as.length = 2 := fun as μ q z h => by
  unfold c__law_names_v3 at h
  split at h <;> first | rfl | exact h.elim
def L__law_names_v3 : Tbl := [(.g 114 [], c__law_name)]
def H__law_names_v3 : Tbl := []
def Q__law_names_v3 : Qt := []
def R__law_names_v3 : Rt := { L := L__law_names_v3, LH := H__law_names_v3, Q := Q__law_names_v3 }
theorem names_loop {μ : Mu} {P : DEn} {many : Int} (hm : many ≤ 9) {a : Addr} (h : ∀ (ns : List Str) s3 s4 s5, (ns.length : Int) = many → (∀ z ∈ ns, nameB z = true) → ns.Nodup → P.nx [some .box, some (.int many), some (.cell a), s3, s4, s5] (μ.put a (.lst (ns.map .str)))) :
    ∀ (ys : List PV) (ns : List Str) (s3 s4 s5 : Option PV), (ns.length : Int) + ys.length = many → (∀ z ∈ ns, nameB z = true) → ns.Nodup → Lk (forD (.one 3) (f__law_names_v3_0.d R__law_names_v3) ys P [some .box, some (.int many), some (.cell a), s3, s4, s5] (μ.put a (.lst (ns.map .str))))
  | [], ns, s3, s4, s5, hl, h1, h2 => forD_n rfl (h ns _ _ _ (by simpa using hl) h1 h2)
  | y :: ys, ns, s3, s4, s5, hl, h1, h2 => by
    have ih := fun (s4 s5 : Option PV) (z : Str) (hz : nameB z = true) (hn : z ∉ ns) => names_loop hm h ys (ns ++ [z]) (some y) s4 s5 (by rw [List.length_append]; simp only [List.length_cons, List.length_nil] at hl ⊢; omega) (fun p hp => (List.mem_append.mp hp).elim (h1 p) fun hp => by rw [List.mem_singleton.mp hp]; exact hz) (by
      rw [List.nodup_append]
      exact ⟨h2, by simp, fun x hx y hy e => hn (by rw [List.mem_singleton.mp hy] at e; exact e ▸ hx)⟩)
    have hs : (ns.map PV.str).length < sizeLine := by
      rw [List.length_map, sizeLine_eq]
      simp only [List.length_cons] at hl
      omega
    have e1 : ∀ z : Str, ns.map PV.str ++ [.str z] = (ns ++ [z]).map PV.str := fun z => by rw [List.map_append] <;> rfl
    have fl := flat_strs' ns
    refine forD_c rfl ?_
    (conv => whnf); (repeat (first | (refine brT rfl ?_; (conv => whnf)) | (refine brF rfl ?_; (conv => whnf)) | (refine And.intro rfl ?_; (conv => whnf)) | (refine And.intro (Nat.le_of_ble_eq_true rfl) ?_; (conv => whnf)) | (refine And.intro (by assumption) ?_; (conv => whnf)) | (refine And.intro (by decide) ?_; (conv => whnf))))
    intro z hz
    (conv => whnf); (repeat (first | (refine brT rfl ?_; (conv => whnf)) | (refine brF rfl ?_; (conv => whnf)) | (refine And.intro rfl ?_; (conv => whnf)) | (refine And.intro (Nat.le_of_ble_eq_true rfl) ?_; (conv => whnf)) | (refine And.intro (by assumption) ?_; (conv => whnf)) | (refine And.intro (by decide) ?_; (conv => whnf))))
    rw [show ∀ xs, seqM (Mu.put μ a (Cell.lst xs)) (PV.cell a) = some (false, xs) from fun xs => sq_cell (Mu.put_same _ _ _)]
    (conv => whnf); (repeat (first | (refine brT rfl ?_; (conv => whnf)) | (refine brF rfl ?_; (conv => whnf)) | (refine And.intro rfl ?_; (conv => whnf)) | (refine And.intro (Nat.le_of_ble_eq_true rfl) ?_; (conv => whnf)) | (refine And.intro (by assumption) ?_; (conv => whnf)) | (refine And.intro (by decide) ?_; (conv => whnf)) | (refine br_nself ?_; (conv => whnf)) | (refine br_self ?_; (conv => whnf)) | (refine brT (decide_eq_true (by assumption)) ?_; (conv => whnf)) | (refine brT (by assumption) ?_; (conv => whnf)) | (refine brF (by assumption) ?_; (conv => whnf))))
    have ei := inP_str z ns
    refine br_of (fun e => ?_) fun e => ?_
    · obtain ⟨w, ws, ew, hw, hnw⟩ := words_left (ns := ns) (by simp only [List.length_cons] at hl; omega)
      (conv => whnf); (repeat (first | (refine brT rfl ?_; (conv => whnf)) | (refine brF rfl ?_; (conv => whnf)) | (refine And.intro rfl ?_; (conv => whnf)) | (refine And.intro (Nat.le_of_ble_eq_true rfl) ?_; (conv => whnf)) | (refine And.intro (by assumption) ?_; (conv => whnf)) | (refine And.intro (by decide) ?_; (conv => whnf))))
      refine lcD_one (fun p => match p with | .str w => !decide (w ∈ ns) | _ => false) id _ _ (fun x hx k hk => ?_) (fun x hx _ k hk => ?_) ?_
      · have hx : x ∈ words9.map PV.str := hx
        obtain ⟨v, _, rfl⟩ := List.mem_map.mp hx
        (conv => whnf); (repeat (first | (refine brT rfl ?_; (conv => whnf)) | (refine brF rfl ?_; (conv => whnf)) | (refine And.intro rfl ?_; (conv => whnf)) | (refine And.intro (Nat.le_of_ble_eq_true rfl) ?_; (conv => whnf)) | (refine And.intro (by assumption) ?_; (conv => whnf)) | (refine And.intro (by decide) ?_; (conv => whnf))))
        rw [show ∀ xs, seqM (Mu.put μ a (Cell.lst xs)) (PV.cell a) = some (false, xs) from fun xs => sq_cell (Mu.put_same _ _ _)]
        (conv => whnf); (repeat (first | (refine brT rfl ?_; (conv => whnf)) | (refine brF rfl ?_; (conv => whnf)) | (refine And.intro rfl ?_; (conv => whnf)) | (refine And.intro (Nat.le_of_ble_eq_true rfl) ?_; (conv => whnf)) | (refine And.intro (by assumption) ?_; (conv => whnf)) | (refine And.intro (by decide) ?_; (conv => whnf)) | (refine br_nself ?_; (conv => whnf)) | (refine br_self ?_; (conv => whnf)) | (refine brT (decide_eq_true (by assumption)) ?_; (conv => whnf)) | (refine brT (by assumption) ?_; (conv => whnf)) | (refine brF (by assumption) ?_; (conv => whnf))))
        rw [inP_str]
        exact hk
      · have hx : x ∈ words9.map PV.str := hx
        obtain ⟨v, _, rfl⟩ := List.mem_map.mp hx
        exact hk
      · have e2 : (List.filter (fun p => match p with | .str w => !decide (w ∈ ns) | _ => false) (words9.map PV.str)).map id = (w :: ws).map PV.str := by
          rw [List.filter_map, List.map_id, ← ew]
          rfl
        have e2 : [] ++ (List.filter (fun p => match p with | .str w => !decide (w ∈ ns) | _ => false) [PV.str "qa", PV.str "b", PV.str "zeb", PV.str "mo", PV.str "aq", PV.str "xylox", PV.str "ba", PV.str "k", PV.str "mm"]).map id = (w :: ws).map PV.str := e2
        rw [e2]
        (conv => whnf); (repeat (first | (refine brT rfl ?_; (conv => whnf)) | (refine brF rfl ?_; (conv => whnf)) | (refine And.intro rfl ?_; (conv => whnf)) | (refine And.intro (Nat.le_of_ble_eq_true rfl) ?_; (conv => whnf)) | (refine And.intro (by assumption) ?_; (conv => whnf)) | (refine And.intro (by decide) ?_; (conv => whnf))))
        rw [show atI (List.map PV.str (w :: ws)) 0 = some (.str w) from atI_nat (j := 0) rfl]
        (conv => whnf); (repeat (first | (refine brT rfl ?_; (conv => whnf)) | (refine brF rfl ?_; (conv => whnf)) | (refine And.intro rfl ?_; (conv => whnf)) | (refine And.intro (Nat.le_of_ble_eq_true rfl) ?_; (conv => whnf)) | (refine And.intro (by assumption) ?_; (conv => whnf)) | (refine And.intro (by decide) ?_; (conv => whnf))))
        refine brT (isLC_cell (Mu.put_same _ _ _)) ?_
        (conv => whnf); (repeat (first | (refine brT rfl ?_; (conv => whnf)) | (refine brF rfl ?_; (conv => whnf)) | (refine And.intro rfl ?_; (conv => whnf)) | (refine And.intro (Nat.le_of_ble_eq_true rfl) ?_; (conv => whnf)) | (refine And.intro (by assumption) ?_; (conv => whnf)) | (refine And.intro (by decide) ?_; (conv => whnf))))
        rw [Mu.put_same]
        refine ⟨hs, ?_⟩
        (conv => whnf); (repeat (first | (refine brT rfl ?_; (conv => whnf)) | (refine brF rfl ?_; (conv => whnf)) | (refine And.intro rfl ?_; (conv => whnf)) | (refine And.intro (Nat.le_of_ble_eq_true rfl) ?_; (conv => whnf)) | (refine And.intro (by assumption) ?_; (conv => whnf)) | (refine And.intro (by decide) ?_; (conv => whnf))))
        rw [Mu.put_put, e1]
        exact ih _ _ w hw hnw
    · have hn : z ∉ ns := by
        have e : sgn false (inP (.str z) (ns.map .str)) = false := e
        rw [ei] at e
        simpa [sgn] using e
      (conv => whnf); (repeat (first | (refine brT rfl ?_; (conv => whnf)) | (refine brF rfl ?_; (conv => whnf)) | (refine And.intro rfl ?_; (conv => whnf)) | (refine And.intro (Nat.le_of_ble_eq_true rfl) ?_; (conv => whnf)) | (refine And.intro (by assumption) ?_; (conv => whnf)) | (refine And.intro (by decide) ?_; (conv => whnf))))
      refine brT (isLC_cell (Mu.put_same _ _ _)) ?_
      (conv => whnf); (repeat (first | (refine brT rfl ?_; (conv => whnf)) | (refine brF rfl ?_; (conv => whnf)) | (refine And.intro rfl ?_; (conv => whnf)) | (refine And.intro (Nat.le_of_ble_eq_true rfl) ?_; (conv => whnf)) | (refine And.intro (by assumption) ?_; (conv => whnf)) | (refine And.intro (by decide) ?_; (conv => whnf))))
      rw [Mu.put_same]
      refine ⟨hs, ?_⟩
      (conv => whnf); (repeat (first | (refine brT rfl ?_; (conv => whnf)) | (refine brF rfl ?_; (conv => whnf)) | (refine And.intro rfl ?_; (conv => whnf)) | (refine And.intro (Nat.le_of_ble_eq_true rfl) ?_; (conv => whnf)) | (refine And.intro (by assumption) ?_; (conv => whnf)) | (refine And.intro (by decide) ?_; (conv => whnf))))
      rw [Mu.put_put, e1]
      exact ih _ _ z hz hn
theorem pure__law_names_v3 : ∀ as μ q z, c__law_names_v3 as μ q z → t__law_names_v3_0.d R__law_names_v3 (endsOf q z) (startE 6 as) μ := fun as μ q z h => by
  unfold c__law_names_v3 at h
  split at h
  · rename_i many
    obtain ⟨m0, m1, h⟩ := h
    (conv => whnf); (repeat (first | (refine brT rfl ?_; (conv => whnf)) | (refine brF rfl ?_; (conv => whnf)) | (refine And.intro rfl ?_; (conv => whnf)) | (refine And.intro (Nat.le_of_ble_eq_true rfl) ?_; (conv => whnf)) | (refine And.intro (by assumption) ?_; (conv => whnf)) | (refine And.intro (by decide) ?_; (conv => whnf))))
    intro a ha
    (conv => whnf); (repeat (first | (refine brT rfl ?_; (conv => whnf)) | (refine brF rfl ?_; (conv => whnf)) | (refine And.intro rfl ?_; (conv => whnf)) | (refine And.intro (Nat.le_of_ble_eq_true rfl) ?_; (conv => whnf)) | (refine And.intro (by assumption) ?_; (conv => whnf)) | (refine And.intro (by decide) ?_; (conv => whnf))))
    refine ⟨by omega, by omega, ?_⟩
    have lr : (rangeP 0 many.toNat).length = many.toNat := rangeP_len _ _
    refine names_loop m1 (fun ns s3 s4 s5 hl h1 h2 => ?_) _ [] _ _ _ (by rw [lr]; simp only [List.length_nil]; omega) (fun o ho => by cases ho) (by simp)
    (conv => whnf); (repeat (first | (refine brT rfl ?_; (conv => whnf)) | (refine brF rfl ?_; (conv => whnf)) | (refine And.intro rfl ?_; (conv => whnf)) | (refine And.intro (Nat.le_of_ble_eq_true rfl) ?_; (conv => whnf)) | (refine And.intro (by assumption) ?_; (conv => whnf)) | (refine And.intro (by decide) ?_; (conv => whnf))))
    rw [Mu.put_same]
    (conv => whnf); (repeat (first | (refine brT rfl ?_; (conv => whnf)) | (refine brF rfl ?_; (conv => whnf)) | (refine And.intro rfl ?_; (conv => whnf)) | (refine And.intro (Nat.le_of_ble_eq_true rfl) ?_; (conv => whnf)) | (refine And.intro (by assumption) ?_; (conv => whnf)) | (refine And.intro (by decide) ?_; (conv => whnf))))
    rw [Mu.del_put, Mu.del_none ha]
    exact h ns hl h1 h2
  · exact h.elim
end Px
namespace Px
open PySem PySem.Spec PyProof.Rows L2
def maskS : PV → Option Str
  | .obj .Pass [.str z, _, _] => some z
  | _ => none
def masksP (xs : List PV) : List Str := sortU (xs.filterMap maskS)
def rowP (xs : List PV) : PV := .obj .Row [.tup xs, .tup ((masksP xs).map .str)]
def One.mk? (o : One) : Option Str := match o.mask with
  | .str z => some z
  | _ => none
def masksO (os : List One) : List Str := sortU (os.filterMap One.mk?)
def fresh (l : List Str) (j : Nat) : Bool := decide (j = 0) || !decide (l[j - 1]? = l[j]?)
def f2 (l : List Str) (p : PV) : Bool := match p with
  | .int i => fresh l i.toNat
  | _ => false
def g2 (l : List Str) (p : PV) : PV := match p with
  | .int i => .str ((l[i.toNat]?).getD Str.empty)
  | _ => .non
end Px
namespace Px
open PySem PySem.Spec PyProof.Rows L2
def rowO (os : List One) : PV := rowP (os.map One.pass)
/-- the pass of a one -/
def gP (p : PV) : PV := match p with
  | .tup [mask, .bl side, .str z, .int a, .int b, .str k] => passP mask (inkOf k z a b) side
  | _ => .non
/-- the first five of a one -/
def g5 (p : PV) : PV := match p with
  | .tup [a, b, c, d, e, _] => .tup [a, b, c, d, e]
  | _ => .non
end Px
namespace Px
open PySem PySem.Spec PyProof.Rows L2
end Px
namespace Px
open PySem PySem.Spec PyProof.Rows L2
theorem sIx_in {n d : Nat} {r : Int} (h0 : 0 ≤ r) (h1 : r ≤ n) : HT.sIx n d (some r) = r.toNat := by
  unfold HT.sIx
  simp only
  first | omega | (split <;> omega)
end Px
namespace Px
open PySem PySem.Spec PyProof.Rows L2
end Px
namespace Px
open PySem PySem.Spec PyProof.Rows L2
end Px
namespace Px
open PySem PySem.Spec PyProof.Rows L2
end Px
namespace Px
open PySem PySem.Spec PyProof.Rows L2
end Px
namespace Px
open PySem PySem.Spec PyProof.Rows L2
end Px
namespace Px
open PySem PySem.Spec PyProof.Rows L2
end Px
namespace Px
open PySem PySem.Spec PyProof.Rows L2
end Px
namespace Px
open PySem PySem.Spec PyProof.Rows L2
end Px
namespace Px
open PySem PySem.Spec PyProof.Rows L2
end Px
namespace Px
open PySem PySem.Spec PyProof.Rows L2
theorem sortL_nd {l : List Str} (h : l.Nodup) : sortL l = sortU l := by
  have hp := sortL_perm l
  refine sortU_of ?_ fun x => hp.mem_iff
  have hr := sortL_ri l
  have nd : (sortL l).Nodup := hp.nodup_iff.mpr h
  refine List.Pairwise.imp₂ (R := fun x y => ltT y x = false) (S := fun x y => x ≠ y) (fun x y h1 h2 => ?_) hr nd
  cases e : ltT x y with
  | true => rfl
  | false => exact absurd (ltT_tri e h1) h2
end Px
namespace Px
open PySem PySem.Spec PyProof.Rows L2
end Px
namespace Px
open PySem PySem.Spec PyProof.Rows L2
end Px
namespace Px
open PySem PySem.Spec PyProof.Rows L2
end Px
namespace Px
open PySem PySem.Spec PyProof.Rows L2
end Px
namespace Px
open PySem PySem.Spec PyProof.Rows L2
end Px
namespace Px
open PySem PySem.Spec PyProof.Rows L2
end Px
namespace Px
open PySem PySem.Spec PyProof.Rows L2
end Px
namespace Px
open PySem PySem.Spec PyProof.Rows L2
end Px
namespace Px
open PySem PySem.Spec PyProof.Rows L2
inductive DV where
  | k (ks : List Key) (xs : List PV)
  | t (ks : List (List Key)) (xs : List PV)
end Px
namespace Px
open PySem PySem.Spec PyProof.Rows L2
end Px
namespace Px
open PySem PySem.Spec PyProof.Rows L2
section
variable {α : Type}
/-- what the hidden thing is, told by its state -/
structure AccR (K : Frg) (α : Type) where
  ok : BX → Hp → α → HO → Prop
  mono : ∀ {B : BX} {G G' : Hp} {a : α} {u : HO}, Sub G G' → ok B G a u → ok B G' a u
  nt : ∀ {B : BX} {G : Hp} {a : α} {u : HO}, ok B G a u → NT u
  ntu : ∀ {B : BX} {G : Hp} {a : α} {u : HO}, ok B G a u → ∀ xs, u ≠ .tup xs
/-- a step from (μ0, G0, H0), where D was free; nobody was told of D -/
structure Hid (K : Frg) (B : BX) (Ac : AccR K α) (μ0 : Mu) (G0 H0 : Hp) (D : Addr) (a : α) (μ : Mu) (G H : Hp) : Prop where
  g : Go K B μ0 G0 H0 μ G H
  d0 : H0 D = none
  gD : G D = none
  mD : μ D = none
  nb : ¬ isB B D
  hD : ∃ u, H D = some u ∧ Ac.ok B G a u
variable {K : Frg} {B : BX} {Ac : AccR K α} {μ0 μ μ1 : Mu} {G0 H0 G H G1 H1 : Hp} {D : Addr} {a a' : α}
theorem Hid.step (h : Hid K B Ac μ0 G0 H0 D a μ G H) (g : Go K B μ G H μ1 G1 H1) : Hid K B Ac μ0 G0 H0 D a μ1 G1 H1 := by
  obtain ⟨u, e, c⟩ := h.hD
  obtain ⟨x1, x2, x3⟩ := g.hid h.gD h.mD e h.nb (Ac.nt c) (Ac.ntu c)
  exact ⟨h.g.trans g, h.d0, x1, x2, h.nb, u, x3, Ac.mono g.gx c⟩
theorem Hid.put (h : Hid K B Ac μ0 G0 H0 D a μ G H) {u : HO} (c : Ac.ok B G a' u) : Hid K B Ac μ0 G0 H0 D a' μ G (upd H D u) := by
  obtain ⟨u0, e, c0⟩ := h.hD
  have ok5 : Ok K B μ G (upd H D u) := h.g.ok.mut e h.gD h.mD h.nb (Ac.nt c0)
  refine ⟨⟨ok5, ⟨h.g.st.gx, fun x k => ?_, fun x o k nb mm nt => ?_, h.g.st.new, h.g.st.cel⟩⟩, h.d0, h.gD, h.mD, h.nb, u, upd_same, c⟩
  · by_cases z : x = D
    · subst z; exact h.d0
    · rw [upd_ne z] at k; exact h.g.st.dom x k
  · rw [upd_ne (ne_of_none k h.d0)]
    exact h.g.st.keep x o k nb mm nt
theorem Hid.rel (h : Hid K B Ac μ0 G0 H0 D a μ G H) {ρ : En} {σ : L2.St} {G2 H2 : Hp} {μ2 : Mu} (R : Rel K B ρ μ2 σ G2 H2) (s : G2 = G) (m : μ2 = μ) : Rel K B ρ μ σ G H := by
  subst s m
  exact ⟨h.g.ok, R.len, R.at_⟩
end
def DV.pv : DV → PV
  | .k ks xs => .dK ks xs
  | .t ks xs => .dT ks xs
def DV.cell : DV → Cell
  | .k ks xs => .dK ks xs
  | .t ks xs => .dT ks xs
end Px
namespace Px
open PySem PySem.Spec PyProof.Rows L2
end Px
namespace Px
open PySem PySem.Spec PyProof.Rows L2
end Px
namespace Px
open PySem PySem.Spec PyProof.Rows L2
end Px
namespace Px
open PySem PySem.Spec PyProof.Rows L2
inductive Tree where
  | leaf (f : Fm)
  | fork (m : Str) (s o : Tree)
  deriving DecidableEq
def Tree.fs : Tree → List PV
  | .leaf f => [.non, f.pv, .non, .non]
  | .fork m s o => [.str m, .non, .obj .Chart s.fs, .obj .Chart o.fs]
def Tree.pv (t : Tree) : PV := .obj .Chart t.fs
def Tree.dep : Tree → Nat
  | .leaf _ => 0
  | .fork _ s o => max s.dep o.dep + 1
def Tree.at_ : Tree → List Str → Fm
  | .leaf f, _ => f
  | .fork m s o, ns => if m ∈ ns then o.at_ ns else s.at_ ns
def qn_Chart : Nat → Qf
  | 0 => fun _ _ => none
  | n + 1 => fun xs b => match xs with
    | [.non, .obj .Film l, _, _] => (match b with
      | .obj .Chart [.non, .obj .Film l2, _, _] => q_Film l (.obj .Film l2)
      | .obj .Chart [.str _, _, _, _] => some false
      | b => othQ .Chart b)
    | [.str m, _, .obj .Chart s, .obj .Chart o] => (match b with
      | .obj .Chart [.str m2, _, .obj .Chart s2, .obj .Chart o2] => (match decide (m = m2) with
        | true => andO (qn_Chart n s (.obj .Chart s2)) (qn_Chart n o (.obj .Chart o2))
        | false => some false)
      | .obj .Chart [.non, _, _, _] => some false
      | b => othQ .Chart b)
    | _ => none
def qp_Chart : Nat → Qf
  | 0 => fun _ _ => none
  | n + 1 => qn_Chart n
abbrev q_Chart : Qf := qn_Chart 12
theorem q_Chart_inv {n : Nat} {xs : List PV} {b : PV} {k : Bool} (h : qn_Chart (n + 1) xs b = some k) :
    (∃ l x y l2 x2 y2, xs = [.non, .obj .Film l, x, y] ∧ b = .obj .Chart [.non, .obj .Film l2, x2, y2] ∧ q_Film l (.obj .Film l2) = some k) ∨
    (∃ l x y m a b' c, xs = [.non, .obj .Film l, x, y] ∧ b = .obj .Chart [.str m, a, b', c] ∧ k = false) ∨
    (∃ l x y, xs = [.non, .obj .Film l, x, y] ∧ othB .Chart b = true ∧ k = false) ∨
    (∃ m x s o m2 x2 s2 o2, xs = [.str m, x, .obj .Chart s, .obj .Chart o] ∧ b = .obj .Chart [.str m2, x2, .obj .Chart s2, .obj .Chart o2] ∧ ((m = m2 ∧ andO (qn_Chart n s (.obj .Chart s2)) (qn_Chart n o (.obj .Chart o2)) = some k) ∨ (m ≠ m2 ∧ k = false))) ∨
    (∃ m x s o a b' c, xs = [.str m, x, .obj .Chart s, .obj .Chart o] ∧ b = .obj .Chart [.non, a, b', c] ∧ k = false) ∨
    (∃ m x s o, xs = [.str m, x, .obj .Chart s, .obj .Chart o] ∧ othB .Chart b = true ∧ k = false) := by
  unfold qn_Chart at h
  split at h
  · split at h
    · exact .inl ⟨_, _, _, _, _, _, rfl, rfl, h⟩
    · cases h; exact .inr (.inl ⟨_, _, _, _, _, _, _, rfl, rfl, rfl⟩)
    · obtain ⟨h1, h2⟩ := othQ_inv h
      exact .inr (.inr (.inl ⟨_, _, _, rfl, h1, h2⟩))
  · split at h
    · rename_i m x s o b m2 x2 s2 o2
      refine .inr (.inr (.inr (.inl ⟨_, _, _, _, _, _, _, _, rfl, rfl, ?_⟩)))
      by_cases e : m = m2
      · rw [decide_eq_true e] at h
        exact .inl ⟨e, h⟩
      · rw [decide_eq_false e] at h
        cases h
        exact .inr ⟨e, rfl⟩
    · cases h; exact .inr (.inr (.inr (.inr (.inl ⟨_, _, _, _, _, _, _, rfl, rfl, rfl⟩))))
    · obtain ⟨h1, h2⟩ := othQ_inv h
      exact .inr (.inr (.inr (.inr (.inr ⟨_, _, _, _, rfl, h1, h2⟩))))
  · cases h
theorem same_n_Chart : ∀ n, SameO .Chart (qn_Chart n)
  | 0 => fun X pins s σ H B μ G xs ys vs k ka J o rx ry h => by cases h
  | n + 1 => fun X pins s σ H B μ G xs ys vs k ka J o rx ry h => by
    have ih := same_n_Chart n
    have hh := q_Chart_inv h
    clear h
    rcases hh with ⟨l, x, y, l2, x2, y2, rfl, e, h⟩ | ⟨l, x, y, m, a, b', c, rfl, e, rfl⟩ | ⟨l, x, y, rfl, e, rfl⟩ | ⟨m, x, ss, oo, m2, x2, s2, o2, rfl, e, h⟩ | ⟨m, x, ss, oo, a, b', c, rfl, e, rfl⟩ | ⟨m, x, ss, oo, rfl, e, rfl⟩
    · cases e
      obtain ⟨v, ws, rfl, r1, rx⟩ := rx.cons_inv
      obtain ⟨v2, ws2, e, q1, ry1⟩ := ry.cons_inv
      cases e
      obtain ⟨u, us, rfl, r2, _⟩ := rx.cons_inv
      obtain ⟨u2, us2, e, q2, _⟩ := ry1.cons_inv
      cases e
      obtain ⟨a1, dx1, w1, rfl, _, g1, l1, rs1⟩ := r2.obj_inv
      obtain ⟨a2, dx2, w2, e, _, g2, l2', rs2⟩ := q2.obj_inv
      cases e
      rw [g1] at g2
      injection g2 with g2
      injection g2 with _ _ g2
      have ew : w1 = w2 := by
        have := congrArg (List.map Prod.snd) g2
        rwa [List.map_snd_zip (by omega), List.map_snd_zip (by omega)] at this
      subst ew
      exact same_Film X pins s σ H B μ G _ _ _ _ ka J o rs1 rs2 h
    · cases e
      obtain ⟨v, ws, rfl, r1, _⟩ := rx.cons_inv
      obtain ⟨v2, ws2, e, q1, _⟩ := ry.cons_inv
      cases e
      have e1 := r1.non_inv
      rw [e1] at q1
      cases q1.str_inv
    · cases e
    · cases e
      obtain ⟨v, ws, rfl, r1, rx⟩ := rx.cons_inv
      obtain ⟨v2, ws2, e, q1, ry1⟩ := ry.cons_inv
      cases e
      have e1 := r1.str_inv
      rw [e1] at q1
      have e2 := q1.str_inv
      cases e2
      rcases h with ⟨_, h⟩ | ⟨h, _⟩
      · obtain ⟨ua, usa, rfl, _, rxa⟩ := rx.cons_inv
        obtain ⟨ub, usb, e, _, rya⟩ := ry1.cons_inv
        cases e
        obtain ⟨uc, usc, rfl, r2, rxb⟩ := rxa.cons_inv
        obtain ⟨ud, usd, e, q2, ryb⟩ := rya.cons_inv
        cases e
        obtain ⟨ue, use, rfl, r3, _⟩ := rxb.cons_inv
        obtain ⟨uf, usf, e, q3, _⟩ := ryb.cons_inv
        cases e
        have one : ∀ {a b : List PV} {v : V} {k : Bool}, Rep X.K B G (.obj .Chart a) v → Rep X.K B G (.obj .Chart b) v → qn_Chart n a (.obj .Chart b) = some k → k = true := fun ra rb hh => by
          obtain ⟨a1, dx1, w1, rfl, _, g1, l1, rs1⟩ := ra.obj_inv
          obtain ⟨a2, dx2, w2, e, _, g2, l2', rs2⟩ := rb.obj_inv
          cases e
          rw [g1] at g2
          injection g2 with g2
          injection g2 with _ _ g2
          have ew : w1 = w2 := by
            have := congrArg (List.map Prod.snd) g2
            rwa [List.map_snd_zip (by omega), List.map_snd_zip (by omega)] at this
          subst ew
          exact ih X pins s σ H B μ G _ _ _ _ ka J o rs1 rs2 hh
        rcases andO_inv h with ⟨h1, _⟩ | ⟨_, h2⟩
        · exact absurd (one r2 q2 h1) (by decide)
        · exact one r3 q3 h2
      · exact absurd rfl h
    · cases e
      obtain ⟨v, ws, rfl, r1, _⟩ := rx.cons_inv
      obtain ⟨v2, ws2, e, q1, _⟩ := ry.cons_inv
      cases e
      have e1 := r1.str_inv
      rw [e1] at q1
      cases q1.non_inv
    · cases e
theorem same_p_Chart : ∀ n, SameO .Chart (qp_Chart n)
  | 0 => fun X pins s σ H B μ G xs ys vs k ka J o rx ry h => by cases h
  | n + 1 => same_n_Chart n
theorem same_Chart : SameO .Chart q_Chart := same_n_Chart 12
theorem eqi_Chart : ∀ as μ q x, cEq .Chart q_Chart as μ q x → cEq .Chart q_Chart as μ q x := fun _ _ _ _ h => h
theorem no_q {hot : Bool} {P : Program} {w : World} {K : Frg} {mg : Str → Option Value} {base : Heap} {k : Nat} {f : Addr} {ks : List Str} {c : Cl} : FnS hot P w K mg base k f ks (spP K (cEq c fun _ _ => none)) := fun A outer s H us ws vs Q E hm hr e0 hl r h => by
  obtain ⟨B, μ, G, as, q, z, o, rr, hc, hq⟩ := h
  obtain ⟨xs, b, k, rfl, e, _⟩ := cEq_inv hc
  cases e
/-- == of two trees -/
theorem deq_tree : ∀ (n : Nat) (t u : Tree), t.dep < n → qn_Chart n t.fs u.pv = some (decide (t = u))
  | 0, t, u, h => absurd h (Nat.not_lt_zero _)
  | n + 1, .leaf f, .leaf g, h => by
    show q_Film [f.b.pv, f.i.pv] g.pv = _
    rw [deq_film]
    simp
  | n + 1, .leaf f, .fork m s o, h => by
    show some false = _
    simp
  | n + 1, .fork m s o, .leaf g, h => by
    show some false = _
    simp
  | n + 1, .fork m s o, .fork m2 s2 o2, h => by
    have h : max s.dep o.dep + 1 < n + 1 := h
    have e1 := deq_tree n s s2 (by omega)
    have e2 := deq_tree n o o2 (by omega)
    show (match decide (m = m2) with
        | true => andO (qn_Chart n s.fs s2.pv) (qn_Chart n o.fs o2.pv)
        | false => some false) = _
    rw [e1, e2]
    by_cases h1 : m = m2 <;> by_cases h2 : s = s2 <;> by_cases h3 : o = o2 <;> simp [h1, h2, h3, andO]
end Px
namespace Px
open PySem PySem.Spec PyProof.Rows L2
end Px
namespace Px
open PySem PySem.Spec PyProof.Rows L2
/-- a cell that stays -/
theorem Mu.kept {μ : Mu} {a b : Addr} {x c : Cell} (h : μ a = some x) (hb : μ b = none) : (μ.put b c) a = some x := by
  have ne : a ≠ b := fun e => by rw [e, hb] at h; cases h
  rw [Mu.put_ne _ _ ne, h]
def fW (k : Nat) : PV := .int (0 + (k : Int))
end Px
namespace Px
open PySem PySem.Spec PyProof.Rows L2
inductive Fk where
  | l
  | a
  | s
def Fk.w : Fk → Str
  | .l => "left out"
  | .a => "again"
  | .s => "swapped"
def Fk.pv (f : Fk) : PV := .str f.w
def Fk.lastI (f : Fk) (n : Nat) : Int := match f with
  | .s => (n : Int) - 1
  | _ => n
structure Ft where
  f : Fk
  k : Nat
def Ft.pv (t : Ft) : PV := .tup [t.f.pv, fW t.k]
def Ft.ok (n : Nat) (t : Ft) : Prop := (t.k : Int) < t.f.lastI n
end Px
namespace Px
open PySem PySem.Spec PyProof.Rows L2
/-- what repr asks for: a size, a depth -/
def shownOk (d : PyData) : Prop := d.showable = true ∧ d.depth ≤ 64 ∧ d.shown.length ≤ sizeLine
/-- d may be shown: at depth k at most, at most n signs -/
def Shw (k n : Nat) (d : PyData) : Prop := d.showable = true ∧ d.depth ≤ k ∧ d.shown.length ≤ n
theorem Shw.ok {k n : Nat} {d : PyData} (h : Shw k n d) (hk : k ≤ 64) (hn : n ≤ sizeLine) : shownOk d := ⟨h.1, Nat.le_trans h.2.1 hk, Nat.le_trans h.2.2 hn⟩
end Px
namespace Px
open PySem PySem.Spec PyProof.Rows L2
inductive Fx where
  | s
  | f (t : Ft)
def Fx.pv : Fx → PV
  | .s => .tup [.str "sound", .int (-1)]
  | .f t => t.pv
def Fx.ok (n : Nat) : Fx → Prop
  | .s => True
  | .f t => t.ok n
end Px
namespace Px
open PySem PySem.Spec PyProof.Rows L2
end Px
namespace Px
open PySem PySem.Spec PyProof.Rows L2
end Px
namespace Px
open PySem PySem.Spec PyProof.Rows L2
abbrev Lev := List (Option Str × Bool × Str)
abbrev leaveT : Str := "leave"
def litH (m : Str) (a : Bool) (S : List Str) : Bool := !decide (decide (m ∈ S) = a)
def kept (lv : List (Str × Bool × Str)) : Lev := (lv.filter fun l => !decide (l.2.2 = leaveT)).map fun l => (some l.1, l.2.1, l.2.2)
def inC (lits : List (Str × Bool)) (S : List Str) : Bool := lits.all fun l => !litH l.1 l.2 S
end Px
namespace Px
open PySem PySem.Spec PyProof.Rows L2
def optN : Option Str → PV
  | none => .non
  | some z => .str z
def entP (l : Option Str × Bool × Str) : PV := .tup [optN l.1, .bl l.2.1, .str l.2.2]
end Px
namespace Px
open PySem PySem.Spec PyProof.Rows L2
/-- the levels in new lists: the outer one a, the inner ones bs -/
structure LvAt (μ μ' : Mu) (a : Addr) (bs : List Addr) (lv : List Lev) : Prop where
  a0 : μ a = none
  b0 : ∀ b ∈ bs, μ b = none
  nd : (a :: bs).Nodup
  len : bs.length = lv.length
  oa : μ' a = some (.lst (bs.map .cell))
  ob : ∀ p ∈ bs.zip lv, μ' p.1 = some (.lst (p.2.map entP))
  keep : ∀ c, c ≠ a → c ∉ bs → μ' c = μ c
theorem LvAt.nil {μ : Mu} {a : Addr} (h : μ a = none) : LvAt μ (μ.put a (.lst [])) a [] [] := ⟨h, (fun _ z => by cases z), by simp, rfl, Mu.put_same _ _ _, (fun _ z => by cases z), fun c c1 _ => Mu.put_ne _ _ c1⟩
end Px
namespace Px
open PySem PySem.Spec PyProof.Rows L2
def One.toldT (o : One) : Str := toldK o.kind o.off o.on o.when_
def One.line (o : One) : Str := lineT o.mask o.side o.toldT
end Px
namespace Px
open PySem PySem.Spec PyProof.Rows L2
end Px
namespace Px
open PySem PySem.Spec PyProof.Rows L2
/-- a tree as data; lf: a leaf -/
def Tree.tp (lf : Fm → PV) : Tree → PV
  | .leaf f => .tup [.non, lf f]
  | .fork m s o => .tup [.str m, s.tp lf, o.tp lf]
def Tree.ok (P : Fm → Prop) : Tree → Prop
  | .leaf f => P f
  | .fork _ s o => s.ok P ∧ o.ok P
theorem Tree.ok.imp {P Q : Fm → Prop} (h : ∀ f, P f → Q f) : ∀ {t : Tree}, t.ok P → t.ok Q
  | .leaf f, k => h f k
  | .fork m s o, ⟨a, b⟩ => ⟨a.imp h, b.imp h⟩
/-- the names of a tree -/
def Tree.names : Tree → List Str
  | .leaf _ => []
  | .fork m s o => m :: (s.names ++ o.names)
/-- == of two trees as data -/
theorem deq_tp (Q : Qt) {lf : Fm → PV} {P : Fm → Prop} {d : Nat} (hlf : ∀ n f g, P f → P g → deq Q (n + d) (lf f) (lf g) = some (decide (f = g))) : ∀ (k : Nat) (t u : Tree), t.dep ≤ k → t.ok P → u.ok P → deq Q (k + 1 + d) (t.tp lf) (u.tp lf) = some (decide (t = u))
  | k, .leaf f, .leaf g, _, hf, hg => by
    have e : k + 1 + d = (k + d) + 1 := by omega
    rw [e]
    show andO (deq Q (k + d) .non .non) (andO (deq Q (k + d) (lf f) (lf g)) (some true)) = _
    have this : deq Q (k + d) .non .non = some true := by cases k + d <;> rfl
    rw [hlf k f g hf hg, this]
    by_cases h : f = g <;> simp [h, andO]
  | k, .leaf f, .fork m s o, _, _, _ => by
    have e : k + 1 + d = (k + d) + 1 := by omega
    rw [e]
    show andO (deq Q (k + d) .non (.str m)) _ = _
    have : deq Q (k + d) .non (.str m) = some false := by cases k + d <;> rfl
    rw [this]
    simp [andO]
  | k, .fork m s o, .leaf g, _, _, _ => by
    have e : k + 1 + d = (k + d) + 1 := by omega
    rw [e]
    show andO (deq Q (k + d) (.str m) .non) _ = _
    have : deq Q (k + d) (.str m) .non = some false := by cases k + d <;> rfl
    rw [this]
    simp [andO]
  | 0, .fork m s o, .fork m2 s2 o2, h, _, _ => absurd h (Nat.not_succ_le_zero _)
  | k + 1, .fork m s o, .fork m2 s2 o2, h, ⟨h1, h2⟩, ⟨h3, h4⟩ => by
    have h : max s.dep o.dep + 1 ≤ k + 1 := h
    have e1 := deq_tp Q hlf k s s2 (by omega) h1 h3
    have e2 := deq_tp Q hlf k o o2 (by omega) h2 h4
    have e : k + 1 + 1 + d = (k + 1 + d) + 1 := by omega
    rw [e]
    show andO (deq Q (k + 1 + d) (.str m) (.str m2)) (andO (deq Q (k + 1 + d) (s.tp lf) (s2.tp lf)) (andO (deq Q (k + 1 + d) (o.tp lf) (o2.tp lf)) (some true))) = _
    have e0 : deq Q (k + 1 + d) (.str m) (.str m2) = some (decide (m = m2)) := by cases k + 1 + d <;> rfl
    rw [e0, e1, e2]
    by_cases h1 : m = m2 <;> by_cases h2 : s = s2 <;> by_cases h3 : o = o2 <;> simp [h1, h2, h3, andO]
/-- the mask of the tree is behind m -/
def Tree.abv (m : Str) : Tree → Bool
  | .leaf _ => true
  | .fork m2 _ _ => ltT m m2
def Tree.pl : Tree → Bool
  | .leaf _ => true
  | .fork m s o => (s.abv m && s.pl) && ((o.abv m && o.pl) && !decide (s = o))
end Px
namespace Px
open PySem PySem.Spec PyProof.Rows L2
/-- the store, with more cells -/
def ExM (μ μ' : Mu) : Prop := ∀ x, μ x ≠ none → μ' x = μ x
theorem ExM.refl (μ : Mu) : ExM μ μ := fun _ _ => rfl
theorem ExM.trans {a b c : Mu} (h : ExM a b) (h2 : ExM b c) : ExM a c := fun x hx => (h2 x (by rw [h x hx]; exact hx)).trans (h x hx)
theorem ExM.put {μ : Mu} {a : Addr} (ha : μ a = none) (m : Cell) : ExM μ (μ.put a m) := fun x hx => Mu.put_ne _ _ fun e => hx (e ▸ ha)
end Px
namespace Px
open PySem PySem.Spec PyProof.Rows L2
end Px
namespace Px
open PySem PySem.Spec PyProof.Rows L2
end Px
namespace Px
open PySem PySem.Spec PyProof.Rows L2
end Px
namespace Px
open PySem PySem.Spec PyProof.Rows L2
end Px
namespace Px
open PySem PySem.Spec PyProof.Rows L2
end Px
namespace Px
open PySem PySem.Spec PyProof.Rows L2
structure Pr where
  os : List One
  n : Int
  k : Int
def Pr.pv (p : Pr) : PV := .tup [rowO p.os, lt p.n, lt p.k]
structure Pr.Ok (p : Pr) : Prop where
  l : p.os.length ≤ 100
  pk : ∀ o ∈ p.os, o.Pk
  m : (masksO p.os).length ≤ 8
  r : R6 p.n
inductive Tw where
  | o
  | s
  | p
def Tw.w : Tw → Str
  | .o => "open"
  | .s => "shut"
  | .p => "perhaps"
end Px
namespace Px
open PySem PySem.Spec PyProof.Rows L2
end Px
namespace Px
open PySem PySem.Spec PyProof.Rows L2
end Px
namespace Px
open PySem PySem.Spec PyProof.Rows L2
end Px
namespace Px
open PySem PySem.Spec PyProof.Rows L2
end Px
namespace Px
open PySem PySem.Spec PyProof.Rows L2
end Px
namespace Px
open PySem PySem.Spec PyProof.Rows L2
end Px
namespace Px
open PySem PySem.Spec PyProof.Rows L2
end Px
namespace Px
open PySem PySem.Spec PyProof.Rows L2
end Px
namespace Px
open PySem PySem.Spec PyProof.Rows L2
end Px
namespace Px
open PySem PySem.Spec PyProof.Rows L2
end Px
namespace Px
open PySem PySem.Spec PyProof.Rows L2
def fA : Fm := fOf "any" 1 0
def fB : Fm := fOf "any" 0 33
def LeafI (f : Fm) : Prop := f = fNo0 ∨ f = fA ∨ f = fB
def labI (f : Fm) : Int := if f = fNo0 then 0 else if f = fA then 1 else 2
def lfI (f : Fm) : PV := .int (labI f)
theorem lab_of {f g : Fm} (hf : LeafI f) (hg : LeafI g) : decide (labI f = labI g) = decide (f = g) := by
  rcases hf with rfl | rfl | rfl <;> rcases hg with rfl | rfl | rfl <;> decide
theorem deq_lfI (Q : Qt) (n : Nat) (f g : Fm) (hf : LeafI f) (hg : LeafI g) : deq Q (n + 1) (lfI f) (lfI g) = some (decide (f = g)) := by
  rw [← lab_of hf hg]
  rfl
theorem deq_tpI (Q : Qt) {t u : Tree} (hd : t.dep ≤ 8) (ht : t.ok LeafI) (hu : u.ok LeafI) : deq Q 10 (t.tp lfI) (u.tp lfI) = some (decide (t = u)) := deq_tp Q (fun n f g hf hg => deq_lfI Q n f g hf hg) 8 t u hd ht hu
theorem eqS_tp (lf : Fm → PV) (t u : Tree) : eqS (t.tp lf) (u.tp lf) = none := by
  cases t <;> cases u <;> rfl
/-- plain, all of it behind z -/
def Tree.plA : Str → Tree → Bool
  | _, .leaf _ => true
  | z, .fork m s o => ltT z m && (!decide (s = o) && (s.plA m && o.plA m))
theorem plA_eq : ∀ (t : Tree) (z : Str), t.plA z = (t.abv z && t.pl)
  | .leaf f, z => rfl
  | .fork m s o, z => by
    show (ltT z m && (!decide (s = o) && (s.plA m && o.plA m))) = (ltT z m && ((s.abv m && s.pl) && ((o.abv m && o.pl) && !decide (s = o))))
    rw [plA_eq s m, plA_eq o m]
    cases ltT z m <;> cases decide (s = o) <;> cases s.abv m <;> cases s.pl <;> cases o.abv m <;> cases o.pl <;> rfl
theorem lt_emp {z : Str} (h : nameB z = true) : ltT "" z = true := by
  have hl := (name_len h).1
  have e : z.length = z.cps.toList.length := by
    first | rfl | (rw [Array.length_toList] <;> rfl)
  unfold ltT
  have e0 : (Str.cps "").toList = [] := by decide +kernel
  rw [e0]
  cases c : z.cps.toList with
  | nil => rw [c] at e; rw [e] at hl; exact absurd hl (by simp)
  | cons a l => rfl
theorem abv_emp {t : Tree} (h : ∀ z ∈ t.names, nameB z = true) : t.abv "" = true := by
  cases t with
  | leaf f => rfl
  | fork m s o => exact lt_emp (h m List.mem_cons_self)
theorem plA_emp {t : Tree} (h : ∀ z ∈ t.names, nameB z = true) : t.plA "" = t.pl := by
  rw [plA_eq, abv_emp h, Bool.true_and]
end Px
namespace Px
open PySem PySem.Spec PyProof.Rows L2
def t__law_tree_v2_5 : ZB := bOne (sRet (zTup (zCons (zIdx (zVar 1) (zVar 4)) (zCons (zVar 6) (zCons (zCall 215 (zCons (zVar 0) (zCons (zVar 5) (zCons (zBin .Sub (zVar 2) (zInt 1)) (zCons (zVar 3) zNil))))) zNil)))))
def t__law_tree_v2_4 : ZB := bCons (sSet 6 (zCall 215 (zCons (zVar 0) (zCons (zVar 5) (zCons (zBin .Sub (zVar 2) (zInt 1)) (zCons (zVar 3) zNil)))))) t__law_tree_v2_5
def t__law_tree_v2_3 : ZB := bCons (sIf (tTr (zVar 3)) (bOne (sSet 5 (zSl (zVar 1) (zO1 (zBin .Add (zVar 4) (zInt 1))) zO0))) bNil) t__law_tree_v2_4
def t__law_tree_v2_2 : ZB := bCons (sSet 5 (zVar 1)) t__law_tree_v2_3
def t__law_tree_v2_1 : ZB := bCons (sSet 4 (zCall 48 (zCons (zVar 0) (zCons (zBlt .len (zCons (zVar 1) zNil)) zNil)))) t__law_tree_v2_2
def t__law_tree_v2_0 : ZB := bCons (sIf (tOr [(tCmp .Eq (zVar 2) (zInt 0)), (tCmp .Eq (zBlt .len (zCons (zVar 1) zNil)) (zInt 0)), (tCmp .Eq (zCall 48 (zCons (zVar 0) (zCons (zInt 4) zNil))) (zInt 0))]) (bOne (sRet (zTup (zCons zNon (zCons (zCall 48 (zCons (zVar 0) (zCons (zInt 3) zNil))) zNil))))) bNil) t__law_tree_v2_1
def cn__law_tree_v2 (n : Nat) : Ct := fun as μ q _ => match as with
  | [.box, .lst xs, .int d, .bl _] => ∃ ns : List Str, xs = ns.map .str ∧ ns.length < 100 ∧ 0 ≤ d ∧ d ≤ n ∧ ∀ t : Tree, (t.dep : Int) ≤ d → (∀ z ∈ t.names, z ∈ ns) → t.ok LeafI → q (t.tp lfI) μ
  | _ => False
theorem len__law_tree_v2 : ∀ n as μ q z, cn__law_tree_v2 n as μ q z → as.length = 4 := fun n as μ q z h => by
  unfold cn__law_tree_v2 at h
  split at h <;> first | rfl | exact h.elim
def cp__law_tree_v2 : Nat → Ct
  | 0 => noCt
  | n + 1 => cn__law_tree_v2 n
abbrev c__law_tree_v2 : Ct := cn__law_tree_v2 6
def L__law_tree_v2 (n : Nat) : Tbl := [(.g 48 [], cDraw), (.g 215 [], (cp__law_tree_v2 n))]
def H__law_tree_v2 (n : Nat) : Tbl := []
def Q__law_tree_v2 (n : Nat) : Qt := []
def R__law_tree_v2 (n : Nat) : Rt := { L := L__law_tree_v2 n, LH := H__law_tree_v2 n, Q := Q__law_tree_v2 n }
theorem tree_leaf29 {n : Nat} {P : DEn} {ns : List Str} {d : Int} {r : Bool} {μ : Mu} (h : ∀ t : Tree, (t.dep : Int) ≤ d → (∀ z ∈ t.names, z ∈ ns) → t.ok LeafI → P.rt (t.tp lfI) μ) (hd : 0 ≤ d) :
    (bOne (sRet (zTup (zCons zNon (zCons (zCall 48 (zCons (zVar 0) (zCons (zInt 3) zNil))) zNil))))).d (R__law_tree_v2 n) P (startE 7 [.box, .lst (ns.map .str), .int d, .bl r]) μ := by
  (conv => whnf); (repeat (first | (refine brT rfl ?_; (conv => whnf)) | (refine brF rfl ?_; (conv => whnf)) | (refine And.intro rfl ?_; (conv => whnf)) | (refine And.intro (Nat.le_of_ble_eq_true rfl) ?_; (conv => whnf)) | (refine And.intro (by assumption) ?_; (conv => whnf)) | (refine And.intro (by decide) ?_; (conv => whnf))))
  refine draw_of (by omega) (by omega) fun k k0 k1 => ?_
  (conv => whnf); (repeat (first | (refine brT rfl ?_; (conv => whnf)) | (refine brF rfl ?_; (conv => whnf)) | (refine And.intro rfl ?_; (conv => whnf)) | (refine And.intro (Nat.le_of_ble_eq_true rfl) ?_; (conv => whnf)) | (refine And.intro (by assumption) ?_; (conv => whnf)) | (refine And.intro (by decide) ?_; (conv => whnf))))
  have : k = 0 ∨ k = 1 ∨ k = 2 := by omega
  rcases this with rfl | rfl | rfl
  · exact h (.leaf fNo0) hd (fun z hz => by cases hz) (.inl rfl)
  · exact h (.leaf fA) hd (fun z hz => by cases hz) (.inr (.inl rfl))
  · exact h (.leaf fB) hd (fun z hz => by cases hz) (.inr (.inr rfl))
theorem cut_from29 {ns : List Str} {k : Int} (k0 : 0 ≤ k) (k1 : k < ns.length) : cutP (ns.map PV.str) (some (k + 1)) none = (ns.drop (k + 1).toNat).map .str := by
  unfold cutP
  have e1 : HT.sIx (ns.map PV.str).length 0 (some (k + 1)) = (k + 1).toNat := sIx_in (by omega) (by rw [List.length_map]; omega)
  have e2 : HT.sIx (ns.map PV.str).length (ns.map PV.str).length none = (ns.map PV.str).length := rfl
  rw [e1, e2, List.map_drop]
  refine List.take_of_length_le ?_
  rw [List.length_drop]
  exact Nat.le_refl _
theorem pure__law_tree_v2 : ∀ n as μ q z, cn__law_tree_v2 n as μ q z → t__law_tree_v2_0.d (R__law_tree_v2 n) (endsOf q z) (startE 7 as) μ := fun n as μ q z h => by
  unfold cn__law_tree_v2 at h
  split at h
  · rename_i d rr
    obtain ⟨ns, rfl, hl, hd, hn, h⟩ := h
    have lm : (ns.map PV.str).length = ns.length := List.length_map ..
    have leaf := fun P h => tree_leaf29 (n := n) (P := P) (ns := ns) (d := d) (r := rr) (μ := μ) h hd
    (conv => whnf); (repeat (first | (refine brT rfl ?_; (conv => whnf)) | (refine brF rfl ?_; (conv => whnf)) | (refine And.intro rfl ?_; (conv => whnf)) | (refine And.intro (Nat.le_of_ble_eq_true rfl) ?_; (conv => whnf)) | (refine And.intro (by assumption) ?_; (conv => whnf)) | (refine And.intro (by decide) ?_; (conv => whnf))))
    refine br_of (fun c => ?_) fun c => ?_
    · exact brT rfl (leaf _ h)
    (conv => whnf); (repeat (first | (refine brT rfl ?_; (conv => whnf)) | (refine brF rfl ?_; (conv => whnf)) | (refine And.intro rfl ?_; (conv => whnf)) | (refine And.intro (Nat.le_of_ble_eq_true rfl) ?_; (conv => whnf)) | (refine And.intro (by assumption) ?_; (conv => whnf)) | (refine And.intro (by decide) ?_; (conv => whnf))))
    refine br_of (fun c2 => ?_) fun c2 => ?_
    · exact brT rfl (leaf _ h)
    have c := of_decide_eq_false c
    have c2 := of_decide_eq_false c2
    rw [lm] at c2
    (conv => whnf); (repeat (first | (refine brT rfl ?_; (conv => whnf)) | (refine brF rfl ?_; (conv => whnf)) | (refine And.intro rfl ?_; (conv => whnf)) | (refine And.intro (Nat.le_of_ble_eq_true rfl) ?_; (conv => whnf)) | (refine And.intro (by assumption) ?_; (conv => whnf)) | (refine And.intro (by decide) ?_; (conv => whnf))))
    refine draw_of (by omega) (by omega) fun r r0 r1 => ?_
    (conv => whnf); (repeat (first | (refine brT rfl ?_; (conv => whnf)) | (refine brF rfl ?_; (conv => whnf)) | (refine And.intro rfl ?_; (conv => whnf)) | (refine And.intro (Nat.le_of_ble_eq_true rfl) ?_; (conv => whnf)) | (refine And.intro (by assumption) ?_; (conv => whnf)) | (refine And.intro (by decide) ?_; (conv => whnf))))
    refine br_of (fun c3 => ?_) fun c3 => ?_
    · exact leaf _ h
    cases n with
    | zero => exact absurd hn (by omega)
    | succ n =>
    (conv => whnf); (repeat (first | (refine brT rfl ?_; (conv => whnf)) | (refine brF rfl ?_; (conv => whnf)) | (refine And.intro rfl ?_; (conv => whnf)) | (refine And.intro (Nat.le_of_ble_eq_true rfl) ?_; (conv => whnf)) | (refine And.intro (by assumption) ?_; (conv => whnf)) | (refine And.intro (by decide) ?_; (conv => whnf))))
    rw [lm]
    refine draw_of (by omega) (by omega) fun k k0 k1 => ?_
    have hk : k.toNat < ns.length := by omega
    have ak : atI (ns.map PV.str) k = some (.str ns[k.toNat]) := by
      have e : k = ((k.toNat : Nat) : Int) := by omega
      have := atI_nat (xs := ns.map PV.str) (j := k.toNat) (v := .str ns[k.toNat]) (by rw [List.getElem?_map, List.getElem?_eq_getElem hk] <;> rfl)
      rwa [← e] at this
    have go : ∀ ms : List Str, (∀ z ∈ ms, z ∈ ns) → ms.length < 100 → t__law_tree_v2_4.d (R__law_tree_v2 (n + 1)) (endsOf q z) ((startE 7 [.box, .lst (ns.map .str), .int d, .bl rr]).set 4 (some (.int k)) |>.set 5 (some (.lst (ms.map .str)))) μ := fun ms hms hml => by
      (conv => whnf); (repeat (first | (refine brT rfl ?_; (conv => whnf)) | (refine brF rfl ?_; (conv => whnf)) | (refine And.intro rfl ?_; (conv => whnf)) | (refine And.intro (Nat.le_of_ble_eq_true rfl) ?_; (conv => whnf)) | (refine And.intro (by assumption) ?_; (conv => whnf)) | (refine And.intro (by decide) ?_; (conv => whnf))))
      refine ⟨ms, rfl, hml, by omega, by omega, fun s hs1 hs2 hs3 => ?_⟩
      (conv => whnf); (repeat (first | (refine brT rfl ?_; (conv => whnf)) | (refine brF rfl ?_; (conv => whnf)) | (refine And.intro rfl ?_; (conv => whnf)) | (refine And.intro (Nat.le_of_ble_eq_true rfl) ?_; (conv => whnf)) | (refine And.intro (by assumption) ?_; (conv => whnf)) | (refine And.intro (by decide) ?_; (conv => whnf))))
      rw [ak]
      (conv => whnf); (repeat (first | (refine brT rfl ?_; (conv => whnf)) | (refine brF rfl ?_; (conv => whnf)) | (refine And.intro rfl ?_; (conv => whnf)) | (refine And.intro (Nat.le_of_ble_eq_true rfl) ?_; (conv => whnf)) | (refine And.intro (by assumption) ?_; (conv => whnf)) | (refine And.intro (by decide) ?_; (conv => whnf))))
      refine ⟨ms, rfl, hml, by omega, by omega, fun o ho1 ho2 ho3 => ?_⟩
      (conv => whnf); (repeat (first | (refine brT rfl ?_; (conv => whnf)) | (refine brF rfl ?_; (conv => whnf)) | (refine And.intro rfl ?_; (conv => whnf)) | (refine And.intro (Nat.le_of_ble_eq_true rfl) ?_; (conv => whnf)) | (refine And.intro (by assumption) ?_; (conv => whnf)) | (refine And.intro (by decide) ?_; (conv => whnf))))
      refine h (.fork ns[k.toNat] s o) ?_ ?_ ⟨hs3, ho3⟩
      · show ((max s.dep o.dep + 1 : Nat) : Int) ≤ d
        omega
      · intro z hz
        rcases List.mem_cons.mp hz with rfl | hz
        · exact List.getElem_mem hk
        · exact hms z ((List.mem_append.mp hz).elim (hs2 z) (ho2 z))
    (conv => whnf); (repeat (first | (refine brT rfl ?_; (conv => whnf)) | (refine brF rfl ?_; (conv => whnf)) | (refine And.intro rfl ?_; (conv => whnf)) | (refine And.intro (Nat.le_of_ble_eq_true rfl) ?_; (conv => whnf)) | (refine And.intro (by assumption) ?_; (conv => whnf)) | (refine And.intro (by decide) ?_; (conv => whnf))))
    cases rr
    · exact brF rfl (go ns (fun z h => h) hl)
    · refine brT rfl ?_
      (conv => whnf); (repeat (first | (refine brT rfl ?_; (conv => whnf)) | (refine brF rfl ?_; (conv => whnf)) | (refine And.intro rfl ?_; (conv => whnf)) | (refine And.intro (Nat.le_of_ble_eq_true rfl) ?_; (conv => whnf)) | (refine And.intro (by assumption) ?_; (conv => whnf)) | (refine And.intro (by decide) ?_; (conv => whnf))))
      rw [cut_from29 k0 k1]
      exact go _ (fun z hz => List.mem_of_mem_drop hz) (by rw [List.length_drop]; omega)
  · exact h.elim
end Px
namespace Px
open PySem PySem.Spec PyProof.Rows L2
def t_Chart___init___3 : ZB := bOne (sAttr "when_open" (zVar 0) (zVar 4))
def t_Chart___init___2 : ZB := bCons (sAttr "when_shut" (zVar 0) (zVar 3)) t_Chart___init___3
def t_Chart___init___1 : ZB := bCons (sAttr "leaf" (zVar 0) (zVar 2)) t_Chart___init___2
def t_Chart___init___0 : ZB := bCons (sAttr "mask" (zVar 0) (zVar 1)) t_Chart___init___1
def kChart : Kc := fun c ps A _ => match c, ps with
  | .Chart, [a, b, c, d] => A [a, b, c, d]
  | _, _ => False
abbrev c_Chart___init__ : Ct := initK kChart
theorem mono_Chart : Mono kChart := fun c ps A A' B B' h1 h2 h => by
  unfold kChart at h ⊢
  split at h
  · exact h1 _ h
  · exact h.elim
def k_Chart : Ct := mkK .Chart kChart
theorem kc_Chart : MkC true .Chart c_Chart___init__ k_Chart := mkK_ok mono_Chart
theorem len_Chart___init__ : ∀ as μ q z, c_Chart___init__ as μ q z → as.length = 5 := fun as μ q z ⟨y, c, ps, e, _, h⟩ => by
  subst e
  unfold kChart at h
  split at h <;> first | rfl | exact h.elim
def L_Chart___init__ : Tbl := []
def H_Chart___init__ : Tbl := []
def Q_Chart___init__ : Qt := []
def R_Chart___init__ : Rt := { L := L_Chart___init__, LH := H_Chart___init__, Q := Q_Chart___init__ }
theorem pure_Chart___init__ : ∀ as μ q z, c_Chart___init__ as μ q z → t_Chart___init___0.d R_Chart___init__ (endsOf q z) (startE 5 as) μ := by
  rintro as μ q z ⟨y, c, ps, rfl, ey, h⟩
  unfold kChart at h
  split at h
  · (conv => whnf); (repeat (first | (refine brT rfl ?_; (conv => whnf)) | (refine brF rfl ?_; (conv => whnf)) | (refine And.intro rfl ?_; (conv => whnf)) | (refine And.intro (Nat.le_of_ble_eq_true rfl) ?_; (conv => whnf)) | (refine And.intro (by assumption) ?_; (conv => whnf)) | (refine And.intro (by decide) ?_; (conv => whnf))))
    rw [ey]
    (conv => whnf); (repeat (first | (refine brT rfl ?_; (conv => whnf)) | (refine brF rfl ?_; (conv => whnf)) | (refine And.intro rfl ?_; (conv => whnf)) | (refine And.intro (Nat.le_of_ble_eq_true rfl) ?_; (conv => whnf)) | (refine And.intro (by assumption) ?_; (conv => whnf)) | (refine And.intro (by decide) ?_; (conv => whnf))))
    rw [Mu.put_same]
    (conv => whnf); (repeat (first | (refine brT rfl ?_; (conv => whnf)) | (refine brF rfl ?_; (conv => whnf)) | (refine And.intro rfl ?_; (conv => whnf)) | (refine And.intro (Nat.le_of_ble_eq_true rfl) ?_; (conv => whnf)) | (refine And.intro (by assumption) ?_; (conv => whnf)) | (refine And.intro (by decide) ?_; (conv => whnf))))
    rw [Mu.put_same]
    (conv => whnf); (repeat (first | (refine brT rfl ?_; (conv => whnf)) | (refine brF rfl ?_; (conv => whnf)) | (refine And.intro rfl ?_; (conv => whnf)) | (refine And.intro (Nat.le_of_ble_eq_true rfl) ?_; (conv => whnf)) | (refine And.intro (by assumption) ?_; (conv => whnf)) | (refine And.intro (by decide) ?_; (conv => whnf))))
    rw [Mu.put_same]
    (conv => whnf); (repeat (first | (refine brT rfl ?_; (conv => whnf)) | (refine brF rfl ?_; (conv => whnf)) | (refine And.intro rfl ?_; (conv => whnf)) | (refine And.intro (Nat.le_of_ble_eq_true rfl) ?_; (conv => whnf)) | (refine And.intro (by assumption) ?_; (conv => whnf)) | (refine And.intro (by decide) ?_; (conv => whnf))))
    rw [Mu.put_put, Mu.put_put, Mu.put_put]
    exact h.2
  · exact h.elim
end Px
namespace Px
open PySem PySem.Spec PyProof.Rows L2
def t_Chart_end_0 : ZB := bOne (sRet (zMk .Chart true (zCons zNon (zCons (zVar 0) (zCons zNon (zCons zNon zNil))))))
def c_Chart_end : Ct := fun as μ q _ => match as with
  | [p] => q (.obj .Chart [.non, p, .non, .non]) μ
  | _ => False
theorem len_Chart_end : ∀ as μ q z, c_Chart_end as μ q z → as.length = 1 := fun as μ q z h => by
  unfold c_Chart_end at h
  split at h <;> first | rfl | exact h.elim
def L_Chart_end : Tbl := [(.k .Chart true [], k_Chart)]
def H_Chart_end : Tbl := []
def Q_Chart_end : Qt := []
def R_Chart_end : Rt := { L := L_Chart_end, LH := H_Chart_end, Q := Q_Chart_end }
theorem pure_Chart_end : ∀ as μ q z, c_Chart_end as μ q z → t_Chart_end_0.d R_Chart_end (endsOf q z) (startE 1 as) μ := fun as μ q z h => by
  unfold c_Chart_end at h
  split at h
  · (conv => whnf); (repeat (first | (refine brT rfl ?_; (conv => whnf)) | (refine brF rfl ?_; (conv => whnf)) | (refine And.intro rfl ?_; (conv => whnf)) | (refine And.intro (Nat.le_of_ble_eq_true rfl) ?_; (conv => whnf)) | (refine And.intro (by assumption) ?_; (conv => whnf)) | (refine And.intro (by decide) ?_; (conv => whnf))))
    exact h
  · exact h.elim
end Px
namespace Px
open PySem PySem.Spec PyProof.Rows L2
def t_Film___init___1 : ZB := bOne (sAttr "inked" (zVar 0) (zVar 2))
def t_Film___init___0 : ZB := bCons (sAttr "bare" (zVar 0) (zVar 1)) t_Film___init___1
def kFilm : Kc := fun c ps A _ => match c, ps with
  | .Film, [a, b] => A [a, b]
  | _, _ => False
abbrev c_Film___init__ : Ct := initK kFilm
theorem mono_Film : Mono kFilm := fun c ps A A' B B' h1 h2 h => by
  unfold kFilm at h ⊢
  split at h
  · exact h1 _ h
  · exact h.elim
def k_Film : Ct := mkK .Film kFilm
theorem kc_Film : MkC true .Film c_Film___init__ k_Film := mkK_ok mono_Film
theorem len_Film___init__ : ∀ as μ q z, c_Film___init__ as μ q z → as.length = 3 := fun as μ q z ⟨y, c, ps, e, _, h⟩ => by
  subst e
  unfold kFilm at h
  split at h <;> first | rfl | exact h.elim
def L_Film___init__ : Tbl := []
def H_Film___init__ : Tbl := []
def Q_Film___init__ : Qt := []
def R_Film___init__ : Rt := { L := L_Film___init__, LH := H_Film___init__, Q := Q_Film___init__ }
theorem pure_Film___init__ : ∀ as μ q z, c_Film___init__ as μ q z → t_Film___init___0.d R_Film___init__ (endsOf q z) (startE 3 as) μ := by
  rintro as μ q z ⟨y, c, ps, rfl, ey, h⟩
  unfold kFilm at h
  split at h
  · (conv => whnf); (repeat (first | (refine brT rfl ?_; (conv => whnf)) | (refine brF rfl ?_; (conv => whnf)) | (refine And.intro rfl ?_; (conv => whnf)) | (refine And.intro (Nat.le_of_ble_eq_true rfl) ?_; (conv => whnf)) | (refine And.intro (by assumption) ?_; (conv => whnf)) | (refine And.intro (by decide) ?_; (conv => whnf))))
    rw [ey]
    (conv => whnf); (repeat (first | (refine brT rfl ?_; (conv => whnf)) | (refine brF rfl ?_; (conv => whnf)) | (refine And.intro rfl ?_; (conv => whnf)) | (refine And.intro (Nat.le_of_ble_eq_true rfl) ?_; (conv => whnf)) | (refine And.intro (by assumption) ?_; (conv => whnf)) | (refine And.intro (by decide) ?_; (conv => whnf))))
    rw [Mu.put_same]
    (conv => whnf); (repeat (first | (refine brT rfl ?_; (conv => whnf)) | (refine brF rfl ?_; (conv => whnf)) | (refine And.intro rfl ?_; (conv => whnf)) | (refine And.intro (Nat.le_of_ble_eq_true rfl) ?_; (conv => whnf)) | (refine And.intro (by assumption) ?_; (conv => whnf)) | (refine And.intro (by decide) ?_; (conv => whnf))))
    rw [Mu.put_put]
    exact h.2
  · exact h.elim
end Px
namespace Px
open PySem PySem.Spec PyProof.Rows L2
def f_Light___init___0 : ZB := (bCons (sIf (tNot (tChain .LtE .Lt (zInt 0) (zVar 3) (zInt 6))) (bOne (sRaise .InvalidBand "band" (zCons (zVar 3) zNil))) bNil)
  (bOne (sSet 2 (zBin .BitOr (zVar 2) (zBin .LShift (zInt 1) (zVar 3))))))
def t_Light___init___3 : ZB := bOne (sAttr "bands" (zVar 0) (zBlt .tuple (zCons (zLst (zComp (.one 3) [3] (iRg1 (zInt 6)) (tsOne (tCmp .Eq (zBin .BitAnd (zBin .RShift (zVar 2) (zVar 3)) (zInt 1)) (zInt 1))) (zVar 3))) zNil)))
def t_Light___init___2 : ZB := bCons (sAttr "number" (zVar 0) (zVar 2)) t_Light___init___3
def t_Light___init___1 : ZB := bCons (sFor (.one 3) (iSq (zVar 1)) f_Light___init___0) t_Light___init___2
def t_Light___init___0 : ZB := bCons (sSet 2 (zInt 0)) t_Light___init___1
def kLight : Kc := fun c ps A B => match c, ps with
  | .Light, [.tup ns] => (match intsP ns with
    | some is => (match is.find? badB with
      | some b => B (.InvalidBand, [.int b])
      | none => A [.int (numOf is), .tup ((bandsI (numOf is)).map .int)])
    | none => False)
  | _, _ => False
abbrev c_Light___init__ : Ct := initK kLight
theorem mono_Light : Mono kLight := fun c ps A A' B B' h1 h2 h => by
  unfold kLight at h ⊢
  split at h
  · split at h
    · split at h
      · exact h2 _ h
      · exact h1 _ h
    · exact h.elim
  · exact h.elim
def k_Light : Ct := fun ps μ q x => match ps with
  | [] => q (lt 0) μ
  | ps => ps.length ≤ sizeLine ∧ mkK .Light kLight [.tup ps] μ q x
theorem kc_Light : MkC true .Light (starC 1 c_Light___init__) k_Light := (mkK_star mono_Light).imp fun ps μ q x h => by
  unfold k_Light at h
  split at h
  · exact ⟨Nat.zero_le _, rfl, h⟩
  · exact h
def L_Light___init__ : Tbl := []
def H_Light___init__ : Tbl := []
def Q_Light___init__ : Qt := []
def R_Light___init__ : Rt := { L := L_Light___init__, LH := H_Light___init__, Q := Q_Light___init__ }
theorem init_loop {y t : PV} {μ : Mu} {z : QX} {P : DEn} (hx : P.xc = fun xv _ μ => z xv μ) : ∀ (ns : List Int) (a : Int) (o : Option PV), (∀ o, (∀ b ∈ ns, badB b = false) → P.nx [some y, some t, some (.int (ns.foldl orB a)), o] μ) → (∀ b, ns.find? badB = some b → z (.InvalidBand, [.int b]) μ) →
    Lk (forD (.one 3) (f_Light___init___0.d R_Light___init__) (ns.map .int) P [some y, some t, some (.int a), o] μ)
  | [], a, o, h1, h2 => forD_n rfl (h1 o (fun _ h => nomatch h))
  | b :: ns, a, o, h1, h2 => by
    have hz : badB b = true → z (.InvalidBand, [.int b]) μ := fun hb => h2 b (List.find?_cons_of_pos hb)
    refine forD_c rfl ?_
    (conv => whnf); (repeat (first | (refine brT rfl ?_; (conv => whnf)) | (refine brF rfl ?_; (conv => whnf)) | (refine And.intro rfl ?_; (conv => whnf)) | (refine And.intro (Nat.le_of_ble_eq_true rfl) ?_; (conv => whnf)) | (refine And.intro (by assumption) ?_; (conv => whnf)) | (refine And.intro (by decide) ?_; (conv => whnf))))
    refine brD (fun e1 => ?_) fun e1 => ?_
    · (conv => whnf); (repeat (first | (refine brT rfl ?_; (conv => whnf)) | (refine brF rfl ?_; (conv => whnf)) | (refine And.intro rfl ?_; (conv => whnf)) | (refine And.intro (Nat.le_of_ble_eq_true rfl) ?_; (conv => whnf)) | (refine And.intro (by assumption) ?_; (conv => whnf)) | (refine And.intro (by decide) ?_; (conv => whnf))))
      refine brN (fun e2 => ?_) fun e2 => ?_
      · (conv => whnf); (repeat (first | (refine brT rfl ?_; (conv => whnf)) | (refine brF rfl ?_; (conv => whnf)) | (refine And.intro rfl ?_; (conv => whnf)) | (refine And.intro (Nat.le_of_ble_eq_true rfl) ?_; (conv => whnf)) | (refine And.intro (by assumption) ?_; (conv => whnf)) | (refine And.intro (by decide) ?_; (conv => whnf))))
        show P.xc _ _ _
        rw [hx]
        exact hz (by unfold badB; simp; omega)
      · have nb : badB b = false := by unfold badB; simp; omega
        (conv => whnf); (repeat (first | (refine brT rfl ?_; (conv => whnf)) | (refine brF rfl ?_; (conv => whnf)) | (refine And.intro rfl ?_; (conv => whnf)) | (refine And.intro (Nat.le_of_ble_eq_true rfl) ?_; (conv => whnf)) | (refine And.intro (by assumption) ?_; (conv => whnf)) | (refine And.intro (by decide) ?_; (conv => whnf))))
        refine ⟨⟨e1, by omega, by decide⟩, ?_⟩
        refine init_loop hx ns (orB a b) _ (fun o h => h1 o fun x hx => ?_) (fun x hx => h2 x ?_)
        · rcases List.mem_cons.mp hx with rfl | hx
          · exact nb
          · exact h x hx
        · rw [List.find?_cons_of_neg (by simp [nb])]; exact hx
    · (conv => whnf); (repeat (first | (refine brT rfl ?_; (conv => whnf)) | (refine brF rfl ?_; (conv => whnf)) | (refine And.intro rfl ?_; (conv => whnf)) | (refine And.intro (Nat.le_of_ble_eq_true rfl) ?_; (conv => whnf)) | (refine And.intro (by assumption) ?_; (conv => whnf)) | (refine And.intro (by decide) ?_; (conv => whnf))))
      show P.xc _ _ _
      rw [hx]
      exact hz (by unfold badB; simp; omega)
theorem pure_Light___init__ : ∀ as μ q z, c_Light___init__ as μ q z → t_Light___init___0.d R_Light___init__ (endsOf q z) (startE 4 as) μ := by
  rintro as μ q z ⟨y, c, ps, rfl, ey, h⟩
  unfold kLight at h
  split at h
  · split at h
    · rename_i ns is e
      have e := intsP_inv e
      subst e
      (conv => whnf); (repeat (first | (refine brT rfl ?_; (conv => whnf)) | (refine brF rfl ?_; (conv => whnf)) | (refine And.intro rfl ?_; (conv => whnf)) | (refine And.intro (Nat.le_of_ble_eq_true rfl) ?_; (conv => whnf)) | (refine And.intro (by assumption) ?_; (conv => whnf)) | (refine And.intro (by decide) ?_; (conv => whnf))))
      refine init_loop rfl is 0 none (fun o hg => ?_) (fun b hb => by simp only [hb] at h; exact h)
      simp only [find_none hg] at h
      obtain ⟨n0, n1⟩ := numOf_lt is 0 (by decide) (by decide) hg
      (conv => whnf); (repeat (first | (refine brT rfl ?_; (conv => whnf)) | (refine brF rfl ?_; (conv => whnf)) | (refine And.intro rfl ?_; (conv => whnf)) | (refine And.intro (Nat.le_of_ble_eq_true rfl) ?_; (conv => whnf)) | (refine And.intro (by assumption) ?_; (conv => whnf)) | (refine And.intro (by decide) ?_; (conv => whnf))))
      rw [ey]
      (conv => whnf); (repeat (first | (refine brT rfl ?_; (conv => whnf)) | (refine brF rfl ?_; (conv => whnf)) | (refine And.intro rfl ?_; (conv => whnf)) | (refine And.intro (Nat.le_of_ble_eq_true rfl) ?_; (conv => whnf)) | (refine And.intro (by assumption) ?_; (conv => whnf)) | (refine And.intro (by decide) ?_; (conv => whnf))))
      refine lcD_one (fun p => match p with | .int k => decide (((is.foldl orB 0) / 2 ^ k.toNat) % 2 = 1) | _ => false) id _ _ (fun x hx k hk => ?_) (fun x hx _ k hk => hk) ?_
      · have hx : x ∈ rng6 := hx
        simp only [rng6, List.mem_cons, List.not_mem_nil, or_false] at hx
        rcases hx with rfl | rfl | rfl | rfl | rfl | rfl <;> ((conv => whnf); (repeat (first | (refine brT rfl ?_; (conv => whnf)) | (refine brF rfl ?_; (conv => whnf)) | (refine And.intro rfl ?_; (conv => whnf)) | (refine And.intro (Nat.le_of_ble_eq_true rfl) ?_; (conv => whnf)) | (refine And.intro (by assumption) ?_; (conv => whnf)) | (refine And.intro (by decide) ?_; (conv => whnf)))); rw [bit_and n0 n1 (by decide)]; exact hk)
      · have e : (List.filter (fun p => match p with | .int k => decide (((is.foldl orB 0) / 2 ^ k.toNat) % 2 = 1) | _ => false) (rangeP 0 (6 : Int).toNat)).map id = (bandsI (numOf is)).map .int := rng6_map (fun k => decide (((is.foldl orB 0) / 2 ^ k.toNat) % 2 = 1)) _ fun _ => rfl
        rw [e]
        (conv => whnf); (repeat (first | (refine brT rfl ?_; (conv => whnf)) | (refine brF rfl ?_; (conv => whnf)) | (refine And.intro rfl ?_; (conv => whnf)) | (refine And.intro (Nat.le_of_ble_eq_true rfl) ?_; (conv => whnf)) | (refine And.intro (by assumption) ?_; (conv => whnf)) | (refine And.intro (by decide) ?_; (conv => whnf))))
        rw [Mu.put_same]
        (conv => whnf); (repeat (first | (refine brT rfl ?_; (conv => whnf)) | (refine brF rfl ?_; (conv => whnf)) | (refine And.intro rfl ?_; (conv => whnf)) | (refine And.intro (Nat.le_of_ble_eq_true rfl) ?_; (conv => whnf)) | (refine And.intro (by assumption) ?_; (conv => whnf)) | (refine And.intro (by decide) ?_; (conv => whnf))))
        rw [Mu.put_put]
        exact h.2
    · exact h.elim
  · exact h.elim
end Px
namespace Px
open PySem PySem.Spec PyProof.Rows L2
def t_Film_nothing_0 : ZB := bOne (sRet (zMkV .Film true (zVar 0) (zCons (zTup (zCons (zMk0 .Light true) (zCons (zMk0 .Light true) (zCons (zBl false) zNil)))) (zCons (zTup (zCons (zMk0 .Light true) (zCons (zMk0 .Light true) (zCons (zBl true) zNil)))) zNil))))
def c_Film_nothing : Ct := fun as μ q _ => match as with
  | [.cls .Film] => q nothingF μ
  | _ => False
theorem len_Film_nothing : ∀ as μ q z, c_Film_nothing as μ q z → as.length = 1 := fun as μ q z h => by
  unfold c_Film_nothing at h
  split at h <;> first | rfl | exact h.elim
def L_Film_nothing : Tbl := [(.k .Film true [], k_Film), (.k .Light true [], k_Light)]
def H_Film_nothing : Tbl := []
def Q_Film_nothing : Qt := []
def R_Film_nothing : Rt := { L := L_Film_nothing, LH := H_Film_nothing, Q := Q_Film_nothing }
theorem pure_Film_nothing : ∀ as μ q z, c_Film_nothing as μ q z → t_Film_nothing_0.d R_Film_nothing (endsOf q z) (startE 1 as) μ := fun as μ q z h => by
  unfold c_Film_nothing at h
  split at h
  · (conv => whnf); (repeat (first | (refine brT rfl ?_; (conv => whnf)) | (refine brF rfl ?_; (conv => whnf)) | (refine And.intro rfl ?_; (conv => whnf)) | (refine And.intro (Nat.le_of_ble_eq_true rfl) ?_; (conv => whnf)) | (refine And.intro (by assumption) ?_; (conv => whnf)) | (refine And.intro (by decide) ?_; (conv => whnf))))
    exact h
  · exact h.elim
end Px
namespace Px
open PySem PySem.Spec PyProof.Rows L2
def t_Ink_film_4 : ZB := bOne (sRet (zMk .Film true (zCons (zVar 1) (zCons (zVar 1) zNil))))
def t_Ink_film_3 : ZB := bCons (sIf (tCmp .Eq (zAtt "takes" (zVar 0)) (zStr "inked")) (bOne (sRet (zMk .Film true (zCons (zAtt "bare" (zVar 2)) (zCons (zVar 1) zNil))))) bNil) t_Ink_film_4
def t_Ink_film_2 : ZB := bCons (sIf (tCmp .Eq (zAtt "takes" (zVar 0)) (zStr "bare")) (bOne (sRet (zMk .Film true (zCons (zVar 1) (zCons (zAtt "inked" (zVar 2)) zNil))))) bNil) t_Ink_film_3
def t_Ink_film_1 : ZB := bCons (sSet 2 (zCm0 .Film 293 (zCls .Film))) t_Ink_film_2
def t_Ink_film_0 : ZB := bCons (sSet 1 (zTup (zCons (zAtt "off" (zVar 0)) (zCons (zAtt "on" (zVar 0)) (zCons (zBl true) zNil))))) t_Ink_film_1
def c_Ink_film : Ct := fun as μ q _ => match as with
  | [.obj c [off, on, .str z]] => inkC c = true ∧ q (filmOf z off on) μ
  | _ => False
theorem len_Ink_film : ∀ as μ q z, c_Ink_film as μ q z → as.length = 1 := fun as μ q z h => by
  unfold c_Ink_film at h
  split at h <;> first | rfl | exact h.elim
def L_Ink_film : Tbl := [(.cm .Film 293 [], c_Film_nothing), (.k .Film true [], k_Film)]
def H_Ink_film : Tbl := []
def Q_Ink_film : Qt := []
def R_Ink_film : Rt := { L := L_Ink_film, LH := H_Ink_film, Q := Q_Ink_film }
theorem pure_Ink_film : ∀ as μ q z, c_Ink_film as μ q z → t_Ink_film_0.d R_Ink_film (endsOf q z) (startE 3 as) μ := fun as μ q z h => by
  unfold c_Ink_film at h
  split at h
  · obtain ⟨hc, h⟩ := h
    unfold filmOf at h
    cases ‹Cl› <;> first | exact absurd hc (by decide) | skip
    all_goals
      (conv => whnf); (repeat (first | (refine brT rfl ?_; (conv => whnf)) | (refine brF rfl ?_; (conv => whnf)) | (refine And.intro rfl ?_; (conv => whnf)) | (refine And.intro (Nat.le_of_ble_eq_true rfl) ?_; (conv => whnf)) | (refine And.intro (by assumption) ?_; (conv => whnf)) | (refine And.intro (by decide) ?_; (conv => whnf))))
      refine brD (fun e => ?_) fun e => ?_
      · rw [if_pos e] at h
        (conv => whnf); (repeat (first | (refine brT rfl ?_; (conv => whnf)) | (refine brF rfl ?_; (conv => whnf)) | (refine And.intro rfl ?_; (conv => whnf)) | (refine And.intro (Nat.le_of_ble_eq_true rfl) ?_; (conv => whnf)) | (refine And.intro (by assumption) ?_; (conv => whnf)) | (refine And.intro (by decide) ?_; (conv => whnf))))
        exact h
      · rw [if_neg e] at h
        (conv => whnf); (repeat (first | (refine brT rfl ?_; (conv => whnf)) | (refine brF rfl ?_; (conv => whnf)) | (refine And.intro rfl ?_; (conv => whnf)) | (refine And.intro (Nat.le_of_ble_eq_true rfl) ?_; (conv => whnf)) | (refine And.intro (by assumption) ?_; (conv => whnf)) | (refine And.intro (by decide) ?_; (conv => whnf))))
        refine brD (fun e => ?_) fun e => ?_
        · rw [if_pos e] at h
          (conv => whnf); (repeat (first | (refine brT rfl ?_; (conv => whnf)) | (refine brF rfl ?_; (conv => whnf)) | (refine And.intro rfl ?_; (conv => whnf)) | (refine And.intro (Nat.le_of_ble_eq_true rfl) ?_; (conv => whnf)) | (refine And.intro (by assumption) ?_; (conv => whnf)) | (refine And.intro (by decide) ?_; (conv => whnf))))
          exact h
        · rw [if_neg e] at h
          (conv => whnf); (repeat (first | (refine brT rfl ?_; (conv => whnf)) | (refine brF rfl ?_; (conv => whnf)) | (refine And.intro rfl ?_; (conv => whnf)) | (refine And.intro (Nat.le_of_ble_eq_true rfl) ?_; (conv => whnf)) | (refine And.intro (by assumption) ?_; (conv => whnf)) | (refine And.intro (by decide) ?_; (conv => whnf))))
          exact h
  · exact h.elim
end Px
namespace Px
open PySem PySem.Spec PyProof.Rows L2
def t_Light_numbered_2 : ZB := bOne (sRet (zMkVS .Light true (zVar 0) (zVar 2)))
def t_Light_numbered_1 : ZB := bCons (sSetL 2 true (.one 3) [3] (iRg1 (zInt 6)) (tsOne (tCmp .Eq (zBin .BitAnd (zBin .RShift (zVar 1) (zVar 3)) (zInt 1)) (zInt 1))) (zVar 3)) t_Light_numbered_2
def t_Light_numbered_0 : ZB := bCons (sIf (tNot (tChain .LtE .Lt (zInt 0) (zVar 1) (zInt 64))) (bOne (sRaise .InvalidBand "band" (zCons (zVar 1) zNil))) bNil) t_Light_numbered_1
def c_Light_numbered : Ct := fun as μ q x => match as with
  | [.cls .Light, .int n] => br (decide (R6 n)) (q (lt n) μ) (x (.InvalidBand, [.int n]) μ)
  | _ => False
theorem len_Light_numbered : ∀ as μ q z, c_Light_numbered as μ q z → as.length = 2 := fun as μ q z h => by
  unfold c_Light_numbered at h
  split at h <;> first | rfl | exact h.elim
def L_Light_numbered : Tbl := [(.k .Light true [], k_Light)]
def H_Light_numbered : Tbl := []
def Q_Light_numbered : Qt := []
def R_Light_numbered : Rt := { L := L_Light_numbered, LH := H_Light_numbered, Q := Q_Light_numbered }
theorem pure_Light_numbered : ∀ as μ q z, c_Light_numbered as μ q z → t_Light_numbered_0.d R_Light_numbered (endsOf q z) (startE 4 as) μ := fun as μ q z h => by
  unfold c_Light_numbered at h
  split at h
  · rename_i n
    (conv => whnf); (repeat (first | (refine brT rfl ?_; (conv => whnf)) | (refine brF rfl ?_; (conv => whnf)) | (refine And.intro rfl ?_; (conv => whnf)) | (refine And.intro (Nat.le_of_ble_eq_true rfl) ?_; (conv => whnf)) | (refine And.intro (by assumption) ?_; (conv => whnf)) | (refine And.intro (by decide) ?_; (conv => whnf))))
    refine brD (fun e1 => ?_) fun e1 => ?_
    · (conv => whnf); (repeat (first | (refine brT rfl ?_; (conv => whnf)) | (refine brF rfl ?_; (conv => whnf)) | (refine And.intro rfl ?_; (conv => whnf)) | (refine And.intro (Nat.le_of_ble_eq_true rfl) ?_; (conv => whnf)) | (refine And.intro (by assumption) ?_; (conv => whnf)) | (refine And.intro (by decide) ?_; (conv => whnf))))
      refine brN (fun e2 => ?_) fun e2 => ?_
      · have h := brE_f (decide_eq_false (by omega)) h
        (conv => whnf); (repeat (first | (refine brT rfl ?_; (conv => whnf)) | (refine brF rfl ?_; (conv => whnf)) | (refine And.intro rfl ?_; (conv => whnf)) | (refine And.intro (Nat.le_of_ble_eq_true rfl) ?_; (conv => whnf)) | (refine And.intro (by assumption) ?_; (conv => whnf)) | (refine And.intro (by decide) ?_; (conv => whnf))))
        exact h
      · have r : R6 n := ⟨e1, e2⟩
        have h := brE_t (decide_eq_true r) h
        (conv => whnf); (repeat (first | (refine brT rfl ?_; (conv => whnf)) | (refine brF rfl ?_; (conv => whnf)) | (refine And.intro rfl ?_; (conv => whnf)) | (refine And.intro (Nat.le_of_ble_eq_true rfl) ?_; (conv => whnf)) | (refine And.intro (by assumption) ?_; (conv => whnf)) | (refine And.intro (by decide) ?_; (conv => whnf))))
        refine lcD_one (fun p => match p with | .int k => decide ((n / 2 ^ k.toNat) % 2 = 1) | _ => false) id _ _ (fun x hx k hk => ?_) (fun x hx _ k hk => hk) ?_
        · have hx : x ∈ rng6 := hx
          simp only [rng6, List.mem_cons, List.not_mem_nil, or_false] at hx
          rcases hx with rfl | rfl | rfl | rfl | rfl | rfl <;> ((conv => whnf); (repeat (first | (refine brT rfl ?_; (conv => whnf)) | (refine brF rfl ?_; (conv => whnf)) | (refine And.intro rfl ?_; (conv => whnf)) | (refine And.intro (Nat.le_of_ble_eq_true rfl) ?_; (conv => whnf)) | (refine And.intro (by assumption) ?_; (conv => whnf)) | (refine And.intro (by decide) ?_; (conv => whnf)))); rw [bit_and r.1 r.2 (by decide)]; exact hk)
        · have e : (List.filter (fun p => match p with | .int k => decide ((n / 2 ^ k.toNat) % 2 = 1) | _ => false) (rangeP 0 (6 : Int).toNat)).map id = (bandsI n).map .int := rng6_map (fun k => decide ((n / 2 ^ k.toNat) % 2 = 1)) _ fun _ => rfl
          rw [e]
          (conv => whnf); (repeat (first | (refine brT rfl ?_; (conv => whnf)) | (refine brF rfl ?_; (conv => whnf)) | (refine And.intro rfl ?_; (conv => whnf)) | (refine And.intro (Nat.le_of_ble_eq_true rfl) ?_; (conv => whnf)) | (refine And.intro (by assumption) ?_; (conv => whnf)) | (refine And.intro (by decide) ?_; (conv => whnf))))
          have ek := numOf_bands r.1 r.2
          split
          · rename_i eb
            have e0 : bandsI n = [] := by
              have : (bandsI n).map PV.int = [] := by simpa using eb
              exact List.map_eq_nil_iff.mp this
            have e1 : n = 0 := by rw [← ek, e0]; rfl
            subst e1
            exact h
          · refine ⟨?_, ?_⟩
            · rw [List.nil_append, List.append_nil, List.length_map, sizeLine_eq]
              exact Nat.le_trans (List.length_filter_le _ _) (by decide)
            · unfold mkK kLight
              rw [List.nil_append, List.append_nil]
              simp only [intsP_map, find_none (bands_good n), ek]
              exact ⟨rfl, h⟩
    · have h := brE_f (decide_eq_false (by omega)) h
      (conv => whnf); (repeat (first | (refine brT rfl ?_; (conv => whnf)) | (refine brF rfl ?_; (conv => whnf)) | (refine And.intro rfl ?_; (conv => whnf)) | (refine And.intro (Nat.le_of_ble_eq_true rfl) ?_; (conv => whnf)) | (refine And.intro (by assumption) ?_; (conv => whnf)) | (refine And.intro (by decide) ?_; (conv => whnf))))
      exact h
  · exact h.elim
end Px
namespace Px
open PySem PySem.Spec PyProof.Rows L2
def t_Light___and___0 : ZB := bOne (sRet (zCm .Light 294 (zCls .Light) (zCons (zBin .BitAnd (zAtt "number" (zVar 0)) (zAtt "number" (zVar 1))) zNil)))
def c_Light___and__ : Ct := fun as μ q _ => match as with
  | [.obj .Light [.int m, .tup _], .obj .Light [.int n, .tup _]] => R6 m ∧ R6 n ∧ q (lt (Builtin.bitAnd m n)) μ
  | _ => False
theorem len_Light___and__ : ∀ as μ q z, c_Light___and__ as μ q z → as.length = 2 := fun as μ q z h => by
  unfold c_Light___and__ at h
  split at h <;> first | rfl | exact h.elim
def L_Light___and__ : Tbl := [(.cm .Light 294 [], c_Light_numbered)]
def H_Light___and__ : Tbl := []
def Q_Light___and__ : Qt := []
def R_Light___and__ : Rt := { L := L_Light___and__, LH := H_Light___and__, Q := Q_Light___and__ }
theorem pure_Light___and__ : ∀ as μ q z, c_Light___and__ as μ q z → t_Light___and___0.d R_Light___and__ (endsOf q z) (startE 2 as) μ := fun as μ q z h => by
  unfold c_Light___and__ at h
  split at h
  · obtain ⟨hm, hn, h⟩ := h
    (conv => whnf); (repeat (first | (refine brT rfl ?_; (conv => whnf)) | (refine brF rfl ?_; (conv => whnf)) | (refine And.intro rfl ?_; (conv => whnf)) | (refine And.intro (Nat.le_of_ble_eq_true rfl) ?_; (conv => whnf)) | (refine And.intro (by assumption) ?_; (conv => whnf)) | (refine And.intro (by decide) ?_; (conv => whnf))))
    refine brT (decide_eq_true (rng_and hm hn)) ?_
    exact h
  · exact h.elim
end Px
namespace Px
open PySem PySem.Spec PyProof.Rows L2
def t_Light___bool___0 : ZB := bOne (sRet (zBlt .bool (zCons (zCmp .Gt (zAtt "number" (zVar 0)) (zInt 0)) zNil)))
def c_Light___bool__ : Ct := fun as μ q _ => match as with
  | [.obj .Light [.int m, .tup _]] => q (.bl (decide (0 < m))) μ
  | _ => False
theorem len_Light___bool__ : ∀ as μ q z, c_Light___bool__ as μ q z → as.length = 1 := fun as μ q z h => by
  unfold c_Light___bool__ at h
  split at h <;> first | rfl | exact h.elim
def L_Light___bool__ : Tbl := []
def H_Light___bool__ : Tbl := []
def Q_Light___bool__ : Qt := []
def R_Light___bool__ : Rt := { L := L_Light___bool__, LH := H_Light___bool__, Q := Q_Light___bool__ }
theorem pure_Light___bool__ : ∀ as μ q z, c_Light___bool__ as μ q z → t_Light___bool___0.d R_Light___bool__ (endsOf q z) (startE 1 as) μ := fun as μ q z h => by
  unfold c_Light___bool__ at h
  split at h
  · (conv => whnf); (repeat (first | (refine brT rfl ?_; (conv => whnf)) | (refine brF rfl ?_; (conv => whnf)) | (refine And.intro rfl ?_; (conv => whnf)) | (refine And.intro (Nat.le_of_ble_eq_true rfl) ?_; (conv => whnf)) | (refine And.intro (by assumption) ?_; (conv => whnf)) | (refine And.intro (by decide) ?_; (conv => whnf))))
    exact h
  · exact h.elim
end Px
namespace Px
open PySem PySem.Spec PyProof.Rows L2
def t_Ink___init___5 : ZB := bOne (sAttr "takes" (zVar 0) (zVar 3))
def t_Ink___init___4 : ZB := bCons (sAttr "on" (zVar 0) (zVar 2)) t_Ink___init___5
def t_Ink___init___3 : ZB := bCons (sAttr "off" (zVar 0) (zVar 1)) t_Ink___init___4
def t_Ink___init___2 : ZB := bCons (sIf (tCmp .NotIn (zVar 3) (zCval .Ink "TAKES" (.txs ["any", "bare", "inked"]) (zCls .Ink))) (bOne (sRaise .InvalidTakes "takes" (zCons (zVar 3) zNil))) bNil) t_Ink___init___3
def t_Ink___init___1 : ZB := bCons (sIf (tTr (zVar 4)) (bOne (sRaise .InvalidInk "band" (zCons (zIdx (zAtt "bands" (zVar 4)) (zInt 0)) zNil))) bNil) t_Ink___init___2
def t_Ink___init___0 : ZB := bCons (sSet 4 (zBin .BitAnd (zVar 1) (zVar 2))) t_Ink___init___1
def kInk : Kc := fun _ ps A B => match ps with
  | [.obj .Light [.int m, .tup a], .obj .Light [.int n, .tup b], .str z] => R6 m ∧ R6 n ∧ a = (bandsI m).map .int ∧ b = (bandsI n).map .int ∧ br (decide (Builtin.bitAnd m n = 0)) (br (takesB z) (A [lt m, lt n, .str z]) (B (.InvalidTakes, [.str z]))) (B (.InvalidInk, [.int (lowB (Builtin.bitAnd m n))]))
  | _ => False
def kInk' : Kc := fun c ps A B => inkC c = true ∧ kInk c ps A B
abbrev c_Ink___init__ : Ct := initK kInk'
theorem len_Ink___init__ : ∀ as μ q z, c_Ink___init__ as μ q z → as.length = 4 := fun as μ q z ⟨y, c, ps, e, _, _, h⟩ => by
  subst e
  unfold kInk at h
  split at h <;> first | rfl | exact h.elim
def L_Ink___init__ : Tbl := [(.m .Light 2 [], c_Light___and__), (.m .Light 8 [], c_Light___bool__)]
def H_Ink___init__ : Tbl := []
def Q_Ink___init__ : Qt := []
def R_Ink___init__ : Rt := { L := L_Ink___init__, LH := H_Ink___init__, Q := Q_Ink___init__ }
theorem pure_Ink___init__ : ∀ as μ q z, c_Ink___init__ as μ q z → t_Ink___init___0.d R_Ink___init__ (endsOf q z) (startE 5 as) μ := by
  rintro as μ q z ⟨y, c, ps, rfl, ey, hc, h⟩
  unfold kInk at h
  split at h
  · rename_i m a n b z
    obtain ⟨hm, hn, rfl, rfl, h⟩ := h
    (conv => whnf); (repeat (first | (refine brT rfl ?_; (conv => whnf)) | (refine brF rfl ?_; (conv => whnf)) | (refine And.intro rfl ?_; (conv => whnf)) | (refine And.intro (Nat.le_of_ble_eq_true rfl) ?_; (conv => whnf)) | (refine And.intro (by assumption) ?_; (conv => whnf)) | (refine And.intro (by decide) ?_; (conv => whnf))))
    refine brD (fun e => ?_) fun e => ?_
    · have h := brE_f (decide_eq_false (by omega)) h
      obtain ⟨bs, eb⟩ := lowB_at (rng_and hm hn) (by omega)
      (conv => whnf); (repeat (first | (refine brT rfl ?_; (conv => whnf)) | (refine brF rfl ?_; (conv => whnf)) | (refine And.intro rfl ?_; (conv => whnf)) | (refine And.intro (Nat.le_of_ble_eq_true rfl) ?_; (conv => whnf)) | (refine And.intro (by assumption) ?_; (conv => whnf)) | (refine And.intro (by decide) ?_; (conv => whnf))))
      rw [eb, show atI (List.map PV.int (lowB (Builtin.bitAnd m n) :: bs)) 0 = some (.int (lowB (Builtin.bitAnd m n))) from atI_nat (j := 0) rfl]
      exact h
    · have e : Builtin.bitAnd m n = 0 := by have := (rng_and hm hn).1; omega
      have h := brE_t (decide_eq_true e) h
      (conv => whnf); (repeat (first | (refine brT rfl ?_; (conv => whnf)) | (refine brF rfl ?_; (conv => whnf)) | (refine And.intro rfl ?_; (conv => whnf)) | (refine And.intro (Nat.le_of_ble_eq_true rfl) ?_; (conv => whnf)) | (refine And.intro (by assumption) ?_; (conv => whnf)) | (refine And.intro (by decide) ?_; (conv => whnf))))
      have et : inP (.str z) (([("any" : Str), "bare", "inked"] : List Str).map PV.str) = takesB z := by
        show (("any" : Str) == z || (("bare" : Str) == z || (("inked" : Str) == z || false))) = _
        unfold takesB
        rw [Bool.or_false, Bool.eq_iff_iff]
        simp only [Bool.or_eq_true, beq_iff_eq, decide_eq_true_eq]
        exact ⟨fun h => h.imp Eq.symm (·.imp Eq.symm Eq.symm), fun h => h.imp Eq.symm (·.imp Eq.symm Eq.symm)⟩
      refine br_of (fun e2 => ?_) fun e2 => ?_
      · have e3 : takesB z = false := by rw [← et]; simpa [sgn] using e2
        have h := brE_f e3 h
        (conv => whnf); (repeat (first | (refine brT rfl ?_; (conv => whnf)) | (refine brF rfl ?_; (conv => whnf)) | (refine And.intro rfl ?_; (conv => whnf)) | (refine And.intro (Nat.le_of_ble_eq_true rfl) ?_; (conv => whnf)) | (refine And.intro (by assumption) ?_; (conv => whnf)) | (refine And.intro (by decide) ?_; (conv => whnf))))
        exact h
      · have e3 : takesB z = true := by rw [← et]; simpa [sgn] using e2
        have h := brE_t e3 h
        cases c <;> first | exact absurd hc (by decide) | skip
        all_goals
          (conv => whnf); (repeat (first | (refine brT rfl ?_; (conv => whnf)) | (refine brF rfl ?_; (conv => whnf)) | (refine And.intro rfl ?_; (conv => whnf)) | (refine And.intro (Nat.le_of_ble_eq_true rfl) ?_; (conv => whnf)) | (refine And.intro (by assumption) ?_; (conv => whnf)) | (refine And.intro (by decide) ?_; (conv => whnf))))
          rw [ey]
          (conv => whnf); (repeat (first | (refine brT rfl ?_; (conv => whnf)) | (refine brF rfl ?_; (conv => whnf)) | (refine And.intro rfl ?_; (conv => whnf)) | (refine And.intro (Nat.le_of_ble_eq_true rfl) ?_; (conv => whnf)) | (refine And.intro (by assumption) ?_; (conv => whnf)) | (refine And.intro (by decide) ?_; (conv => whnf))))
          rw [Mu.put_same]
          (conv => whnf); (repeat (first | (refine brT rfl ?_; (conv => whnf)) | (refine brF rfl ?_; (conv => whnf)) | (refine And.intro rfl ?_; (conv => whnf)) | (refine And.intro (Nat.le_of_ble_eq_true rfl) ?_; (conv => whnf)) | (refine And.intro (by assumption) ?_; (conv => whnf)) | (refine And.intro (by decide) ?_; (conv => whnf))))
          rw [Mu.put_same]
          (conv => whnf); (repeat (first | (refine brT rfl ?_; (conv => whnf)) | (refine brF rfl ?_; (conv => whnf)) | (refine And.intro rfl ?_; (conv => whnf)) | (refine And.intro (Nat.le_of_ble_eq_true rfl) ?_; (conv => whnf)) | (refine And.intro (by assumption) ?_; (conv => whnf)) | (refine And.intro (by decide) ?_; (conv => whnf))))
          rw [Mu.put_put, Mu.put_put]
          exact h.2
  · exact h.elim
end Px
namespace Px
open PySem PySem.Spec PyProof.Rows L2
def a_Filter___init__ : ZA := (zCons (zVar 1) (zCons (zMk0 .Light true) zNil))
def kk_Filter___init__ : ZK := (zKcons (zVar 2) zKnil)
def kFilter : Kc := fun c ps A B => match c, ps with
  | .Filter, [.obj .Light [.int m, .tup a], .str z] => R6 m ∧ a = (bandsI m).map .int ∧ br (takesB z) (A [lt m, lt 0, .str z]) (B (.InvalidTakes, [.str z]))
  | _, _ => False
abbrev c_Filter___init__ : Ct := initK kFilter
theorem mono_Filter : Mono kFilter := fun c ps A A' B B' h1 h2 h => by
  unfold kFilter at h ⊢
  split at h
  · exact ⟨h.1, h.2.1, br_mono h.2.2 (h1 _) (h2 _)⟩
  · exact h.elim
def k_Filter : Ct := mkK .Filter kFilter
theorem kc_Filter : MkC true .Filter c_Filter___init__ k_Filter := mkK_ok mono_Filter
theorem len_Filter___init__ : ∀ as μ q z, c_Filter___init__ as μ q z → as.length = 3 := fun as μ q z ⟨y, c, ps, e, _, h⟩ => by
  subst e
  unfold kFilter at h
  split at h <;> first | rfl | exact h.elim
def L_Filter___init__ : Tbl := [(.k .Light true [], k_Light), (.m .Ink 13 [331], c_Ink___init__)]
def H_Filter___init__ : Tbl := []
def Q_Filter___init__ : Qt := []
def R_Filter___init__ : Rt := { L := L_Filter___init__, LH := H_Filter___init__, Q := Q_Filter___init__ }
theorem pure_Filter___init__ : ∀ as μ q z, c_Filter___init__ as μ q z → dSup (supT R_Filter___init__ .Filter .Ink 13 [331]) 1 (a_Filter___init__.d R_Filter___init__) (kk_Filter___init__.d R_Filter___init__) (endsOf q z) (startE 4 as) μ := by
  rintro as μ q z ⟨y, c, ps, rfl, ey, h⟩
  unfold kFilter at h
  split at h
  · obtain ⟨hm, rfl, h⟩ := h
    (conv => whnf); (repeat (first | (refine brT rfl ?_; (conv => whnf)) | (refine brF rfl ?_; (conv => whnf)) | (refine And.intro rfl ?_; (conv => whnf)) | (refine And.intro (Nat.le_of_ble_eq_true rfl) ?_; (conv => whnf)) | (refine And.intro (by assumption) ?_; (conv => whnf)) | (refine And.intro (by decide) ?_; (conv => whnf))))
    rw [rcv_new ey]
    (conv => whnf); (repeat (first | (refine brT rfl ?_; (conv => whnf)) | (refine brF rfl ?_; (conv => whnf)) | (refine And.intro rfl ?_; (conv => whnf)) | (refine And.intro (Nat.le_of_ble_eq_true rfl) ?_; (conv => whnf)) | (refine And.intro (by assumption) ?_; (conv => whnf)) | (refine And.intro (by decide) ?_; (conv => whnf))))
    refine ⟨y, .Filter, _, rfl, ey, rfl, hm, by decide, rfl, rfl, brT (decide_eq_true (and0 hm).1) h⟩
  · exact h.elim
end Px
namespace Px
open PySem PySem.Spec PyProof.Rows L2
def a_Bleach___init__ : ZA := (zCons (zMk0 .Light true) (zCons (zVar 1) zNil))
def kk_Bleach___init__ : ZK := (zKcons (zVar 2) zKnil)
def kBleach : Kc := fun c ps A B => match c, ps with
  | .Bleach, [.obj .Light [.int m, .tup a], .str z] => R6 m ∧ a = (bandsI m).map .int ∧ br (takesB z) (A [lt 0, lt m, .str z]) (B (.InvalidTakes, [.str z]))
  | _, _ => False
abbrev c_Bleach___init__ : Ct := initK kBleach
theorem mono_Bleach : Mono kBleach := fun c ps A A' B B' h1 h2 h => by
  unfold kBleach at h ⊢
  split at h
  · exact ⟨h.1, h.2.1, br_mono h.2.2 (h1 _) (h2 _)⟩
  · exact h.elim
def k_Bleach : Ct := mkK .Bleach kBleach
theorem kc_Bleach : MkC true .Bleach c_Bleach___init__ k_Bleach := mkK_ok mono_Bleach
theorem len_Bleach___init__ : ∀ as μ q z, c_Bleach___init__ as μ q z → as.length = 3 := fun as μ q z ⟨y, c, ps, e, _, h⟩ => by
  subst e
  unfold kBleach at h
  split at h <;> first | rfl | exact h.elim
def L_Bleach___init__ : Tbl := [(.k .Light true [], k_Light), (.m .Ink 13 [331], c_Ink___init__)]
def H_Bleach___init__ : Tbl := []
def Q_Bleach___init__ : Qt := []
def R_Bleach___init__ : Rt := { L := L_Bleach___init__, LH := H_Bleach___init__, Q := Q_Bleach___init__ }
theorem pure_Bleach___init__ : ∀ as μ q z, c_Bleach___init__ as μ q z → dSup (supT R_Bleach___init__ .Bleach .Ink 13 [331]) 1 (a_Bleach___init__.d R_Bleach___init__) (kk_Bleach___init__.d R_Bleach___init__) (endsOf q z) (startE 4 as) μ := by
  rintro as μ q z ⟨y, c, ps, rfl, ey, h⟩
  unfold kBleach at h
  split at h
  · obtain ⟨hm, rfl, h⟩ := h
    (conv => whnf); (repeat (first | (refine brT rfl ?_; (conv => whnf)) | (refine brF rfl ?_; (conv => whnf)) | (refine And.intro rfl ?_; (conv => whnf)) | (refine And.intro (Nat.le_of_ble_eq_true rfl) ?_; (conv => whnf)) | (refine And.intro (by assumption) ?_; (conv => whnf)) | (refine And.intro (by decide) ?_; (conv => whnf))))
    rw [rcv_new ey]
    (conv => whnf); (repeat (first | (refine brT rfl ?_; (conv => whnf)) | (refine brF rfl ?_; (conv => whnf)) | (refine And.intro rfl ?_; (conv => whnf)) | (refine And.intro (Nat.le_of_ble_eq_true rfl) ?_; (conv => whnf)) | (refine And.intro (by assumption) ?_; (conv => whnf)) | (refine And.intro (by decide) ?_; (conv => whnf))))
    refine ⟨y, .Bleach, _, rfl, ey, rfl, by decide, hm, rfl, rfl, brT (decide_eq_true (and0 hm).2.1) h⟩
  · exact h.elim
end Px
namespace Px
open PySem PySem.Spec PyProof.Rows L2
def t_Chart_fork_0 : ZB := bOne (sRet (zMk .Chart true (zCons (zVar 0) (zCons zNon (zCons (zVar 1) (zCons (zVar 2) zNil))))))
def c_Chart_fork : Ct := fun as μ q _ => match as with
  | [m, s, o] => q (.obj .Chart [m, .non, s, o]) μ
  | _ => False
theorem len_Chart_fork : ∀ as μ q z, c_Chart_fork as μ q z → as.length = 3 := fun as μ q z h => by
  unfold c_Chart_fork at h
  split at h <;> first | rfl | exact h.elim
def L_Chart_fork : Tbl := [(.k .Chart true [], k_Chart)]
def H_Chart_fork : Tbl := []
def Q_Chart_fork : Qt := []
def R_Chart_fork : Rt := { L := L_Chart_fork, LH := H_Chart_fork, Q := Q_Chart_fork }
theorem pure_Chart_fork : ∀ as μ q z, c_Chart_fork as μ q z → t_Chart_fork_0.d R_Chart_fork (endsOf q z) (startE 3 as) μ := fun as μ q z h => by
  unfold c_Chart_fork at h
  split at h
  · (conv => whnf); (repeat (first | (refine brT rfl ?_; (conv => whnf)) | (refine brF rfl ?_; (conv => whnf)) | (refine And.intro rfl ?_; (conv => whnf)) | (refine And.intro (Nat.le_of_ble_eq_true rfl) ?_; (conv => whnf)) | (refine And.intro (by assumption) ?_; (conv => whnf)) | (refine And.intro (by decide) ?_; (conv => whnf))))
    exact h
  · exact h.elim
end Px
namespace Px
open PySem PySem.Spec PyProof.Rows L2
/-- C.m is a staticmethod: its def at g -/
structure SMet (K : Frg) (C : Addr) (m : Str) (g : Addr) : Prop where
  at_ : ∃ p, PySem.W.findCls K (.ref C) (.type "type") m = some (.get (.builtin "staticmethod.__get__") (.ref p) .none (.ref C)) ∧ ∃ rest, PySem.W.recIn K p "staticmethod" = some (.ref g :: rest)
  kp : PySem.W.keepIn K (.ref g) = true
theorem ssB_ok {K : Frg} {c : Cl} {m : Str} (h : ssB K c m = true) : ClX.CRead K (ca K c) (.type "type") ∧ SMet K (ca K c) m (smFn K (ca K c) m) := by
  obtain ⟨h1, h⟩ := He.ba h
  obtain ⟨h2, h3⟩ := He.ba h
  obtain ⟨e1, e2⟩ := He5.wrapB_ok h2
  exact ⟨cread_ok h1, ⟨_, e1, e2⟩, h3⟩
section
variable {X : Cx} {pins : List (Addr × Obj)} {σ : L2.St} {H : Hp} {s : Shared} {C g : Addr} {m : Str} {A : Around} {E : Value → Shared → Prop}
theorem getst_ok {b : Bool} {Q : Value → Shared → Prop} (I : Inv X pins σ H s) (r : ClX.CRead X.K C (.type "type")) (k : SMet X.K C m g) (h : ∀ s', Inv X pins σ H s' → Q (.ref g) s') : wpAny (model X.prog X.w) A (getAttr (.ref C) m b) Q E s := by
  obtain ⟨⟨p, hf, rest, hp⟩, _⟩ := k
  refine PySem.W.cls_bind I.kIn r.rd hf ?_
  refine wpAny_call (PySem.W.sm_get (s := { s with toks := s.toks + 1 }) I.kIn hp (PySem.W.handed_on rfl ?_))
  exact h _ (I.tok _)
end
section
variable {X : Cx} {W : WX} {hot : Bool} {k : Nat} {m : Str} {apos pos : Pos} {o e : Expr} {es : List Expr} {ds : DA} {c : Cl} {g : Addr} {ct : Ct}
theorem e_static {pl : Sem Bool} (rd : ClX.CRead X.K (ca X.K c) (.type "type")) (sm : SMet X.K (ca X.K c) m g) (Fn : FnS hot X.prog X.w X.K X.mg X.base k g [] (spP X.K ct)) (md : Md X hot) (hr : Rm k X.A) (tk : TkI X W) (ho : EJ X W o (dC (.cls c))) (ha : AJ X W (e :: es) ds)
    (h2 : starEach (e :: es) X.env = (false, eval e X.env) :: starEach es X.env := by rfl) (h3 : (backTo pos (starEach es X.env)).any (·.1) = false := by rfl)
    (h4 : eval (.Call (.Attribute o m apos) (e :: es) [] pos) X.env = (do
      let ov ← eval o X.env
      standAt apos.atName
      let (g, first) ← holding [ov] (getMethod ov m pl)
      callWith pos g first (backTo pos (starEach (e :: es) X.env)) (backToKw pos (keywordEach [] X.env))) := by rfl) : EJ X W (.Call (.Attribute o m apos) (e :: es) [] pos) (dCall ct ds) := by
  refine ⟨fun pins s σ H Q J ⟨B, ρ, μ, G, q, z, R, h, gv, gx⟩ => ?_⟩
  refine PySem.W.methodCall_KW (pl := pl) (thn (ho.run pins s σ H (fun v H1 => ∃ μ1 G1, Go X.K B μ G H μ1 G1 H1 ∧ v = .ref (ca X.K c) ∧ dCall ct ds ρ μ1 q z) J ⟨B, ρ, μ, G, fun p μ1 => p = .cls c ∧ dCall ct ds ρ μ1 q z, z, R, ⟨rfl, h⟩, fun p v μ1 G1 H1 h0 g1 r1 => by
      obtain ⟨e1, h1⟩ := h0
      subst e1
      exact ⟨μ1, G1, g1, r1.cls_inv, h1⟩, gx⟩) fun u s1 ⟨v, H1, J1, rv, μ1, G1, g1, ev, h1⟩ => ?_) h4
  subst ev
  obtain rfl : u = Value.ref (ca X.K c) := rv
  refine PySem.W.method_cls J1.kIn rd.ga (getst_ok J1 rd sm fun s2 J2 => ?_)
  refine PySem.W.callWith_K (first := []) (h₀ := X.base) J.ok.mod.kin sm.kp (thn (ha.run pos pins s2 σ H1 (fun ws H2 => spP X.K ct ws H2 Q fun cls d H' => W cls d σ H') J2 ⟨B, ρ, μ1, G1, _, z, R.go g1, h1, fun ps ws μ2 G2 H2 h2 g2 r2 => spP_of (R.go (g1.trans g2)) r2 h2 (gv.go (g1.trans g2)) (gx.go (g1.trans g2)), gx.go g1⟩) fun us s3 ⟨ws, H2, J3, r, q2⟩ => ⟨J3.kIn, ?_⟩) h2 h3
  exact run_s (us := us) (ws := []) (vs := ws) Fn md hr tk J3 rfl (by rw [List.append_nil]; exact r) q2
end
end Px
namespace Px
open PySem PySem.Spec PyProof.Rows L2
end Px
namespace Px
open PySem PySem.Spec PyProof.Rows L2
end Px
namespace Px
open PySem PySem.Spec PyProof.Rows L2
theorem Good.prst {k : Nat} {R : Rt} {X : Cx} {W : WX} {c : Cc} (G : Good k R X W c) (cl : Cl) (x : Nat) (h : R.has (.st cl x []) = true) : ssB X.K cl (c.S.nm x) = true ∧ FnS (!c.cm) X.prog X.w X.K X.mg X.base k (smFn X.K (ca X.K cl) (c.S.nm x)) [] (spP X.K (R.ct (.st cl x []))) := G.pr _ _ (Rt.has_mem h)
/-- C.m(e, ..), m a staticmethod -/
def zSt (cl : Cl) (m : Nat) (as : ZA) : ZE where
  d := fun R => dHas (R.has (.st cl m [])) (dCall (R.ct (.st cl m [])) (as.d R))
  ck := fun c e => match e with
    | .Call (.Attribute (.Name y p) z apos) (a :: es) [] pos => decide (z = c.S.nm m) && (fewB (a :: es) [] apos pos && ((zCls cl).ck c (.Name y p) && (nstar a && (nost es && as.ck c (a :: es)))))
    | _ => false
  ok := fun {k R X W c e} h G => by
    split at h
    · rename_i y p z apos a es pos
      obtain ⟨h1, h⟩ := He.ba h
      obtain ⟨h2, h⟩ := He.ba h
      obtain ⟨h3, h⟩ := He.ba h
      obtain ⟨n1, h⟩ := He.ba h
      obtain ⟨n2, h4⟩ := He.ba h
      obtain rfl := of_decide_eq_true h1
      refine ⟨fun pins s σ H Q J ⟨B, ρ, μ, G1, q, z, R1, ⟨hm, hd⟩, gv, gx⟩ => ?_⟩
      obtain ⟨p1, p2⟩ := G.prst cl m hm
      obtain ⟨r1, r2⟩ := ssB_ok p1
      exact (e_static r1 r2 p2 G.md G.rm0 G.tk ((zCls cl).ok (R := R) h3 G) (as.ok h4 G) (star_cons n1) (nost_any n2) (eval_meth (ks := []) rfl h2 rfl)).run pins s σ H Q J ⟨B, ρ, μ, G1, q, z, R1, hd, gv, gx⟩
    · cases h
theorem prom_st {S : Stt} {hot : Bool} {P : Program} {w : World} {K : Frg} {mg : Str → Option Value} {base : Heap} {k : Nat} {c : Cl} {x : Nat} {ks : List Nat} {ct : Ct} (h : ssB K c (S.nm x) = true) (F : FnS hot P w K mg base k (smFn K (ca K c) (S.nm x)) (ks.map S.nm) (spP K ct)) : PromOk S hot P w K mg base k (.st c x ks) ct := ⟨h, F⟩
end Px
namespace Px
open PySem PySem.Spec PyProof.Rows L2
def t__law_made_v5_1 : ZB := bOne (sRet (zSt .Chart 260 (zCons (zIdx (zVar 0) (zInt 0)) (zCons (zCall 106 (zCons (zIdx (zVar 0) (zInt 1)) zNil)) (zCons (zCall 106 (zCons (zIdx (zVar 0) (zInt 2)) zNil)) zNil)))))
def t__law_made_v5_0 : ZB := bCons (sIf (tCmp .Is (zIdx (zVar 0) (zInt 0)) zNon) (bOne (sRet (zSt .Chart 250 (zCons (zIdx (zLst (zDisp (zCons (zCm0 .Film 293 (zCls .Film)) (zCons (zMeth0 255 (zMk .Filter true (zCons (zMk .Light true (zCons (zInt 0) zNil)) zNil))) (zCons (zMeth0 255 (zMk .Bleach true (zCons (zMk .Light true (zCons (zInt 0) (zCons (zInt 5) zNil))) zNil))) zNil))))) (zIdx (zVar 0) (zInt 1))) zNil)))) bNil) t__law_made_v5_1
def cn__law_made_v5 (n : Nat) : Ct := fun as μ q _ => match as with
  | [d] => ∃ t : Tree, d = t.tp lfI ∧ t.ok LeafI ∧ t.dep ≤ n ∧ q t.pv μ
  | _ => False
theorem len__law_made_v5 : ∀ n as μ q z, cn__law_made_v5 n as μ q z → as.length = 1 := fun n as μ q z h => by
  unfold cn__law_made_v5 at h
  split at h <;> first | rfl | exact h.elim
def cp__law_made_v5 : Nat → Ct
  | 0 => noCt
  | n + 1 => cn__law_made_v5 n
abbrev c__law_made_v5 : Ct := cn__law_made_v5 6
def L__law_made_v5 (n : Nat) : Tbl := [(.st .Chart 250 [], c_Chart_end), (.cm .Film 293 [], c_Film_nothing), (.m .Ink 255 [], c_Ink_film), (.m .Filter 255 [], c_Ink_film), (.m .Bleach 255 [], c_Ink_film), (.k .Filter true [], (dfl [.str "any"] k_Filter)), (.k .Light true [], k_Light), (.k .Bleach true [], (dfl [.str "any"] k_Bleach)), (.st .Chart 260 [], c_Chart_fork), (.g 106 [], (cp__law_made_v5 n))]
def H__law_made_v5 (n : Nat) : Tbl := []
def Q__law_made_v5 (n : Nat) : Qt := []
def R__law_made_v5 (n : Nat) : Rt := { L := L__law_made_v5 n, LH := H__law_made_v5 n, Q := Q__law_made_v5 n }
theorem pure__law_made_v5 : ∀ n as μ q z, cn__law_made_v5 n as μ q z → t__law_made_v5_0.d (R__law_made_v5 n) (endsOf q z) (startE 1 as) μ := fun n as μ q z h => by
  unfold cn__law_made_v5 at h
  split at h
  · obtain ⟨t, rfl, hok, hn, h⟩ := h
    cases t with
    | leaf f =>
      rcases hok with rfl | rfl | rfl
      · (conv => whnf); (repeat (first | (refine brT rfl ?_; (conv => whnf)) | (refine brF rfl ?_; (conv => whnf)) | (refine And.intro rfl ?_; (conv => whnf)) | (refine And.intro (Nat.le_of_ble_eq_true rfl) ?_; (conv => whnf)) | (refine And.intro (by assumption) ?_; (conv => whnf)) | (refine And.intro (by decide) ?_; (conv => whnf))))
        exact h
      · (conv => whnf); (repeat (first | (refine brT rfl ?_; (conv => whnf)) | (refine brF rfl ?_; (conv => whnf)) | (refine And.intro rfl ?_; (conv => whnf)) | (refine And.intro (Nat.le_of_ble_eq_true rfl) ?_; (conv => whnf)) | (refine And.intro (by assumption) ?_; (conv => whnf)) | (refine And.intro (by decide) ?_; (conv => whnf))))
        rw [show numOf [0] = 1 by decide, filmOf_eq]
        exact h
      · (conv => whnf); (repeat (first | (refine brT rfl ?_; (conv => whnf)) | (refine brF rfl ?_; (conv => whnf)) | (refine And.intro rfl ?_; (conv => whnf)) | (refine And.intro (Nat.le_of_ble_eq_true rfl) ?_; (conv => whnf)) | (refine And.intro (by assumption) ?_; (conv => whnf)) | (refine And.intro (by decide) ?_; (conv => whnf))))
        rw [show numOf [0, 5] = 33 by decide, filmOf_eq]
        exact h
    | fork m s o =>
      cases n with
      | zero => cases hn
      | succ n =>
      have hn : max s.dep o.dep + 1 ≤ n + 1 := hn
      obtain ⟨h1, h2⟩ := hok
      (conv => whnf); (repeat (first | (refine brT rfl ?_; (conv => whnf)) | (refine brF rfl ?_; (conv => whnf)) | (refine And.intro rfl ?_; (conv => whnf)) | (refine And.intro (Nat.le_of_ble_eq_true rfl) ?_; (conv => whnf)) | (refine And.intro (by assumption) ?_; (conv => whnf)) | (refine And.intro (by decide) ?_; (conv => whnf))))
      refine ⟨s, rfl, h1, by omega, ?_⟩
      (conv => whnf); (repeat (first | (refine brT rfl ?_; (conv => whnf)) | (refine brF rfl ?_; (conv => whnf)) | (refine And.intro rfl ?_; (conv => whnf)) | (refine And.intro (Nat.le_of_ble_eq_true rfl) ?_; (conv => whnf)) | (refine And.intro (by assumption) ?_; (conv => whnf)) | (refine And.intro (by decide) ?_; (conv => whnf))))
      refine ⟨o, rfl, h2, by omega, ?_⟩
      (conv => whnf); (repeat (first | (refine brT rfl ?_; (conv => whnf)) | (refine brF rfl ?_; (conv => whnf)) | (refine And.intro rfl ?_; (conv => whnf)) | (refine And.intro (Nat.le_of_ble_eq_true rfl) ?_; (conv => whnf)) | (refine And.intro (by assumption) ?_; (conv => whnf)) | (refine And.intro (by decide) ?_; (conv => whnf))))
      exact h
  · exact h.elim
end Px
namespace Px
open PySem PySem.Spec PyProof.Rows L2
def t__law_is_0 : ZB := bOne (sRet (zAnd [(zBlt .isi (zCons (zVar 0) (zCons (zTy "bool") zNil))), (zCmp .Eq (zVar 0) (zVar 1))]))
def c__law_is : Ct := fun as μ q _ => match as with
  | [.bl i, .bl n] => q (.bl (decide (i = n))) μ
  | _ => False
theorem len__law_is : ∀ as μ q z, c__law_is as μ q z → as.length = 2 := fun as μ q z h => by
  unfold c__law_is at h
  split at h <;> first | rfl | exact h.elim
def L__law_is : Tbl := []
def H__law_is : Tbl := []
def Q__law_is : Qt := []
def R__law_is : Rt := { L := L__law_is, LH := H__law_is, Q := Q__law_is }
theorem pure__law_is : ∀ as μ q z, c__law_is as μ q z → t__law_is_0.d R__law_is (endsOf q z) (startE 2 as) μ := fun as μ q z h => by
  unfold c__law_is at h
  split at h
  · (conv => whnf); (repeat (first | (refine brT rfl ?_; (conv => whnf)) | (refine brF rfl ?_; (conv => whnf)) | (refine And.intro rfl ?_; (conv => whnf)) | (refine And.intro (Nat.le_of_ble_eq_true rfl) ?_; (conv => whnf)) | (refine And.intro (by assumption) ?_; (conv => whnf)) | (refine And.intro (by decide) ?_; (conv => whnf))))
    exact h
  · exact h.elim
end Px
namespace Px
open PySem PySem.Spec PyProof.Rows L2
section
variable {X : Cx} {W : WX}
theorem op_le_str {X : L2.Cx} : OpR X (compareOp .LtE) (fun x y H Q => ∃ i j : Str, x = .str i ∧ y = .str j ∧ Q (.bl (!decide (j.cps.toList < i.cps.toList))) H) := by
  intro pins s σ H x y v u Q I rx ry h
  obtain ⟨i, j, rfl, rfl, q⟩ := h
  obtain ⟨t, rfl⟩ := rx
  obtain ⟨t', rfl⟩ := ry
  exact PySem.P.le_str (fin_bl I q rfl)
def leS : F2 := onS fun i j q => q (.bl (!decide (j.cps.toList < i.cps.toList)))
theorem pop_leS {K : Frg} : POp K (fun x y H Q => ∃ i j : Str, x = .str i ∧ y = .str j ∧ Q (.bl (!decide (j.cps.toList < i.cps.toList))) H) leS := fun B μ G H a b va vb q Q o ra rb h gv => by
  obtain ⟨i, j, rfl, rfl, hq⟩ := onS_inv h
  exact ⟨i, j, ra.str_inv, rb.str_inv, gv _ _ _ _ hq (.refl o) (rep_bl _)⟩
theorem oj_leS : OpJ X W (compareOp .LtE) (fo leS) := .of op_le_str pop_leS
end
def tLeS (a b : ZE) : ZT where
  d := fun R => dB (dBin (fo leS) (a.d R) (b.d R))
  ck := fun c e => match e with
    | .Compare x [.LtE] [y] _ => noSet y && (a.ck c x && b.ck c y)
    | _ => false
  ok := fun {k R X W c e} h G => by
    split at h
    · rename_i x y p
      obtain ⟨h3, h⟩ := He.ba h
      obtain ⟨h4, h5⟩ := He.ba h
      exact t_cmp oj_leS (a.ok h4 G) (b.ok h5 G) (mark_of h3)
    · cases h
end Px
namespace Px
open PySem PySem.Spec PyProof.Rows L2
def t__law_plain_2 : ZB := bOne (sRet (zAnd [(zCall 133 (zCons (zIdx (zVar 0) (zInt 1)) (zCons (zIdx (zVar 0) (zInt 0)) zNil))), (zCall 133 (zCons (zIdx (zVar 0) (zInt 2)) (zCons (zIdx (zVar 0) (zInt 0)) zNil)))]))
def t__law_plain_1 : ZB := bCons (sIf (tOr [(tLeS (zIdx (zVar 0) (zInt 0)) (zVar 1)), (tCmp .Eq (zIdx (zVar 0) (zInt 1)) (zIdx (zVar 0) (zInt 2)))]) (bOne (sRet (zBl false))) bNil) t__law_plain_2
def t__law_plain_0 : ZB := bCons (sIf (tCmp .Is (zIdx (zVar 0) (zInt 0)) zNon) (bOne (sRet (zBl true))) bNil) t__law_plain_1
def cn__law_plain (n : Nat) : Ct := fun as μ q _ => match as with
  | [d, .str z] => ∃ t : Tree, d = t.tp lfI ∧ t.ok LeafI ∧ t.dep ≤ n ∧ t.dep ≤ 8 ∧ q (.bl (t.plA z)) μ
  | _ => False
theorem len__law_plain : ∀ n as μ q z, cn__law_plain n as μ q z → as.length = 2 := fun n as μ q z h => by
  unfold cn__law_plain at h
  split at h <;> first | rfl | exact h.elim
def cp__law_plain : Nat → Ct
  | 0 => noCt
  | n + 1 => cn__law_plain n
abbrev c__law_plain : Ct := cn__law_plain 6
def L__law_plain (n : Nat) : Tbl := [(.g 133 [], (cp__law_plain n))]
def H__law_plain (n : Nat) : Tbl := []
def Q__law_plain (n : Nat) : Qt := []
def R__law_plain (n : Nat) : Rt := { L := L__law_plain n, LH := H__law_plain n, Q := Q__law_plain n }
theorem ltCps_dec2 : ∀ a b : List Nat, ltCps a b = decide (a < b)
  | [], [] => by decide
  | [], b :: r => by
    rw [decide_eq_true (List.nil_lt_cons b r)] <;> rfl
  | a :: r, [] => by
    rw [decide_eq_false (List.not_lt_nil _)] <;> rfl
  | a :: r, b :: s => by
    have ih := ltCps_dec2 r s
    have e : (a :: r < b :: s) ↔ (a < b ∨ a = b ∧ r < s) := List.cons_lt_cons_iff
    unfold ltCps
    rw [ih]
    by_cases h1 : a < b <;> by_cases h2 : a = b <;> by_cases h3 : r < s <;> simp [e, h1, h2, h3]
theorem ltT_dec2 (m z : Str) : decide (m.cps.toList < z.cps.toList) = ltT m z := (ltCps_dec2 _ _).symm
theorem pure__law_plain : ∀ n as μ q z, cn__law_plain n as μ q z → t__law_plain_0.d (R__law_plain n) (endsOf q z) (startE 2 as) μ := fun n as μ q z h => by
  unfold cn__law_plain at h
  split at h
  · rename_i z
    obtain ⟨t, rfl, hok, hn, h8, h⟩ := h
    cases t with
    | leaf f =>
      (conv => whnf); (repeat (first | (refine brT rfl ?_; (conv => whnf)) | (refine brF rfl ?_; (conv => whnf)) | (refine And.intro rfl ?_; (conv => whnf)) | (refine And.intro (Nat.le_of_ble_eq_true rfl) ?_; (conv => whnf)) | (refine And.intro (by assumption) ?_; (conv => whnf)) | (refine And.intro (by decide) ?_; (conv => whnf))))
      exact h
    | fork m s o =>
      cases n with
      | zero => cases hn
      | succ n =>
      have hn : max s.dep o.dep + 1 ≤ n + 1 := hn
      have h8 : max s.dep o.dep + 1 ≤ 8 := h8
      obtain ⟨o1, o2⟩ := hok
      have h : q (.bl (ltT z m && (!decide (s = o) && (s.plA m && o.plA m)))) μ := h
      have dq := deqL_of (μ := μ) (Q := (R__law_plain (n + 1)).Q) (deq_tpI _ (t := s) (u := o) (by omega) o1 o2)
      (conv => whnf); (repeat (first | (refine brT rfl ?_; (conv => whnf)) | (refine brF rfl ?_; (conv => whnf)) | (refine And.intro rfl ?_; (conv => whnf)) | (refine And.intro (Nat.le_of_ble_eq_true rfl) ?_; (conv => whnf)) | (refine And.intro (by assumption) ?_; (conv => whnf)) | (refine And.intro (by decide) ?_; (conv => whnf))))
      rw [ltT_dec2]
      cases e1 : ltT z m
      · rw [e1] at h
        exact brT rfl (brT rfl (by (conv => whnf); (repeat (first | (refine brT rfl ?_; (conv => whnf)) | (refine brF rfl ?_; (conv => whnf)) | (refine And.intro rfl ?_; (conv => whnf)) | (refine And.intro (Nat.le_of_ble_eq_true rfl) ?_; (conv => whnf)) | (refine And.intro (by assumption) ?_; (conv => whnf)) | (refine And.intro (by decide) ?_; (conv => whnf)))); exact h))
      refine brF rfl ?_
      rw [e1] at h
      (conv => whnf); (repeat (first | (refine brT rfl ?_; (conv => whnf)) | (refine brF rfl ?_; (conv => whnf)) | (refine And.intro rfl ?_; (conv => whnf)) | (refine And.intro (Nat.le_of_ble_eq_true rfl) ?_; (conv => whnf)) | (refine And.intro (by assumption) ?_; (conv => whnf)) | (refine And.intro (by decide) ?_; (conv => whnf))))
      rw [eqS_tp]
      refine eqM (k := decide (s = o)) dq ?_
      cases e2 : decide (s = o)
      · rw [e2] at h
        (conv => whnf); (repeat (first | (refine brT rfl ?_; (conv => whnf)) | (refine brF rfl ?_; (conv => whnf)) | (refine And.intro rfl ?_; (conv => whnf)) | (refine And.intro (Nat.le_of_ble_eq_true rfl) ?_; (conv => whnf)) | (refine And.intro (by assumption) ?_; (conv => whnf)) | (refine And.intro (by decide) ?_; (conv => whnf))))
        refine ⟨s, rfl, o1, by omega, by omega, ?_⟩
        cases e3 : s.plA m
        · rw [e3] at h
          (conv => whnf); (repeat (first | (refine brT rfl ?_; (conv => whnf)) | (refine brF rfl ?_; (conv => whnf)) | (refine And.intro rfl ?_; (conv => whnf)) | (refine And.intro (Nat.le_of_ble_eq_true rfl) ?_; (conv => whnf)) | (refine And.intro (by assumption) ?_; (conv => whnf)) | (refine And.intro (by decide) ?_; (conv => whnf))))
          exact h
        · rw [e3] at h
          (conv => whnf); (repeat (first | (refine brT rfl ?_; (conv => whnf)) | (refine brF rfl ?_; (conv => whnf)) | (refine And.intro rfl ?_; (conv => whnf)) | (refine And.intro (Nat.le_of_ble_eq_true rfl) ?_; (conv => whnf)) | (refine And.intro (by assumption) ?_; (conv => whnf)) | (refine And.intro (by decide) ?_; (conv => whnf))))
          refine ⟨o, rfl, o2, by omega, by omega, ?_⟩
          (conv => whnf); (repeat (first | (refine brT rfl ?_; (conv => whnf)) | (refine brF rfl ?_; (conv => whnf)) | (refine And.intro rfl ?_; (conv => whnf)) | (refine And.intro (Nat.le_of_ble_eq_true rfl) ?_; (conv => whnf)) | (refine And.intro (by assumption) ?_; (conv => whnf)) | (refine And.intro (by decide) ?_; (conv => whnf))))
          exact h
      · rw [e2] at h
        (conv => whnf); (repeat (first | (refine brT rfl ?_; (conv => whnf)) | (refine brF rfl ?_; (conv => whnf)) | (refine And.intro rfl ?_; (conv => whnf)) | (refine And.intro (Nat.le_of_ble_eq_true rfl) ?_; (conv => whnf)) | (refine And.intro (by assumption) ?_; (conv => whnf)) | (refine And.intro (by decide) ?_; (conv => whnf))))
        exact h
  · exact h.elim
end Px
namespace Px
open PySem PySem.Spec PyProof.Rows L2
def t_Light___eq___0 : ZB := bOne (sRet (zAnd [(zBlt .isi (zCons (zVar 1) (zCons (zCls .Light) zNil))), (zCmp .Eq (zAtt "number" (zVar 0)) (zAtt "number" (zVar 1)))]))
abbrev c_Light___eq__ : Ct := cEq .Light q_Light
theorem len_Light___eq__ : ∀ as μ q z, c_Light___eq__ as μ q z → as.length = 2 := cEq_len
def L_Light___eq__ : Tbl := []
def H_Light___eq__ : Tbl := []
def Q_Light___eq__ : Qt := []
def R_Light___eq__ : Rt := { L := L_Light___eq__, LH := H_Light___eq__, Q := Q_Light___eq__ }
theorem pure_Light___eq__ : ∀ as μ q z, c_Light___eq__ as μ q z → t_Light___eq___0.d R_Light___eq__ (endsOf q z) (startE 2 as) μ := fun as μ q z h => by
  obtain ⟨xs, b, k, rfl, e, hq⟩ := cEq_inv h
  clear h
  rcases q_Light_inv e with ⟨m, t, n, t2, rfl, rfl, rfl⟩ | ⟨m, t, rfl, hb, rfl⟩
  · (conv => whnf); (repeat (first | (refine brT rfl ?_; (conv => whnf)) | (refine brF rfl ?_; (conv => whnf)) | (refine And.intro rfl ?_; (conv => whnf)) | (refine And.intro (Nat.le_of_ble_eq_true rfl) ?_; (conv => whnf)) | (refine And.intro (by assumption) ?_; (conv => whnf)) | (refine And.intro (by decide) ?_; (conv => whnf))))
    exact hq
  · (conv => whnf); (repeat (first | (refine brT rfl ?_; (conv => whnf)) | (refine brF rfl ?_; (conv => whnf)) | (refine And.intro rfl ?_; (conv => whnf)) | (refine And.intro (Nat.le_of_ble_eq_true rfl) ?_; (conv => whnf)) | (refine And.intro (by assumption) ?_; (conv => whnf)) | (refine And.intro (by decide) ?_; (conv => whnf))))
    rw [oth_isi hb]
    (conv => whnf); (repeat (first | (refine brT rfl ?_; (conv => whnf)) | (refine brF rfl ?_; (conv => whnf)) | (refine And.intro rfl ?_; (conv => whnf)) | (refine And.intro (Nat.le_of_ble_eq_true rfl) ?_; (conv => whnf)) | (refine And.intro (by assumption) ?_; (conv => whnf)) | (refine And.intro (by decide) ?_; (conv => whnf))))
    exact hq
end Px
namespace Px
open PySem PySem.Spec PyProof.Rows L2
def t_Film___eq___0 : ZB := bOne (sRet (zAnd [(zBlt .isi (zCons (zVar 1) (zCons (zCls .Film) zNil))), (zCmp .Eq (zAtt "bare" (zVar 0)) (zAtt "bare" (zVar 1))), (zCmp .Eq (zAtt "inked" (zVar 0)) (zAtt "inked" (zVar 1)))]))
abbrev c_Film___eq__ : Ct := cEq .Film q_Film
theorem len_Film___eq__ : ∀ as μ q z, c_Film___eq__ as μ q z → as.length = 2 := cEq_len
def L_Film___eq__ : Tbl := []
def H_Film___eq__ : Tbl := []
def Q_Film___eq__ : Qt := [(.Light, q_Light)]
def R_Film___eq__ : Rt := { L := L_Film___eq__, LH := H_Film___eq__, Q := Q_Film___eq__ }
theorem pure_Film___eq__ : ∀ as μ q z, c_Film___eq__ as μ q z → t_Film___eq___0.d R_Film___eq__ (endsOf q z) (startE 2 as) μ := fun as μ q z h => by
  obtain ⟨xs, b, k, rfl, e, hq⟩ := cEq_inv h
  clear h
  rcases q_Film_inv e with ⟨a1, a2, b1, b2, rfl, rfl, e⟩ | ⟨a1, a2, rfl, hb, rfl⟩
  · (conv => whnf); (repeat (first | (refine brT rfl ?_; (conv => whnf)) | (refine brF rfl ?_; (conv => whnf)) | (refine And.intro rfl ?_; (conv => whnf)) | (refine And.intro (Nat.le_of_ble_eq_true rfl) ?_; (conv => whnf)) | (refine And.intro (by assumption) ?_; (conv => whnf)) | (refine And.intro (by decide) ?_; (conv => whnf))))
    rcases andO_inv e with ⟨e1, rfl⟩ | ⟨e1, e2⟩
    · rw [deqL_of (Q := R_Film___eq__.Q) (show deq R_Film___eq__.Q 10 (.tup a1) (.tup b1) = some false from e1)]
      (conv => whnf); (repeat (first | (refine brT rfl ?_; (conv => whnf)) | (refine brF rfl ?_; (conv => whnf)) | (refine And.intro rfl ?_; (conv => whnf)) | (refine And.intro (Nat.le_of_ble_eq_true rfl) ?_; (conv => whnf)) | (refine And.intro (by assumption) ?_; (conv => whnf)) | (refine And.intro (by decide) ?_; (conv => whnf))))
      exact hq
    · rw [deqL_of (Q := R_Film___eq__.Q) (show deq R_Film___eq__.Q 10 (.tup a1) (.tup b1) = some true from e1)]
      (conv => whnf); (repeat (first | (refine brT rfl ?_; (conv => whnf)) | (refine brF rfl ?_; (conv => whnf)) | (refine And.intro rfl ?_; (conv => whnf)) | (refine And.intro (Nat.le_of_ble_eq_true rfl) ?_; (conv => whnf)) | (refine And.intro (by assumption) ?_; (conv => whnf)) | (refine And.intro (by decide) ?_; (conv => whnf))))
      rw [deqL_of (Q := R_Film___eq__.Q) (show deq R_Film___eq__.Q 10 (.tup a2) (.tup b2) = some k from e2)]
      (conv => whnf); (repeat (first | (refine brT rfl ?_; (conv => whnf)) | (refine brF rfl ?_; (conv => whnf)) | (refine And.intro rfl ?_; (conv => whnf)) | (refine And.intro (Nat.le_of_ble_eq_true rfl) ?_; (conv => whnf)) | (refine And.intro (by assumption) ?_; (conv => whnf)) | (refine And.intro (by decide) ?_; (conv => whnf))))
      exact hq
  · (conv => whnf); (repeat (first | (refine brT rfl ?_; (conv => whnf)) | (refine brF rfl ?_; (conv => whnf)) | (refine And.intro rfl ?_; (conv => whnf)) | (refine And.intro (Nat.le_of_ble_eq_true rfl) ?_; (conv => whnf)) | (refine And.intro (by assumption) ?_; (conv => whnf)) | (refine And.intro (by decide) ?_; (conv => whnf))))
    rw [oth_isi hb]
    (conv => whnf); (repeat (first | (refine brT rfl ?_; (conv => whnf)) | (refine brF rfl ?_; (conv => whnf)) | (refine And.intro rfl ?_; (conv => whnf)) | (refine And.intro (Nat.le_of_ble_eq_true rfl) ?_; (conv => whnf)) | (refine And.intro (by assumption) ?_; (conv => whnf)) | (refine And.intro (by decide) ?_; (conv => whnf))))
    exact hq
end Px
namespace Px
open PySem PySem.Spec PyProof.Rows L2
def t_Chart___eq___2 : ZB := bOne (sRet (zBlt .bool (zCons (zAnd [(zCmp .Eq (zAtt "when_shut" (zVar 0)) (zAtt "when_shut" (zVar 1))), (zCmp .Eq (zAtt "when_open" (zVar 0)) (zAtt "when_open" (zVar 1)))]) zNil)))
def t_Chart___eq___1 : ZB := bCons (sIf (tCmp .Is (zAtt "mask" (zVar 0)) zNon) (bOne (sRet (zBlt .bool (zCons (zCmp .Eq (zAtt "leaf" (zVar 0)) (zAtt "leaf" (zVar 1))) zNil)))) bNil) t_Chart___eq___2
def t_Chart___eq___0 : ZB := bCons (sIf (tOr [(tNot (tTr (zBlt .isi (zCons (zVar 1) (zCons (zCls .Chart) zNil))))), (tCmp .NotEq (zAtt "mask" (zVar 0)) (zAtt "mask" (zVar 1)))]) (bOne (sRet (zBl false))) bNil) t_Chart___eq___1
abbrev cn_Chart___eq__ (n : Nat) : Ct := cEq .Chart (qn_Chart n)
theorem len_Chart___eq__ (n : Nat) : ∀ as μ q z, cn_Chart___eq__ n as μ q z → as.length = 2 := cEq_len
abbrev c_Chart___eq__ : Ct := cn_Chart___eq__ 12
def L_Chart___eq__ (n : Nat) : Tbl := []
def H_Chart___eq__ (n : Nat) : Tbl := []
def Q_Chart___eq__ (n : Nat) : Qt := [(.Film, q_Film), (.Chart, (qp_Chart n))]
def R_Chart___eq__ (n : Nat) : Rt := { L := L_Chart___eq__ n, LH := H_Chart___eq__ n, Q := Q_Chart___eq__ n }
theorem pure_Chart___eq__ : ∀ n as μ q z, cn_Chart___eq__ n as μ q z → t_Chart___eq___0.d (R_Chart___eq__ n) (endsOf q z) (startE 2 as) μ := fun n as μ q z h => by
  obtain ⟨xs, b, k, rfl, e, hq⟩ := cEq_inv h
  clear h
  cases n with
  | zero => cases e
  | succ n =>
  rcases q_Chart_inv e with ⟨l, x, y, l2, x2, y2, rfl, rfl, h⟩ | ⟨l, x, y, m, a, b', c, rfl, rfl, rfl⟩ | ⟨l, x, y, rfl, hb, rfl⟩ | ⟨m, x, ss, oo, m2, x2, s2, o2, rfl, rfl, h⟩ | ⟨m, x, ss, oo, a, b', c, rfl, rfl, rfl⟩ | ⟨m, x, ss, oo, rfl, hb, rfl⟩
  · (conv => whnf); (repeat (first | (refine brT rfl ?_; (conv => whnf)) | (refine brF rfl ?_; (conv => whnf)) | (refine And.intro rfl ?_; (conv => whnf)) | (refine And.intro (Nat.le_of_ble_eq_true rfl) ?_; (conv => whnf)) | (refine And.intro (by assumption) ?_; (conv => whnf)) | (refine And.intro (by decide) ?_; (conv => whnf))))
    rw [deqL_of (Q := (R_Chart___eq__ (n + 1)).Q) (show deq (R_Chart___eq__ (n + 1)).Q 10 (.obj .Film l) (.obj .Film l2) = some k from h)]
    (conv => whnf); (repeat (first | (refine brT rfl ?_; (conv => whnf)) | (refine brF rfl ?_; (conv => whnf)) | (refine And.intro rfl ?_; (conv => whnf)) | (refine And.intro (Nat.le_of_ble_eq_true rfl) ?_; (conv => whnf)) | (refine And.intro (by assumption) ?_; (conv => whnf)) | (refine And.intro (by decide) ?_; (conv => whnf))))
    exact hq
  · (conv => whnf); (repeat (first | (refine brT rfl ?_; (conv => whnf)) | (refine brF rfl ?_; (conv => whnf)) | (refine And.intro rfl ?_; (conv => whnf)) | (refine And.intro (Nat.le_of_ble_eq_true rfl) ?_; (conv => whnf)) | (refine And.intro (by assumption) ?_; (conv => whnf)) | (refine And.intro (by decide) ?_; (conv => whnf))))
    exact hq
  · (conv => whnf); (repeat (first | (refine brT rfl ?_; (conv => whnf)) | (refine brF rfl ?_; (conv => whnf)) | (refine And.intro rfl ?_; (conv => whnf)) | (refine And.intro (Nat.le_of_ble_eq_true rfl) ?_; (conv => whnf)) | (refine And.intro (by assumption) ?_; (conv => whnf)) | (refine And.intro (by decide) ?_; (conv => whnf))))
    rw [oth_isi hb]
    (conv => whnf); (repeat (first | (refine brT rfl ?_; (conv => whnf)) | (refine brF rfl ?_; (conv => whnf)) | (refine And.intro rfl ?_; (conv => whnf)) | (refine And.intro (Nat.le_of_ble_eq_true rfl) ?_; (conv => whnf)) | (refine And.intro (by assumption) ?_; (conv => whnf)) | (refine And.intro (by decide) ?_; (conv => whnf))))
    exact hq
  · (conv => whnf); (repeat (first | (refine brT rfl ?_; (conv => whnf)) | (refine brF rfl ?_; (conv => whnf)) | (refine And.intro rfl ?_; (conv => whnf)) | (refine And.intro (Nat.le_of_ble_eq_true rfl) ?_; (conv => whnf)) | (refine And.intro (by assumption) ?_; (conv => whnf)) | (refine And.intro (by decide) ?_; (conv => whnf))))
    rcases h with ⟨rfl, h⟩ | ⟨h, rfl⟩
    · (conv => whnf); (repeat (first | (refine brT rfl ?_; (conv => whnf)) | (refine brF rfl ?_; (conv => whnf)) | (refine And.intro rfl ?_; (conv => whnf)) | (refine And.intro (Nat.le_of_ble_eq_true rfl) ?_; (conv => whnf)) | (refine And.intro (by assumption) ?_; (conv => whnf)) | (refine And.intro (by decide) ?_; (conv => whnf)) | (refine br_nself ?_; (conv => whnf)) | (refine br_self ?_; (conv => whnf)) | (refine brT (decide_eq_true (by assumption)) ?_; (conv => whnf)) | (refine brT (by assumption) ?_; (conv => whnf)) | (refine brF (by assumption) ?_; (conv => whnf))))
      rcases andO_inv h with ⟨e1, rfl⟩ | ⟨e1, e2⟩
      · rw [deqL_of (Q := (R_Chart___eq__ (n + 1)).Q) (show deq (R_Chart___eq__ (n + 1)).Q 10 (.obj .Chart ss) (.obj .Chart s2) = some false from e1)]
        (conv => whnf); (repeat (first | (refine brT rfl ?_; (conv => whnf)) | (refine brF rfl ?_; (conv => whnf)) | (refine And.intro rfl ?_; (conv => whnf)) | (refine And.intro (Nat.le_of_ble_eq_true rfl) ?_; (conv => whnf)) | (refine And.intro (by assumption) ?_; (conv => whnf)) | (refine And.intro (by decide) ?_; (conv => whnf))))
        exact hq
      · rw [deqL_of (Q := (R_Chart___eq__ (n + 1)).Q) (show deq (R_Chart___eq__ (n + 1)).Q 10 (.obj .Chart ss) (.obj .Chart s2) = some true from e1)]
        (conv => whnf); (repeat (first | (refine brT rfl ?_; (conv => whnf)) | (refine brF rfl ?_; (conv => whnf)) | (refine And.intro rfl ?_; (conv => whnf)) | (refine And.intro (Nat.le_of_ble_eq_true rfl) ?_; (conv => whnf)) | (refine And.intro (by assumption) ?_; (conv => whnf)) | (refine And.intro (by decide) ?_; (conv => whnf))))
        rw [deqL_of (Q := (R_Chart___eq__ (n + 1)).Q) (show deq (R_Chart___eq__ (n + 1)).Q 10 (.obj .Chart oo) (.obj .Chart o2) = some k from e2)]
        (conv => whnf); (repeat (first | (refine brT rfl ?_; (conv => whnf)) | (refine brF rfl ?_; (conv => whnf)) | (refine And.intro rfl ?_; (conv => whnf)) | (refine And.intro (Nat.le_of_ble_eq_true rfl) ?_; (conv => whnf)) | (refine And.intro (by assumption) ?_; (conv => whnf)) | (refine And.intro (by decide) ?_; (conv => whnf))))
        exact hq
    · refine brT (by rw [decide_eq_false h] <;> rfl) ?_
      (conv => whnf); (repeat (first | (refine brT rfl ?_; (conv => whnf)) | (refine brF rfl ?_; (conv => whnf)) | (refine And.intro rfl ?_; (conv => whnf)) | (refine And.intro (Nat.le_of_ble_eq_true rfl) ?_; (conv => whnf)) | (refine And.intro (by assumption) ?_; (conv => whnf)) | (refine And.intro (by decide) ?_; (conv => whnf))))
      exact hq
  · (conv => whnf); (repeat (first | (refine brT rfl ?_; (conv => whnf)) | (refine brF rfl ?_; (conv => whnf)) | (refine And.intro rfl ?_; (conv => whnf)) | (refine And.intro (Nat.le_of_ble_eq_true rfl) ?_; (conv => whnf)) | (refine And.intro (by assumption) ?_; (conv => whnf)) | (refine And.intro (by decide) ?_; (conv => whnf))))
    exact hq
  · (conv => whnf); (repeat (first | (refine brT rfl ?_; (conv => whnf)) | (refine brF rfl ?_; (conv => whnf)) | (refine And.intro rfl ?_; (conv => whnf)) | (refine And.intro (Nat.le_of_ble_eq_true rfl) ?_; (conv => whnf)) | (refine And.intro (by assumption) ?_; (conv => whnf)) | (refine And.intro (by decide) ?_; (conv => whnf))))
    rw [oth_isi hb]
    (conv => whnf); (repeat (first | (refine brT rfl ?_; (conv => whnf)) | (refine brF rfl ?_; (conv => whnf)) | (refine And.intro rfl ?_; (conv => whnf)) | (refine And.intro (Nat.le_of_ble_eq_true rfl) ?_; (conv => whnf)) | (refine And.intro (by assumption) ?_; (conv => whnf)) | (refine And.intro (by decide) ?_; (conv => whnf))))
    exact hq
end Px
namespace Px
open PySem PySem.Spec PyProof.Rows L2
def f_Chart_is_plain_v3_0 : ZB := (bCons (sIf (tAnd [(tCmp .IsNot (zAtt "mask" (zVar 1)) zNon), (tNot (tCmp .Lt (zAtt "mask" (zVar 0)) (zAtt "mask" (zVar 1))))]) (bOne (sRet (zBl false))) bNil)
  (bOne (sIf (tNot (tTr (zMeth0 267 (zVar 1)))) (bOne (sRet (zBl false))) bNil)))
def t_Chart_is_plain_v3_2 : ZB := bOne (sRet (zNot (zCmp .Eq (zAtt "when_shut" (zVar 0)) (zAtt "when_open" (zVar 0)))))
def t_Chart_is_plain_v3_1 : ZB := bCons (sFor (.one 1) (iSq (zTup (zCons (zAtt "when_shut" (zVar 0)) (zCons (zAtt "when_open" (zVar 0)) zNil)))) f_Chart_is_plain_v3_0) t_Chart_is_plain_v3_2
def t_Chart_is_plain_v3_0 : ZB := bCons (sIf (tCmp .Is (zAtt "mask" (zVar 0)) zNon) (bOne (sRet (zBl true))) bNil) t_Chart_is_plain_v3_1
def cn_Chart_is_plain_v3 (n : Nat) : Ct := fun as μ q _ => match as with
  | [p] => ∃ t : Tree, p = t.pv ∧ t.dep ≤ n ∧ t.dep ≤ 10 ∧ q (.bl t.pl) μ
  | _ => False
theorem len_Chart_is_plain_v3 : ∀ n as μ q z, cn_Chart_is_plain_v3 n as μ q z → as.length = 1 := fun n as μ q z h => by
  unfold cn_Chart_is_plain_v3 at h
  split at h <;> first | rfl | exact h.elim
def cp_Chart_is_plain_v3 : Nat → Ct
  | 0 => noCt
  | n + 1 => cn_Chart_is_plain_v3 n
abbrev c_Chart_is_plain_v3 : Ct := cn_Chart_is_plain_v3 12
def L_Chart_is_plain_v3 (n : Nat) : Tbl := [(.m .Chart 267 [], (cp_Chart_is_plain_v3 n))]
def H_Chart_is_plain_v3 (n : Nat) : Tbl := []
def Q_Chart_is_plain_v3 (n : Nat) : Qt := [(.Chart, q_Chart)]
def R_Chart_is_plain_v3 (n : Nat) : Rt := { L := L_Chart_is_plain_v3 n, LH := H_Chart_is_plain_v3 n, Q := Q_Chart_is_plain_v3 n }
theorem ltCps_dec : ∀ a b : List Nat, ltCps a b = decide (a < b)
  | [], [] => by decide
  | [], b :: r => by
    rw [decide_eq_true (List.nil_lt_cons b r)] <;> rfl
  | a :: r, [] => by
    rw [decide_eq_false (List.not_lt_nil _)] <;> rfl
  | a :: r, b :: s => by
    have ih := ltCps_dec r s
    have e : (a :: r < b :: s) ↔ (a < b ∨ a = b ∧ r < s) := List.cons_lt_cons_iff
    unfold ltCps
    rw [ih]
    by_cases h1 : a < b <;> by_cases h2 : a = b <;> by_cases h3 : r < s <;> simp [e, h1, h2, h3]
theorem ltT_dec (m z : Str) : decide (m.cps.toList < z.cps.toList) = ltT m z := (ltCps_dec _ _).symm
theorem pl_turn {n : Nat} {P : DEn} {m : Str} {a b c : PV} {μ : Mu} {rest : List PV} {s1 : Option PV} (u : Tree) (hn : u.dep ≤ n) (h10 : u.dep ≤ 10) (h1 : (u.abv m && u.pl) = true → ∀ s1, Lk (forD (.one 1) (f_Chart_is_plain_v3_0.d (R_Chart_is_plain_v3 (n + 1))) rest P [some (.obj .Chart [.str m, a, b, c]), s1] μ)) (h2 : (u.abv m && u.pl) = false → P.rt (.bl false) μ) :
    Lk (forD (.one 1) (f_Chart_is_plain_v3_0.d (R_Chart_is_plain_v3 (n + 1))) (u.pv :: rest) P [some (.obj .Chart [.str m, a, b, c]), s1] μ) := by
  refine forD_c rfl ?_
  cases u with
  | leaf f =>
    (conv => whnf); (repeat (first | (refine brT rfl ?_; (conv => whnf)) | (refine brF rfl ?_; (conv => whnf)) | (refine And.intro rfl ?_; (conv => whnf)) | (refine And.intro (Nat.le_of_ble_eq_true rfl) ?_; (conv => whnf)) | (refine And.intro (by assumption) ?_; (conv => whnf)) | (refine And.intro (by decide) ?_; (conv => whnf))))
    refine ⟨.leaf f, rfl, hn, h10, ?_⟩
    (conv => whnf); (repeat (first | (refine brT rfl ?_; (conv => whnf)) | (refine brF rfl ?_; (conv => whnf)) | (refine And.intro rfl ?_; (conv => whnf)) | (refine And.intro (Nat.le_of_ble_eq_true rfl) ?_; (conv => whnf)) | (refine And.intro (by assumption) ?_; (conv => whnf)) | (refine And.intro (by decide) ?_; (conv => whnf))))
    exact h1 rfl _
  | fork m2 x y =>
    (conv => whnf); (repeat (first | (refine brT rfl ?_; (conv => whnf)) | (refine brF rfl ?_; (conv => whnf)) | (refine And.intro rfl ?_; (conv => whnf)) | (refine And.intro (Nat.le_of_ble_eq_true rfl) ?_; (conv => whnf)) | (refine And.intro (by assumption) ?_; (conv => whnf)) | (refine And.intro (by decide) ?_; (conv => whnf))))
    rw [ltT_dec]
    refine br_of (fun k => ?_) fun k => ?_
    · have k : (!ltT m m2) = true := k
      (conv => whnf); (repeat (first | (refine brT rfl ?_; (conv => whnf)) | (refine brF rfl ?_; (conv => whnf)) | (refine And.intro rfl ?_; (conv => whnf)) | (refine And.intro (Nat.le_of_ble_eq_true rfl) ?_; (conv => whnf)) | (refine And.intro (by assumption) ?_; (conv => whnf)) | (refine And.intro (by decide) ?_; (conv => whnf))))
      refine h2 ?_
      show (ltT m m2 && _) = false
      cases e : ltT m m2
      · rfl
      · rw [e] at k
        cases k
    · have k : (!ltT m m2) = false := k
      have e : ltT m m2 = true := by
        cases e : ltT m m2
        · rw [e] at k
          cases k
        · rfl
      (conv => whnf); (repeat (first | (refine brT rfl ?_; (conv => whnf)) | (refine brF rfl ?_; (conv => whnf)) | (refine And.intro rfl ?_; (conv => whnf)) | (refine And.intro (Nat.le_of_ble_eq_true rfl) ?_; (conv => whnf)) | (refine And.intro (by assumption) ?_; (conv => whnf)) | (refine And.intro (by decide) ?_; (conv => whnf))))
      refine ⟨.fork m2 x y, rfl, hn, h10, ?_⟩
      have e2 : ((Tree.fork m2 x y).abv m && (Tree.fork m2 x y).pl) = (Tree.fork m2 x y).pl := by
        show (ltT m m2 && _) = _
        rw [e, Bool.true_and]
      rw [e2] at h1 h2
      cases k2 : (Tree.fork m2 x y).pl
      · (conv => whnf); (repeat (first | (refine brT rfl ?_; (conv => whnf)) | (refine brF rfl ?_; (conv => whnf)) | (refine And.intro rfl ?_; (conv => whnf)) | (refine And.intro (Nat.le_of_ble_eq_true rfl) ?_; (conv => whnf)) | (refine And.intro (by assumption) ?_; (conv => whnf)) | (refine And.intro (by decide) ?_; (conv => whnf))))
        exact h2 k2
      · (conv => whnf); (repeat (first | (refine brT rfl ?_; (conv => whnf)) | (refine brF rfl ?_; (conv => whnf)) | (refine And.intro rfl ?_; (conv => whnf)) | (refine And.intro (Nat.le_of_ble_eq_true rfl) ?_; (conv => whnf)) | (refine And.intro (by assumption) ?_; (conv => whnf)) | (refine And.intro (by decide) ?_; (conv => whnf))))
        exact h1 k2 _
theorem pure_Chart_is_plain_v3 : ∀ n as μ q z, cn_Chart_is_plain_v3 n as μ q z → t_Chart_is_plain_v3_0.d (R_Chart_is_plain_v3 n) (endsOf q z) (startE 2 as) μ := fun n as μ q z h => by
  unfold cn_Chart_is_plain_v3 at h
  split at h
  · obtain ⟨t, rfl, hn, h10, h⟩ := h
    cases t with
    | leaf f =>
      (conv => whnf); (repeat (first | (refine brT rfl ?_; (conv => whnf)) | (refine brF rfl ?_; (conv => whnf)) | (refine And.intro rfl ?_; (conv => whnf)) | (refine And.intro (Nat.le_of_ble_eq_true rfl) ?_; (conv => whnf)) | (refine And.intro (by assumption) ?_; (conv => whnf)) | (refine And.intro (by decide) ?_; (conv => whnf))))
      exact h
    | fork m s o =>
      cases n with
      | zero => cases hn
      | succ n =>
      have hn : max s.dep o.dep + 1 ≤ n + 1 := hn
      have h10 : max s.dep o.dep + 1 ≤ 10 := h10
      have h : q (.bl ((s.abv m && s.pl) && ((o.abv m && o.pl) && !decide (s = o)))) μ := h
      have dq := deqL_of (μ := μ) (Q := (R_Chart_is_plain_v3 (n + 1)).Q) (show deq (R_Chart_is_plain_v3 (n + 1)).Q 10 (.obj .Chart s.fs) (.obj .Chart o.fs) = some (decide (s = o)) from deq_tree 12 _ _ (by omega))
      (conv => whnf); (repeat (first | (refine brT rfl ?_; (conv => whnf)) | (refine brF rfl ?_; (conv => whnf)) | (refine And.intro rfl ?_; (conv => whnf)) | (refine And.intro (Nat.le_of_ble_eq_true rfl) ?_; (conv => whnf)) | (refine And.intro (by assumption) ?_; (conv => whnf)) | (refine And.intro (by decide) ?_; (conv => whnf))))
      refine pl_turn s (by omega) (by omega) (fun e1 s1 => ?_) fun e1 => ?_
      · rw [e1, Bool.true_and] at h
        refine pl_turn o (by omega) (by omega) (fun e2 s1 => ?_) fun e2 => ?_
        · rw [e2, Bool.true_and] at h
          refine forD_n rfl ?_
          (conv => whnf); (repeat (first | (refine brT rfl ?_; (conv => whnf)) | (refine brF rfl ?_; (conv => whnf)) | (refine And.intro rfl ?_; (conv => whnf)) | (refine And.intro (Nat.le_of_ble_eq_true rfl) ?_; (conv => whnf)) | (refine And.intro (by assumption) ?_; (conv => whnf)) | (refine And.intro (by decide) ?_; (conv => whnf))))
          rw [dq]
          (conv => whnf); (repeat (first | (refine brT rfl ?_; (conv => whnf)) | (refine brF rfl ?_; (conv => whnf)) | (refine And.intro rfl ?_; (conv => whnf)) | (refine And.intro (Nat.le_of_ble_eq_true rfl) ?_; (conv => whnf)) | (refine And.intro (by assumption) ?_; (conv => whnf)) | (refine And.intro (by decide) ?_; (conv => whnf))))
          exact h
        · rw [e2, Bool.false_and] at h
          (conv => whnf); (repeat (first | (refine brT rfl ?_; (conv => whnf)) | (refine brF rfl ?_; (conv => whnf)) | (refine And.intro rfl ?_; (conv => whnf)) | (refine And.intro (Nat.le_of_ble_eq_true rfl) ?_; (conv => whnf)) | (refine And.intro (by assumption) ?_; (conv => whnf)) | (refine And.intro (by decide) ?_; (conv => whnf))))
          exact h
      · rw [e1, Bool.false_and] at h
        (conv => whnf); (repeat (first | (refine brT rfl ?_; (conv => whnf)) | (refine brF rfl ?_; (conv => whnf)) | (refine And.intro rfl ?_; (conv => whnf)) | (refine And.intro (Nat.le_of_ble_eq_true rfl) ?_; (conv => whnf)) | (refine And.intro (by assumption) ?_; (conv => whnf)) | (refine And.intro (by decide) ?_; (conv => whnf))))
        exact h
  · exact h.elim
end Px
namespace Px
open PySem PySem.Spec PyProof.Rows L2
def t_law_k29_13 : ZB := bOne (sRet (zCall 81 (zCons (zMeth0 267 (zSt .Chart 260 (zCons (zStr "") (zCons (zVar 7) (zCons (zVar 8) zNil))))) (zCons (zAnd [(zCmp .NotEq (zVar 4) (zVar 5)), (zIdx (zVar 9) (zInt 0)), (zIdx (zVar 9) (zInt 1))]) zNil))))
def t_law_k29_12 : ZB := bCons (sIf (tOr [(tNot (tTr (zCall 81 (zCons (zMeth0 267 (zVar 7)) (zCons (zIdx (zVar 9) (zInt 0)) zNil))))), (tNot (tTr (zCall 81 (zCons (zMeth0 267 (zVar 8)) (zCons (zIdx (zVar 9) (zInt 1)) zNil)))))]) (bOne (sRet (zBl false))) bNil) t_law_k29_13
def t_law_k29_11 : ZB := bCons (sSet 9 (zLst (zDisp (zCons (zCall 133 (zCons (zVar 4) (zCons (zStr "") zNil))) (zCons (zCall 133 (zCons (zVar 5) (zCons (zStr "") zNil))) zNil))))) t_law_k29_12
def t_law_k29_10 : ZB := bCons (sIf (tCmp .IsNot (zCmp .Eq (zVar 7) (zCm0 .Film 293 (zCls .Film))) (zBl false)) (bOne (sRet (zBl false))) bNil) t_law_k29_11
def t_law_k29_9 : ZB := bCons (sIf (tOr [(tNot (tTr (zCall 81 (zCons (zCmp .Eq (zVar 7) (zVar 8)) (zCons (zCmp .Eq (zVar 4) (zVar 5)) zNil))))), (tNot (tTr (zCall 81 (zCons (zCmp .Eq (zVar 8) (zVar 7)) (zCons (zCmp .Eq (zVar 4) (zVar 5)) zNil)))))]) (bOne (sRet (zBl false))) bNil) t_law_k29_10
def t_law_k29_8 : ZB := bCons (sSet 8 (zCall 106 (zCons (zVar 5) zNil))) t_law_k29_9
def t_law_k29_7 : ZB := bCons (sSet 7 (zCall 106 (zCons (zVar 4) zNil))) t_law_k29_8
def t_law_k29_6 : ZB := bCons (sIf (tAnd [(tCmp .Eq (zVar 6) (zInt 1)), (tCmp .IsNot (zIdx (zVar 4) (zInt 0)) zNon)]) (bOne (sSet 5 (zTup (zCons (zIdx (zVar 4) (zInt 0)) (zCons (zIdx (zVar 4) (zInt 1)) (zCons (zVar 5) zNil)))))) bNil) t_law_k29_7
def t_law_k29_5 : ZB := bCons (sIf (tCmp .Eq (zVar 6) (zInt 0)) (bOne (sSet 5 (zVar 4))) bNil) t_law_k29_6
def t_law_k29_4 : ZB := bCons (sSet 6 (zCall 48 (zCons (zVar 1) (zCons (zInt 3) zNil)))) t_law_k29_5
def t_law_k29_3 : ZB := bCons (sSet 5 (zCall 215 (zCons (zVar 1) (zCons (zVar 2) (zCons (zInt 3) (zCons (zVar 3) zNil)))))) t_law_k29_4
def t_law_k29_2 : ZB := bCons (sSet 4 (zCall 215 (zCons (zVar 1) (zCons (zVar 2) (zCons (zInt 3) (zCons (zVar 3) zNil)))))) t_law_k29_3
def t_law_k29_1 : ZB := bCons (sSet 3 (zCmp .Gt (zCall 48 (zCons (zVar 1) (zCons (zInt 3) zNil))) (zInt 0))) t_law_k29_2
def t_law_k29_0 : ZB := bCons (sSet 2 (zSortL (zCall 115 (zCons (zVar 1) (zCons (zCall 48 (zCons (zVar 1) (zCons (zInt 5) zNil))) zNil))))) t_law_k29_1
def L_law_k29 : Tbl := [(.g 115 [], c__law_names_v3), (.g 48 [], cDraw), (.g 215 [], c__law_tree_v2), (.g 106 [], c__law_made_v5), (.g 81 [], c__law_is), (.cm .Film 293 [], c_Film_nothing), (.g 133 [], c__law_plain), (.m .Chart 267 [], c_Chart_is_plain_v3), (.st .Chart 260 [], c_Chart_fork)]
def H_law_k29 : Tbl := []
def Q_law_k29 : Qt := [(.Chart, q_Chart), (.Film, q_Film)]
def R_law_k29 : Rt := { L := L_law_k29, LH := H_law_k29, Q := Q_law_k29 }
theorem rdL_tp29 (μ : Mu) (lf : Fm → PV) (t : Tree) : rdL μ (t.tp lf) = t.tp lf := by cases t <;> rfl
theorem k29_tail {t u : Tree} (ht : t.ok LeafI) (hu : u.ok LeafI) (dt : t.dep ≤ 4) (du : u.dep ≤ 4) (nt : ∀ z ∈ t.names, nameB z = true) (nu : ∀ z ∈ u.names, nameB z = true) {s2 s3 s6 : Option PV} (μ : Mu) : t_law_k29_7.d R_law_k29 lawEnds [none, some .box, s2, s3, some (t.tp lfI), some (u.tp lfI), s6, none, none, none] μ := by
  have et : ∀ Q, deq Q 10 (t.tp lfI) (u.tp lfI) = some (decide (t = u)) := fun Q => deq_tpI Q (by omega) ht hu
  have eu : ∀ Q, deq Q 10 (u.tp lfI) (t.tp lfI) = some (decide (t = u)) := fun Q => by rw [deq_tpI Q (by omega) hu ht]; exact congrArg some (decide_eq_decide.mpr eq_comm)
  have dc : ∀ a b : Tree, a.dep ≤ 4 → deqL R_law_k29.Q false μ a.pv b.pv = some (decide (a = b)) := fun a b h => deqL_of (μ := μ) (Q := R_law_k29.Q) (show deq R_law_k29.Q 10 (.obj .Chart a.fs) (.obj .Chart b.fs) = some (decide (a = b)) from deq_tree 12 _ _ (by omega))
  have df : deqL R_law_k29.Q false μ t.pv nothingF = some false := deqL_of (μ := μ) (Q := R_law_k29.Q) (show deq R_law_k29.Q 10 (.obj .Chart t.fs) nothingF = some false by cases t <;> rfl)
  have pt := plA_emp nt
  have pu := plA_emp nu
  (conv => whnf); (repeat (first | (refine brT rfl ?_; (conv => whnf)) | (refine brF rfl ?_; (conv => whnf)) | (refine And.intro rfl ?_; (conv => whnf)) | (refine And.intro (Nat.le_of_ble_eq_true rfl) ?_; (conv => whnf)) | (refine And.intro (by assumption) ?_; (conv => whnf)) | (refine And.intro (by decide) ?_; (conv => whnf))))
  refine ⟨t, rfl, ht, by omega, ?_⟩
  (conv => whnf); (repeat (first | (refine brT rfl ?_; (conv => whnf)) | (refine brF rfl ?_; (conv => whnf)) | (refine And.intro rfl ?_; (conv => whnf)) | (refine And.intro (Nat.le_of_ble_eq_true rfl) ?_; (conv => whnf)) | (refine And.intro (by assumption) ?_; (conv => whnf)) | (refine And.intro (by decide) ?_; (conv => whnf))))
  refine ⟨u, rfl, hu, by omega, ?_⟩
  (conv => whnf); (repeat (first | (refine brT rfl ?_; (conv => whnf)) | (refine brF rfl ?_; (conv => whnf)) | (refine And.intro rfl ?_; (conv => whnf)) | (refine And.intro (Nat.le_of_ble_eq_true rfl) ?_; (conv => whnf)) | (refine And.intro (by assumption) ?_; (conv => whnf)) | (refine And.intro (by decide) ?_; (conv => whnf))))
  rw [dc t u dt]
  (conv => whnf); (repeat (first | (refine brT rfl ?_; (conv => whnf)) | (refine brF rfl ?_; (conv => whnf)) | (refine And.intro rfl ?_; (conv => whnf)) | (refine And.intro (Nat.le_of_ble_eq_true rfl) ?_; (conv => whnf)) | (refine And.intro (by assumption) ?_; (conv => whnf)) | (refine And.intro (by decide) ?_; (conv => whnf))))
  rw [eqS_tp]
  refine eqM (k := decide (t = u)) (deqL_of (et _)) ?_
  (conv => whnf); (repeat (first | (refine brT rfl ?_; (conv => whnf)) | (refine brF rfl ?_; (conv => whnf)) | (refine And.intro rfl ?_; (conv => whnf)) | (refine And.intro (Nat.le_of_ble_eq_true rfl) ?_; (conv => whnf)) | (refine And.intro (by assumption) ?_; (conv => whnf)) | (refine And.intro (by decide) ?_; (conv => whnf))))
  rw [show decide (decide (t = u) = decide (t = u)) = true from decide_eq_true rfl]
  refine brF rfl ?_
  (conv => whnf); (repeat (first | (refine brT rfl ?_; (conv => whnf)) | (refine brF rfl ?_; (conv => whnf)) | (refine And.intro rfl ?_; (conv => whnf)) | (refine And.intro (Nat.le_of_ble_eq_true rfl) ?_; (conv => whnf)) | (refine And.intro (by assumption) ?_; (conv => whnf)) | (refine And.intro (by decide) ?_; (conv => whnf))))
  rw [dc u t du]
  (conv => whnf); (repeat (first | (refine brT rfl ?_; (conv => whnf)) | (refine brF rfl ?_; (conv => whnf)) | (refine And.intro rfl ?_; (conv => whnf)) | (refine And.intro (Nat.le_of_ble_eq_true rfl) ?_; (conv => whnf)) | (refine And.intro (by assumption) ?_; (conv => whnf)) | (refine And.intro (by decide) ?_; (conv => whnf))))
  rw [eqS_tp]
  refine eqM (k := decide (t = u)) (deqL_of (et _)) ?_
  (conv => whnf); (repeat (first | (refine brT rfl ?_; (conv => whnf)) | (refine brF rfl ?_; (conv => whnf)) | (refine And.intro rfl ?_; (conv => whnf)) | (refine And.intro (Nat.le_of_ble_eq_true rfl) ?_; (conv => whnf)) | (refine And.intro (by assumption) ?_; (conv => whnf)) | (refine And.intro (by decide) ?_; (conv => whnf))))
  rw [show decide (decide (u = t) = decide (t = u)) = true from decide_eq_true (decide_eq_decide.mpr eq_comm)]
  refine brF rfl ?_
  (conv => whnf); (repeat (first | (refine brT rfl ?_; (conv => whnf)) | (refine brF rfl ?_; (conv => whnf)) | (refine And.intro rfl ?_; (conv => whnf)) | (refine And.intro (Nat.le_of_ble_eq_true rfl) ?_; (conv => whnf)) | (refine And.intro (by assumption) ?_; (conv => whnf)) | (refine And.intro (by decide) ?_; (conv => whnf))))
  rw [df]
  (conv => whnf); (repeat (first | (refine brT rfl ?_; (conv => whnf)) | (refine brF rfl ?_; (conv => whnf)) | (refine And.intro rfl ?_; (conv => whnf)) | (refine And.intro (Nat.le_of_ble_eq_true rfl) ?_; (conv => whnf)) | (refine And.intro (by assumption) ?_; (conv => whnf)) | (refine And.intro (by decide) ?_; (conv => whnf))))
  refine ⟨t, rfl, ht, by omega, by omega, ?_⟩
  (conv => whnf); (repeat (first | (refine brT rfl ?_; (conv => whnf)) | (refine brF rfl ?_; (conv => whnf)) | (refine And.intro rfl ?_; (conv => whnf)) | (refine And.intro (Nat.le_of_ble_eq_true rfl) ?_; (conv => whnf)) | (refine And.intro (by assumption) ?_; (conv => whnf)) | (refine And.intro (by decide) ?_; (conv => whnf))))
  refine ⟨u, rfl, hu, by omega, by omega, ?_⟩
  rw [pt, pu]
  (conv => whnf); (repeat (first | (refine brT rfl ?_; (conv => whnf)) | (refine brF rfl ?_; (conv => whnf)) | (refine And.intro rfl ?_; (conv => whnf)) | (refine And.intro (Nat.le_of_ble_eq_true rfl) ?_; (conv => whnf)) | (refine And.intro (by assumption) ?_; (conv => whnf)) | (refine And.intro (by decide) ?_; (conv => whnf))))
  refine ⟨t, rfl, by omega, by omega, ?_⟩
  (conv => whnf); (repeat (first | (refine brT rfl ?_; (conv => whnf)) | (refine brF rfl ?_; (conv => whnf)) | (refine And.intro rfl ?_; (conv => whnf)) | (refine And.intro (Nat.le_of_ble_eq_true rfl) ?_; (conv => whnf)) | (refine And.intro (by assumption) ?_; (conv => whnf)) | (refine And.intro (by decide) ?_; (conv => whnf))))
  rw [decide_eq_true (rfl : t.pl = t.pl)]
  refine brF rfl ?_
  (conv => whnf); (repeat (first | (refine brT rfl ?_; (conv => whnf)) | (refine brF rfl ?_; (conv => whnf)) | (refine And.intro rfl ?_; (conv => whnf)) | (refine And.intro (Nat.le_of_ble_eq_true rfl) ?_; (conv => whnf)) | (refine And.intro (by assumption) ?_; (conv => whnf)) | (refine And.intro (by decide) ?_; (conv => whnf))))
  refine ⟨u, rfl, by omega, by omega, ?_⟩
  (conv => whnf); (repeat (first | (refine brT rfl ?_; (conv => whnf)) | (refine brF rfl ?_; (conv => whnf)) | (refine And.intro rfl ?_; (conv => whnf)) | (refine And.intro (Nat.le_of_ble_eq_true rfl) ?_; (conv => whnf)) | (refine And.intro (by assumption) ?_; (conv => whnf)) | (refine And.intro (by decide) ?_; (conv => whnf))))
  rw [decide_eq_true (rfl : u.pl = u.pl)]
  refine brF rfl ?_
  (conv => whnf); (repeat (first | (refine brT rfl ?_; (conv => whnf)) | (refine brF rfl ?_; (conv => whnf)) | (refine And.intro rfl ?_; (conv => whnf)) | (refine And.intro (Nat.le_of_ble_eq_true rfl) ?_; (conv => whnf)) | (refine And.intro (by assumption) ?_; (conv => whnf)) | (refine And.intro (by decide) ?_; (conv => whnf))))
  refine ⟨.fork "" t u, rfl, by show max t.dep u.dep + 1 ≤ 12; omega, by show max t.dep u.dep + 1 ≤ 10; omega, ?_⟩
  have ef : (Tree.fork "" t u).pl = (t.pl && (u.pl && !decide (t = u))) := by
    show ((t.abv "" && t.pl) && ((u.abv "" && u.pl) && !decide (t = u))) = _
    rw [abv_emp nt, abv_emp nu, Bool.true_and, Bool.true_and]
  rw [ef]
  (conv => whnf); (repeat (first | (refine brT rfl ?_; (conv => whnf)) | (refine brF rfl ?_; (conv => whnf)) | (refine And.intro rfl ?_; (conv => whnf)) | (refine And.intro (Nat.le_of_ble_eq_true rfl) ?_; (conv => whnf)) | (refine And.intro (by assumption) ?_; (conv => whnf)) | (refine And.intro (by decide) ?_; (conv => whnf))))
  rw [eqS_tp]
  have e2 : deqL R_law_k29.Q true μ (t.tp lfI) (u.tp lfI) = some (!decide (t = u)) := by
    have e0 := et R_law_k29.Q
    generalize decide (t = u) = e at e0 ⊢
    rw [deqL_eq]
    cases t <;> cases u
    all_goals first
      | (show (match deq R_law_k29.Q 10 (rdL μ (Tree.tp lfI _)) (rdL μ (Tree.tp lfI _)) with | some r => some (sgn true r) | none => none) = _
         rw [rdL_tp29, rdL_tp29, e0]
         rfl)
      | (cases e0
         rfl)
  refine eqM (k := !decide (t = u)) e2 ?_
  (conv => whnf); (repeat (first | (refine brT rfl ?_; (conv => whnf)) | (refine brF rfl ?_; (conv => whnf)) | (refine And.intro rfl ?_; (conv => whnf)) | (refine And.intro (Nat.le_of_ble_eq_true rfl) ?_; (conv => whnf)) | (refine And.intro (by assumption) ?_; (conv => whnf)) | (refine And.intro (by decide) ?_; (conv => whnf))))
  clear e2 ef pt pu et eu dc df
  generalize decide (t = u) = e
  generalize t.pl = p1
  generalize u.pl = p2
  cases e
  · refine brT rfl ?_
    cases p1
    · cases p2
      · (conv => whnf); (repeat (first | (refine brT rfl ?_; (conv => whnf)) | (refine brF rfl ?_; (conv => whnf)) | (refine And.intro rfl ?_; (conv => whnf)) | (refine And.intro (Nat.le_of_ble_eq_true rfl) ?_; (conv => whnf)) | (refine And.intro (by assumption) ?_; (conv => whnf)) | (refine And.intro (by decide) ?_; (conv => whnf))))
        rfl
      · (conv => whnf); (repeat (first | (refine brT rfl ?_; (conv => whnf)) | (refine brF rfl ?_; (conv => whnf)) | (refine And.intro rfl ?_; (conv => whnf)) | (refine And.intro (Nat.le_of_ble_eq_true rfl) ?_; (conv => whnf)) | (refine And.intro (by assumption) ?_; (conv => whnf)) | (refine And.intro (by decide) ?_; (conv => whnf))))
        rfl
    · cases p2
      · (conv => whnf); (repeat (first | (refine brT rfl ?_; (conv => whnf)) | (refine brF rfl ?_; (conv => whnf)) | (refine And.intro rfl ?_; (conv => whnf)) | (refine And.intro (Nat.le_of_ble_eq_true rfl) ?_; (conv => whnf)) | (refine And.intro (by assumption) ?_; (conv => whnf)) | (refine And.intro (by decide) ?_; (conv => whnf))))
        rfl
      · (conv => whnf); (repeat (first | (refine brT rfl ?_; (conv => whnf)) | (refine brF rfl ?_; (conv => whnf)) | (refine And.intro rfl ?_; (conv => whnf)) | (refine And.intro (Nat.le_of_ble_eq_true rfl) ?_; (conv => whnf)) | (refine And.intro (by assumption) ?_; (conv => whnf)) | (refine And.intro (by decide) ?_; (conv => whnf))))
        rfl
  · refine brF rfl ?_
    cases p1 <;> cases p2
    all_goals
      (conv => whnf); (repeat (first | (refine brT rfl ?_; (conv => whnf)) | (refine brF rfl ?_; (conv => whnf)) | (refine And.intro rfl ?_; (conv => whnf)) | (refine And.intro (Nat.le_of_ble_eq_true rfl) ?_; (conv => whnf)) | (refine And.intro (by assumption) ?_; (conv => whnf)) | (refine And.intro (by decide) ?_; (conv => whnf))))
      rfl
theorem pure_law_k29 : t_law_k29_0.d R_law_k29 lawEnds (lawE 8) mu0 := by
  (conv => whnf); (repeat (first | (refine brT rfl ?_; (conv => whnf)) | (refine brF rfl ?_; (conv => whnf)) | (refine And.intro rfl ?_; (conv => whnf)) | (refine And.intro (Nat.le_of_ble_eq_true rfl) ?_; (conv => whnf)) | (refine And.intro (by assumption) ?_; (conv => whnf)) | (refine And.intro (by decide) ?_; (conv => whnf))))
  refine draw_of (by omega) (by omega) fun d d0 d1 => ?_
  (conv => whnf); (repeat (first | (refine brT rfl ?_; (conv => whnf)) | (refine brF rfl ?_; (conv => whnf)) | (refine And.intro rfl ?_; (conv => whnf)) | (refine And.intro (Nat.le_of_ble_eq_true rfl) ?_; (conv => whnf)) | (refine And.intro (by assumption) ?_; (conv => whnf)) | (refine And.intro (by decide) ?_; (conv => whnf))))
  (repeat (refine And.intro (by first | assumption | omega | decide) ?_))
  intro ns hnl h1 h2
  (conv => whnf); (repeat (first | (refine brT rfl ?_; (conv => whnf)) | (refine brF rfl ?_; (conv => whnf)) | (refine And.intro rfl ?_; (conv => whnf)) | (refine And.intro (Nat.le_of_ble_eq_true rfl) ?_; (conv => whnf)) | (refine And.intro (by assumption) ?_; (conv => whnf)) | (refine And.intro (by decide) ?_; (conv => whnf))))
  refine ⟨ns, rfl, ?_⟩
  (conv => whnf); (repeat (first | (refine brT rfl ?_; (conv => whnf)) | (refine brF rfl ?_; (conv => whnf)) | (refine And.intro rfl ?_; (conv => whnf)) | (refine And.intro (Nat.le_of_ble_eq_true rfl) ?_; (conv => whnf)) | (refine And.intro (by assumption) ?_; (conv => whnf)) | (refine And.intro (by decide) ?_; (conv => whnf))))
  refine draw_of (by omega) (by omega) fun r r0 r1 => ?_
  have sl : sortL ns = sortU ns := sortL_nd h2
  have ll : (sortL ns).length = ns.length := (sortL_perm ns).length_eq
  have hn : ∀ z ∈ sortL ns, nameB z = true := fun z hz => h1 z ((sortL_perm ns).mem_iff.mp hz)
  (conv => whnf); (repeat (first | (refine brT rfl ?_; (conv => whnf)) | (refine brF rfl ?_; (conv => whnf)) | (refine And.intro rfl ?_; (conv => whnf)) | (refine And.intro (Nat.le_of_ble_eq_true rfl) ?_; (conv => whnf)) | (refine And.intro (by assumption) ?_; (conv => whnf)) | (refine And.intro (by decide) ?_; (conv => whnf))))
  refine ⟨sortL ns, rfl, by omega, by omega, by omega, fun t t1 t2 t3 => ?_⟩
  (conv => whnf); (repeat (first | (refine brT rfl ?_; (conv => whnf)) | (refine brF rfl ?_; (conv => whnf)) | (refine And.intro rfl ?_; (conv => whnf)) | (refine And.intro (Nat.le_of_ble_eq_true rfl) ?_; (conv => whnf)) | (refine And.intro (by assumption) ?_; (conv => whnf)) | (refine And.intro (by decide) ?_; (conv => whnf))))
  refine ⟨sortL ns, rfl, by omega, by omega, by omega, fun u u1 u2 u3 => ?_⟩
  (conv => whnf); (repeat (first | (refine brT rfl ?_; (conv => whnf)) | (refine brF rfl ?_; (conv => whnf)) | (refine And.intro rfl ?_; (conv => whnf)) | (refine And.intro (Nat.le_of_ble_eq_true rfl) ?_; (conv => whnf)) | (refine And.intro (by assumption) ?_; (conv => whnf)) | (refine And.intro (by decide) ?_; (conv => whnf))))
  refine draw_of (by omega) (by omega) fun w w0 w1 => ?_
  have nt : ∀ z ∈ t.names, nameB z = true := fun z hz => hn z (t2 z hz)
  have nu : ∀ z ∈ u.names, nameB z = true := fun z hz => hn z (u2 z hz)
  (conv => whnf); (repeat (first | (refine brT rfl ?_; (conv => whnf)) | (refine brF rfl ?_; (conv => whnf)) | (refine And.intro rfl ?_; (conv => whnf)) | (refine And.intro (Nat.le_of_ble_eq_true rfl) ?_; (conv => whnf)) | (refine And.intro (by assumption) ?_; (conv => whnf)) | (refine And.intro (by decide) ?_; (conv => whnf))))
  by_cases c0 : w = 0
  · refine brT (decide_eq_true c0) ?_
    (conv => whnf); (repeat (first | (refine brT rfl ?_; (conv => whnf)) | (refine brF rfl ?_; (conv => whnf)) | (refine And.intro rfl ?_; (conv => whnf)) | (refine And.intro (Nat.le_of_ble_eq_true rfl) ?_; (conv => whnf)) | (refine And.intro (by assumption) ?_; (conv => whnf)) | (refine And.intro (by decide) ?_; (conv => whnf))))
    refine brF (decide_eq_false (by omega)) ?_
    (conv => whnf); (repeat (first | (refine brT rfl ?_; (conv => whnf)) | (refine brF rfl ?_; (conv => whnf)) | (refine And.intro rfl ?_; (conv => whnf)) | (refine And.intro (Nat.le_of_ble_eq_true rfl) ?_; (conv => whnf)) | (refine And.intro (by assumption) ?_; (conv => whnf)) | (refine And.intro (by decide) ?_; (conv => whnf))))
    exact k29_tail t3 t3 (by omega) (by omega) nt nt _
  · refine brF (decide_eq_false c0) ?_
    (conv => whnf); (repeat (first | (refine brT rfl ?_; (conv => whnf)) | (refine brF rfl ?_; (conv => whnf)) | (refine And.intro rfl ?_; (conv => whnf)) | (refine And.intro (Nat.le_of_ble_eq_true rfl) ?_; (conv => whnf)) | (refine And.intro (by assumption) ?_; (conv => whnf)) | (refine And.intro (by decide) ?_; (conv => whnf))))
    by_cases c1 : w = 1
    · refine brT (decide_eq_true c1) ?_
      cases t with
      | leaf f =>
        (conv => whnf); (repeat (first | (refine brT rfl ?_; (conv => whnf)) | (refine brF rfl ?_; (conv => whnf)) | (refine And.intro rfl ?_; (conv => whnf)) | (refine And.intro (Nat.le_of_ble_eq_true rfl) ?_; (conv => whnf)) | (refine And.intro (by assumption) ?_; (conv => whnf)) | (refine And.intro (by decide) ?_; (conv => whnf))))
        exact k29_tail t3 u3 (by omega) (by omega) nt nu _
      | fork m s o =>
        (conv => whnf); (repeat (first | (refine brT rfl ?_; (conv => whnf)) | (refine brF rfl ?_; (conv => whnf)) | (refine And.intro rfl ?_; (conv => whnf)) | (refine And.intro (Nat.le_of_ble_eq_true rfl) ?_; (conv => whnf)) | (refine And.intro (by assumption) ?_; (conv => whnf)) | (refine And.intro (by decide) ?_; (conv => whnf))))
        have t1 : ((max s.dep o.dep + 1 : Nat) : Int) ≤ 3 := t1
        have d4 : (Tree.fork m s u).dep ≤ 4 := by
          show max s.dep u.dep + 1 ≤ 4
          omega
        refine k29_tail t3 (u := .fork m s u) ⟨t3.1, u3⟩ (by show max s.dep o.dep + 1 ≤ 4; omega) d4 nt (fun z hz => ?_) _
        rcases List.mem_cons.mp hz with rfl | hz
        · exact nt _ List.mem_cons_self
        · exact (List.mem_append.mp hz).elim (fun h => nt z (List.mem_cons_of_mem _ (List.mem_append_left _ h))) (nu z)
    · refine brF (decide_eq_false c1) ?_
      (conv => whnf); (repeat (first | (refine brT rfl ?_; (conv => whnf)) | (refine brF rfl ?_; (conv => whnf)) | (refine And.intro rfl ?_; (conv => whnf)) | (refine And.intro (Nat.le_of_ble_eq_true rfl) ?_; (conv => whnf)) | (refine And.intro (by assumption) ?_; (conv => whnf)) | (refine And.intro (by decide) ?_; (conv => whnf))))
      exact k29_tail t3 u3 (by omega) (by omega) nt nu _
end Px
namespace K29
open PySem PySem.Spec PyProof.Rows L2 NdefX Px
structure T0 (K : Frg) (mg : Str → Option Value) (base : Heap) : Prop where
  says : Says want K
  kin : K.In base
  ns : base.Ns mainGlobals mg
structure Tt (K : Frg) (mg : Str → Option Value) (base : Heap) : Prop extends T0 K mg base where
  tb : ∀ p ∈ csK K, LamX.TabB base mg p.1 p.2
section
variable {w : World} {K : Frg} {mg : Str → Option Value} {base : Heap}
theorem er_InvalidBand (T : T0 K mg base) : ErrF S.P K (ca K .InvalidBand) (errAd K de_InvalidBand) "band" := by
  obtain ⟨v, o⟩ := T.says.err 0 (d := de_InvalidBand) rfl
  exact ErrD.errF v o (by kernel_rfl) (by kernel_rfl) ⟨by decide, by decide, by decide, by decide⟩ ⟨_, _, _, _, _, _, _, _, _, _, _, _, _, _, rfl, rfl, rfl, fun _ _ _ _ _ _ _ _ _ => rfl, fun _ => ⟨_, rfl⟩⟩
theorem er_InvalidInk (T : T0 K mg base) : ErrF S.P K (ca K .InvalidInk) (errAd K de_InvalidInk) "band" := by
  obtain ⟨v, o⟩ := T.says.err 1 (d := de_InvalidInk) rfl
  exact ErrD.errF v o (by kernel_rfl) (by kernel_rfl) ⟨by decide, by decide, by decide, by decide⟩ ⟨_, _, _, _, _, _, _, _, _, _, _, _, _, _, rfl, rfl, rfl, fun _ _ _ _ _ _ _ _ _ => rfl, fun _ => ⟨_, rfl⟩⟩
theorem er_InvalidTakes (T : T0 K mg base) : ErrF S.P K (ca K .InvalidTakes) (errAd K de_InvalidTakes) "takes" := by
  obtain ⟨v, o⟩ := T.says.err 2 (d := de_InvalidTakes) rfl
  exact ErrD.errF v o (by kernel_rfl) (by kernel_rfl) ⟨by decide, by decide, by decide, by decide⟩ ⟨_, _, _, _, _, _, _, _, _, _, _, _, _, _, rfl, rfl, rfl, fun _ _ _ _ _ _ _ _ _ => rfl, fun _ => ⟨_, rfl⟩⟩
theorem facts0 (T : T0 K mg base) : Facts S K mg := Says.facts (S := S) T.says T.kin T.ns (AllE.mem (l := S.er) (AllE.cons rfl (er_InvalidBand T) (AllE.cons rfl (er_InvalidInk T) (AllE.cons rfl (er_InvalidTakes T) AllE.nil))))
theorem facts (T : Tt K mg base) : Facts S K mg := facts0 T.toT0
theorem sm_Filter___init__ (T : Tt K mg base) : SupM K (ca K .Filter) (ca K .Filter) (S.nm 13) (He.ma K (ca K .Ink) (S.nm 13)) := supMB_ok ((He.ba (He.ba (He.ba T.says.more).2).1).1)
theorem sm_Bleach___init__ (T : Tt K mg base) : SupM K (ca K .Bleach) (ca K .Bleach) (S.nm 13) (He.ma K (ca K .Ink) (S.nm 13)) := supMB_ok ((He.ba (He.ba (He.ba T.says.more).2).1).2)
theorem ssx_Chart_250 (T : Tt K mg base) : ssB K .Chart (S.nm 250) = true := (He.ba (He.ba (He.ba T.says.more).2).2).1
theorem ssx_Chart_260 (T : Tt K mg base) : ssB K .Chart (S.nm 260) = true := (He.ba (He.ba (He.ba T.says.more).2).2).2
theorem fs__law_box (T : Tt K mg base) : FnS false TP w K mg base 1 (He.ga K (S.nm 36)) [] (spBox K) := by
  obtain ⟨fd, Fn⟩ := T.says.def_ 0 (d := dp__law_box) rfl
  refine (fn_box Fn sc__law_box rfl rfl fun pn cd A outer s H E => ?_).s (FunD.bindsN (ps := ["_law_script"]) Fn fun _ _ _ _ _ _ us hl => match us, hl with | [_], _ => rfl)
  exact pss_one (ps_ret (pe_lst (pa_cons (pe_lc (own := [("_law_cell", 1)]) (g := gName 1) (tt := tYes) rfl sc__law_box.nd (pi_list (pe_slice sl_list (pv 0) po_none (po_some pe_int))) (blkOk_by (N := n__law_box) (sc := defScope st__law_box) (by decide +kernel)) (fun _ _ _ _ _ => pg_name (i := 1) sc__law_box.nd rfl (Or.inl rfl)) (fun _ _ _ _ _ => pts_nil) (fun _ _ _ _ _ => pe_callTy call_int1 rfl ((facts T).fre "int" (by decide)) boot_int (pa_cons (pv 1) pa_nil))) (pa_cons pe_int (pa_cons pe_int pa_nil)))))
theorem fs__law_draw (T : Tt K mg base) : FnS false TP w K mg base 1 (He.ga K (S.nm 48)) [] (spP K cDraw) := by
  obtain ⟨fd, Fn⟩ := T.says.def_ 1 (d := dp__law_draw) rfl
  have f_int : mg "int" = none := (facts T).fre "int" (by decide)
  have f_len : mg "len" = none := (facts T).fre "len" (by decide)
  refine (fn_draw Fn sc__law_draw rfl rfl fun pn cd A outer s H E => ?_).s (FunD.bindsN (ps := ["_law_box_here", "_law_size"]) Fn fun _ _ _ _ _ _ us hl => match us, hl with | [_, _], _ => rfl)
  have len2 : ∀ {p0 p1 p2 : Pos}, PE (cxG true pn TP w K mg base n__law_draw dp__law_draw.qual dp__law_draw.scope (dp__law_draw.at_.ad K) cd A outer s H E) (.Call (.Name "len" p0) [.Name "_law_cells" p1] [] p2) (tLen K (tVar 2)) := fun {_ _ _} => pe_callB call_len rfl f_len boot_len (pa_cons (pv 2) pa_nil)
  have cel : ∀ {p0 p1 p2 : Pos}, PE (cxG true pn TP w K mg base n__law_draw dp__law_draw.qual dp__law_draw.scope (dp__law_draw.at_.ad K) cd A outer s H E) (.Subscript (.Name "_law_cells" p0) (.Name "_law_place" p1) p2) (tCel K) := fun {_ _ _} => pe_ix ix_seq (pv 2) (pv 3) fun _ _ => rfl
  exact pss_cons (ps_set (i := 2) sc__law_draw.nd rfl (Or.inl rfl) (pe_ix ix_seq (pv 0) pe_int fun _ _ => rfl))
    (pss_cons (ps_set (i := 3) sc__law_draw.nd rfl (Or.inl rfl) (pe_ix ix_seq (pv 0) pe_int fun _ _ => rfl))
    (pss_cons (ps_if (pt_cmpR op_eq len2 pe_int (nomark _)) (pss_one (ps_ret pe_int)) pss_nil)
    (pss_cons (ps_if (pw_and (pt_cmpR op_lt (pv 3) len2 (nomark _)) (pw_and1 (pt_cmpR op_ge cel (pe_op op_pow pe_int pe_int) (nomark _)))).pt
      (pss_cons (ps_set (i := 4) sc__law_draw.nd rfl (Or.inl rfl) cel) (pss_cons (ps_asg (pe_op op_fdivW (pv 4) (pv 1)) (pg_sub (pv 2) (pv 3) set_list)) (pss_one (ps_ret (pe_op op_mod (pe_callTy call_int1 rfl f_int boot_int (pa_cons (pv 4) pa_nil)) (pv 1)))))) pss_nil)
    (pss_cons (ps_set (i := 4) sc__law_draw.nd rfl (Or.inl rfl) pe_int)
    (pss_cons (ps_if (pt_cmpR op_lt (pv 3) len2 (nomark _)) (pss_one (ps_set (i := 4) sc__law_draw.nd rfl (Or.inl rfl) cel)) pss_nil)
    (pss_cons (ps_asg (pe_op op_add (pv 3) pe_int) (pg_sub (pv 0) pe_int set_list))
    (pss_cons (ps_set (i := 5) sc__law_draw.nd rfl (Or.inl rfl) (pe_op op_mod (pe_callTy call_int1 rfl f_int boot_int (pa_cons (pe_op op_add (pe_op op_add (pe_op op_add (pe_op op_mul (pe_ix ix_seq (pv 0) pe_int fun _ _ => rfl) pe_int) (pe_op op_mul (pe_op op_mod (pe_callTy call_int1 rfl f_int boot_int (pa_cons (pv 4) pa_nil)) pe_int) pe_int)) (pv 3)) pe_int) pa_nil)) pe_int))
    (pss_cons (ps_asg (pv 5) (pg_sub (pv 0) pe_int set_list))
    (pss_cons (ps_set (i := 6) sc__law_draw.nd rfl (Or.inl rfl) (pe_op op_mod (pe_callTy call_int1 rfl f_int boot_int (pa_cons (pe_op op_add (pe_op op_mul (pv 5) (pv 5)) (pe_op op_mul (pv 5) pe_int)) pa_nil)) pe_int))
    (pss_one (ps_ret (pe_op op_mod (pe_callTy call_int1 rfl f_int boot_int (pa_cons (pe_op op_fdivW (pv 6) pe_int) pa_nil)) (pv 1)))))))))))))
theorem fs__law_name (T : Tt K mg base) : FnS false TP w K mg base 4 (He.ga K (S.nm 114)) [] (spP K c__law_name) := by
  obtain ⟨fd, Fn⟩ := T.says.def_ 2 (d := dp__law_name) rfl
  exact (fn_z (S := S) (w := w) (base := base) (k := 1) (b := t__law_name_0) (L := L__law_name) (LH := H__law_name) (Q := Q__law_name) false (facts T) Fn sc__law_name (by kernel_rfl) (AllP.cons ((fs__law_draw T).up (by decide)) AllP.nil) AllP.nil (fun z => (by first | rfl | exact absurd rfl z)) AllQ.nil len__law_name pure__law_name).s (FunD.bindsN (ps := ["_law_box_here"]) Fn fun _ _ _ _ _ _ us hl => match us, hl with | [_], _ => rfl)
theorem fs__law_names_v3 (T : Tt K mg base) : FnS false TP w K mg base 7 (He.ga K (S.nm 115)) [] (spP K c__law_names_v3) := by
  obtain ⟨fd, Fn⟩ := T.says.def_ 3 (d := dp__law_names_v3) rfl
  exact (fn_z (S := S) (w := w) (base := base) (k := 4) (b := t__law_names_v3_0) (L := L__law_names_v3) (LH := H__law_names_v3) (Q := Q__law_names_v3) false (facts T) Fn sc__law_names_v3 (by kernel_rfl) (AllP.cons ((fs__law_name T).up (by decide)) AllP.nil) AllP.nil (fun z => (by first | rfl | exact absurd rfl z)) AllQ.nil len__law_names_v3 pure__law_names_v3).s (FunD.bindsN (ps := ["_law_box_here", "_law_many"]) Fn fun _ _ _ _ _ _ us hl => match us, hl with | [_, _], _ => rfl)
theorem fr__law_tree_v2 (T : Tt K mg base) (n : Nat) : FnS false TP w K mg base (3 * n + 4) (He.ga K (S.nm 215)) [] (spP K (cn__law_tree_v2 n)) := by
  obtain ⟨fd, Fn⟩ := T.says.def_ 4 (d := dp__law_tree_v2) rfl
  induction n with
  | zero => exact (fn_z (S := S) (w := w) (base := base) (k := 3 * 0 + 1) (b := t__law_tree_v2_0) (L := L__law_tree_v2 0) (LH := H__law_tree_v2 0) (Q := Q__law_tree_v2 0) false (facts T) Fn sc__law_tree_v2 (by kernel_rfl) (AllP.cons ((fs__law_draw T).up (by omega)) (AllP.cons ((no_prom (k := 0)).up (by omega)) AllP.nil)) AllP.nil (fun z => (by first | rfl | exact absurd rfl z)) AllQ.nil (len__law_tree_v2 0) (pure__law_tree_v2 0)).s (FunD.bindsN (ps := ["_law_box_here", "_law_names_here", "_law_deep", "_law_rising"]) Fn fun _ _ _ _ _ _ us hl => match us, hl with | [_, _, _, _], _ => rfl)
  | succ n ih => exact (fn_z (S := S) (w := w) (base := base) (k := 3 * (n + 1) + 1) (b := t__law_tree_v2_0) (L := L__law_tree_v2 (n + 1)) (LH := H__law_tree_v2 (n + 1)) (Q := Q__law_tree_v2 (n + 1)) false (facts T) Fn sc__law_tree_v2 (by kernel_rfl) (AllP.cons ((fs__law_draw T).up (by omega)) (AllP.cons (ih.up (by omega)) AllP.nil)) AllP.nil (fun z => (by first | rfl | exact absurd rfl z)) AllQ.nil (len__law_tree_v2 (n + 1)) (pure__law_tree_v2 (n + 1))).s (FunD.bindsN (ps := ["_law_box_here", "_law_names_here", "_law_deep", "_law_rising"]) Fn fun _ _ _ _ _ _ us hl => match us, hl with | [_, _, _, _], _ => rfl)
theorem fs__law_tree_v2 (T : Tt K mg base) : FnS false TP w K mg base 22 (He.ga K (S.nm 215)) [] (spP K c__law_tree_v2) := (fr__law_tree_v2 T 6).up (by decide)
theorem fs_Chart___init__ (T : Tt K mg base) : FnS false TP w K mg base 3 (He.ma K (ca K .Chart) (S.nm 13)) [] (spP K c_Chart___init__) := by
  obtain ⟨fd, Fn⟩ := T.says.def_ 5 (d := dp_Chart___init__) rfl
  exact (fn_z (S := S) (w := w) (base := base) (k := 0) (b := t_Chart___init___0) (L := L_Chart___init__) (LH := H_Chart___init__) (Q := Q_Chart___init__) false (facts T) Fn sc_Chart___init__ (by kernel_rfl) AllP.nil AllP.nil (fun z => (by first | rfl | exact absurd rfl z)) AllQ.nil len_Chart___init__ pure_Chart___init__).s (FunD.bindsN (ps := ["self", "mask", "leaf", "when_shut", "when_open"]) Fn fun _ _ _ _ _ _ us hl => match us, hl with | [_, _, _, _, _], _ => rfl)
theorem fs_Chart_end (T : Tt K mg base) : FnS false TP w K mg base 6 (smFn K (ca K .Chart) (S.nm 250)) [] (spP K c_Chart_end) := by
  obtain ⟨fd, Fn⟩ := T.says.def_ 6 (d := dp_Chart_end) rfl
  exact (fn_z (S := S) (w := w) (base := base) (k := 3) (b := t_Chart_end_0) (L := L_Chart_end) (LH := H_Chart_end) (Q := Q_Chart_end) false (facts T) Fn sc_Chart_end (by kernel_rfl) (AllP.cons ⟨_, kc_Chart, ((fs_Chart___init__ T).up (by decide))⟩ AllP.nil) AllP.nil (fun z => (by first | rfl | exact absurd rfl z)) AllQ.nil len_Chart_end pure_Chart_end).s (FunD.bindsN (ps := ["film"]) Fn fun _ _ _ _ _ _ us hl => match us, hl with | [_], _ => rfl)
theorem fs_Film___init__ (T : Tt K mg base) : FnS false TP w K mg base 3 (He.ma K (ca K .Film) (S.nm 13)) [] (spP K c_Film___init__) := by
  obtain ⟨fd, Fn⟩ := T.says.def_ 7 (d := dp_Film___init__) rfl
  exact (fn_z (S := S) (w := w) (base := base) (k := 0) (b := t_Film___init___0) (L := L_Film___init__) (LH := H_Film___init__) (Q := Q_Film___init__) false (facts T) Fn sc_Film___init__ (by kernel_rfl) AllP.nil AllP.nil (fun z => (by first | rfl | exact absurd rfl z)) AllQ.nil len_Film___init__ pure_Film___init__).s (FunD.bindsN (ps := ["self", "bare", "inked"]) Fn fun _ _ _ _ _ _ us hl => match us, hl with | [_, _, _], _ => rfl)
theorem fs_Light___init__ (T : Tt K mg base) : FnS false TP w K mg base 3 (He.ma K (ca K .Light) (S.nm 13)) [] (spP K (starC 1 c_Light___init__)) := by
  obtain ⟨fd, Fn⟩ := T.says.def_ 8 (d := dp_Light___init__) rfl
  exact fn_zs (S := S) (k := 0) (b := t_Light___init___0) (L := L_Light___init__) (LH := H_Light___init__) (Q := Q_Light___init__) (qs := ["self"]) (facts T) Fn sc_Light___init__ (by kernel_rfl) AllP.nil AllP.nil AllQ.nil (fun _ _ _ _ _ _ us rest h => match us, h with | [_], _ => (match rest with | [] => rfl | _ :: _ => rfl)) pure_Light___init__
theorem fs_Film_nothing (T : Tt K mg base) : FnS false TP w K mg base 6 (cmFn K (ca K .Film) (S.nm 293)) [] (spP K c_Film_nothing) := by
  obtain ⟨fd, Fn⟩ := T.says.def_ 9 (d := dp_Film_nothing) rfl
  exact (fn_z (S := S) (w := w) (base := base) (k := 3) (b := t_Film_nothing_0) (L := L_Film_nothing) (LH := H_Film_nothing) (Q := Q_Film_nothing) false (facts T) Fn sc_Film_nothing (by kernel_rfl) (AllP.cons ⟨_, kc_Film, ((fs_Film___init__ T).up (by decide))⟩ (AllP.cons ⟨_, kc_Light, ((fs_Light___init__ T).up (by decide))⟩ AllP.nil)) AllP.nil (fun z => (by first | rfl | exact absurd rfl z)) AllQ.nil len_Film_nothing pure_Film_nothing).s (FunD.bindsN (ps := ["cls"]) Fn fun _ _ _ _ _ _ us hl => match us, hl with | [_], _ => rfl)
theorem fs_Ink_film (T : Tt K mg base) : FnS false TP w K mg base 9 (He.ma K (ca K .Ink) (S.nm 255)) [] (spP K c_Ink_film) := by
  obtain ⟨fd, Fn⟩ := T.says.def_ 10 (d := dp_Ink_film) rfl
  exact (fn_z (S := S) (w := w) (base := base) (k := 6) (b := t_Ink_film_0) (L := L_Ink_film) (LH := H_Ink_film) (Q := Q_Ink_film) false (facts T) Fn sc_Ink_film (by kernel_rfl) (AllP.cons ((fs_Film_nothing T).up (by decide)) (AllP.cons ⟨_, kc_Film, ((fs_Film___init__ T).up (by decide))⟩ AllP.nil)) AllP.nil (fun z => (by first | rfl | exact absurd rfl z)) AllQ.nil len_Ink_film pure_Ink_film).s (FunD.bindsN (ps := ["self"]) Fn fun _ _ _ _ _ _ us hl => match us, hl with | [_], _ => rfl)
theorem fs_Light_numbered (T : Tt K mg base) : FnS false TP w K mg base 6 (cmFn K (ca K .Light) (S.nm 294)) [] (spP K c_Light_numbered) := by
  obtain ⟨fd, Fn⟩ := T.says.def_ 11 (d := dp_Light_numbered) rfl
  exact (fn_z (S := S) (w := w) (base := base) (k := 3) (b := t_Light_numbered_0) (L := L_Light_numbered) (LH := H_Light_numbered) (Q := Q_Light_numbered) false (facts T) Fn sc_Light_numbered (by kernel_rfl) (AllP.cons ⟨_, kc_Light, ((fs_Light___init__ T).up (by decide))⟩ AllP.nil) AllP.nil (fun z => (by first | rfl | exact absurd rfl z)) AllQ.nil len_Light_numbered pure_Light_numbered).s (FunD.bindsN (ps := ["cls", "number"]) Fn fun _ _ _ _ _ _ us hl => match us, hl with | [_, _], _ => rfl)
theorem fs_Light___and__ (T : Tt K mg base) : FnS false TP w K mg base 9 (He.ma K (ca K .Light) (S.nm 2)) [] (spP K c_Light___and__) := by
  obtain ⟨fd, Fn⟩ := T.says.def_ 12 (d := dp_Light___and__) rfl
  exact (fn_z (S := S) (w := w) (base := base) (k := 6) (b := t_Light___and___0) (L := L_Light___and__) (LH := H_Light___and__) (Q := Q_Light___and__) false (facts T) Fn sc_Light___and__ (by kernel_rfl) (AllP.cons ((fs_Light_numbered T).up (by decide)) AllP.nil) AllP.nil (fun z => (by first | rfl | exact absurd rfl z)) AllQ.nil len_Light___and__ pure_Light___and__).s (FunD.bindsN (ps := ["self", "other"]) Fn fun _ _ _ _ _ _ us hl => match us, hl with | [_, _], _ => rfl)
theorem fs_Light___bool__ (T : Tt K mg base) : FnS false TP w K mg base 3 (He.ma K (ca K .Light) (S.nm 8)) [] (spP K c_Light___bool__) := by
  obtain ⟨fd, Fn⟩ := T.says.def_ 13 (d := dp_Light___bool__) rfl
  exact (fn_z (S := S) (w := w) (base := base) (k := 0) (b := t_Light___bool___0) (L := L_Light___bool__) (LH := H_Light___bool__) (Q := Q_Light___bool__) false (facts T) Fn sc_Light___bool__ (by kernel_rfl) AllP.nil AllP.nil (fun z => (by first | rfl | exact absurd rfl z)) AllQ.nil len_Light___bool__ pure_Light___bool__).s (FunD.bindsN (ps := ["self"]) Fn fun _ _ _ _ _ _ us hl => match us, hl with | [_], _ => rfl)
theorem fs_Ink___init___331 (T : Tt K mg base) : FnS false TP w K mg base 12 (He.ma K (ca K .Ink) (S.nm 13)) ([331].map S.nm) (spP K c_Ink___init__) := by
  obtain ⟨fd, Fn⟩ := T.says.def_ 14 (d := dp_Ink___init__) rfl
  exact (fn_z (S := S) (w := w) (base := base) (k := 9) (b := t_Ink___init___0) (L := L_Ink___init__) (LH := H_Ink___init__) (Q := Q_Ink___init__) false (facts T) Fn sc_Ink___init__ (by kernel_rfl) (AllP.cons (prom_m (facts T) (by decide) ((fs_Light___and__ T).up (by decide))) (AllP.cons (prom_m (facts T) (by decide) ((fs_Light___bool__ T).up (by decide))) AllP.nil)) AllP.nil (fun z => (by first | rfl | exact absurd rfl z)) AllQ.nil len_Ink___init__ pure_Ink___init__).sK (bindsK_of (ps := ["self", "off", "on", "takes"]) (ks := ["takes"]) Fn fun _ _ _ _ _ _ us ws h1 h2 => match us, ws, two_len (m := 3) (n := 1) h1 h2, h1 with | [_, _, _], [_], _, _ => rfl)
theorem fs_Filter___init__ (T : Tt K mg base) : FnS false TP w K mg base 17 (He.ma K (ca K .Filter) (S.nm 13)) [] (spP K (dfl [.str "any"] c_Filter___init__)) := by
  obtain ⟨v, o⟩ := T.says.sup 0 (d := ds_Filter___init__) rfl
  obtain ⟨cda, cc, SF⟩ := SupD.supF v o (by kernel_rfl) (by kernel_rfl)
  have ok := zsup_body (S := S) (w := w) (base := base) (k := 14) (N := n_Filter___init__) (D0 := .Filter) (Bc := .Ink) (m := 13) (k2 := [331]) (L := L_Filter___init__) (LH := H_Filter___init__) a_Filter___init__ kk_Filter___init__ (facts T) SF sc_Filter___init__ ((facts T).kc _ (by decide)) (by decide) (sm_Filter___init__ T) (AllP.cons ⟨_, kc_Light, ((fs_Light___init__ T).up (by decide))⟩ (AllP.cons (prom_m (facts T) (by decide) ((fs_Ink___init___331 T).up (by decide))) AllP.nil)) AllP.nil (AllP.cons ⟨_, kc_Light, ((fs_Light___init__ T).up (by decide))⟩ (AllP.cons (prom_m (facts T) (by decide) ((fs_Ink___init___331 T).up (by decide))) AllP.nil)) (by decide) rfl rfl rfl rfl rfl (by kernel_rfl) (by kernel_rfl) (by kernel_rfl) (by kernel_rfl) (by kernel_rfl) pure_Filter___init__ (fun _ => rfl)
  exact fn_zsupD (S := S) (ps := ["self", "light", "takes"]) (dp := [.str "any"]) SF sc_Filter___init__ 2 (List.cons_ne_nil _ _) rfl (fun _ _ _ _ _ us vs h1 h2 => match us, vs, h1, h2 with | [_, _], [_], _, _ => ⟨_, _, _, _, _, _, rfl, rfl, rfl⟩) (fun _ _ => (.cons (by simp only [Rep]; rfl) .nil)) len_Filter___init__ ok
theorem fs_Bleach___init__ (T : Tt K mg base) : FnS false TP w K mg base 17 (He.ma K (ca K .Bleach) (S.nm 13)) [] (spP K (dfl [.str "any"] c_Bleach___init__)) := by
  obtain ⟨v, o⟩ := T.says.sup 1 (d := ds_Bleach___init__) rfl
  obtain ⟨cda, cc, SF⟩ := SupD.supF v o (by kernel_rfl) (by kernel_rfl)
  have ok := zsup_body (S := S) (w := w) (base := base) (k := 14) (N := n_Bleach___init__) (D0 := .Bleach) (Bc := .Ink) (m := 13) (k2 := [331]) (L := L_Bleach___init__) (LH := H_Bleach___init__) a_Bleach___init__ kk_Bleach___init__ (facts T) SF sc_Bleach___init__ ((facts T).kc _ (by decide)) (by decide) (sm_Bleach___init__ T) (AllP.cons ⟨_, kc_Light, ((fs_Light___init__ T).up (by decide))⟩ (AllP.cons (prom_m (facts T) (by decide) ((fs_Ink___init___331 T).up (by decide))) AllP.nil)) AllP.nil (AllP.cons ⟨_, kc_Light, ((fs_Light___init__ T).up (by decide))⟩ (AllP.cons (prom_m (facts T) (by decide) ((fs_Ink___init___331 T).up (by decide))) AllP.nil)) (by decide) rfl rfl rfl rfl rfl (by kernel_rfl) (by kernel_rfl) (by kernel_rfl) (by kernel_rfl) (by kernel_rfl) pure_Bleach___init__ (fun _ => rfl)
  exact fn_zsupD (S := S) (ps := ["self", "light", "takes"]) (dp := [.str "any"]) SF sc_Bleach___init__ 2 (List.cons_ne_nil _ _) rfl (fun _ _ _ _ _ us vs h1 h2 => match us, vs, h1, h2 with | [_, _], [_], _, _ => ⟨_, _, _, _, _, _, rfl, rfl, rfl⟩) (fun _ _ => (.cons (by simp only [Rep]; rfl) .nil)) len_Bleach___init__ ok
theorem fs_Chart_fork (T : Tt K mg base) : FnS false TP w K mg base 6 (smFn K (ca K .Chart) (S.nm 260)) [] (spP K c_Chart_fork) := by
  obtain ⟨fd, Fn⟩ := T.says.def_ 15 (d := dp_Chart_fork) rfl
  exact (fn_z (S := S) (w := w) (base := base) (k := 3) (b := t_Chart_fork_0) (L := L_Chart_fork) (LH := H_Chart_fork) (Q := Q_Chart_fork) false (facts T) Fn sc_Chart_fork (by kernel_rfl) (AllP.cons ⟨_, kc_Chart, ((fs_Chart___init__ T).up (by decide))⟩ AllP.nil) AllP.nil (fun z => (by first | rfl | exact absurd rfl z)) AllQ.nil len_Chart_fork pure_Chart_fork).s (FunD.bindsN (ps := ["mask", "when_shut", "when_open"]) Fn fun _ _ _ _ _ _ us hl => match us, hl with | [_, _, _], _ => rfl)
theorem fr__law_made_v5 (T : Tt K mg base) (n : Nat) : FnS false TP w K mg base (3 * n + 20) (He.ga K (S.nm 106)) [] (spP K (cn__law_made_v5 n)) := by
  obtain ⟨fd, Fn⟩ := T.says.def_ 16 (d := dp__law_made_v5) rfl
  induction n with
  | zero => exact (fn_z (S := S) (w := w) (base := base) (k := 3 * 0 + 17) (b := t__law_made_v5_0) (L := L__law_made_v5 0) (LH := H__law_made_v5 0) (Q := Q__law_made_v5 0) false (facts T) Fn sc__law_made_v5 (by kernel_rfl) (AllP.cons (prom_st (ssx_Chart_250 T) ((fs_Chart_end T).up (by omega))) (AllP.cons ((fs_Film_nothing T).up (by omega)) (AllP.cons (prom_m (facts T) (by decide) ((fs_Ink_film T).up (by omega))) (AllP.cons (prom_i (d := .Ink) (facts T) (by decide) (by decide) ((fs_Ink_film T).up (by omega))) (AllP.cons (prom_i (d := .Ink) (facts T) (by decide) (by decide) ((fs_Ink_film T).up (by omega))) (AllP.cons ⟨_, kc_Filter.dfl, ((fs_Filter___init__ T).up (by omega))⟩ (AllP.cons ⟨_, kc_Light, ((fs_Light___init__ T).up (by omega))⟩ (AllP.cons ⟨_, kc_Bleach.dfl, ((fs_Bleach___init__ T).up (by omega))⟩ (AllP.cons (prom_st (ssx_Chart_260 T) ((fs_Chart_fork T).up (by omega))) (AllP.cons ((no_prom (k := 0)).up (by omega)) AllP.nil)))))))))) AllP.nil (fun z => (by first | rfl | exact absurd rfl z)) AllQ.nil (len__law_made_v5 0) (pure__law_made_v5 0)).s (FunD.bindsN (ps := ["_law_tree_here"]) Fn fun _ _ _ _ _ _ us hl => match us, hl with | [_], _ => rfl)
  | succ n ih => exact (fn_z (S := S) (w := w) (base := base) (k := 3 * (n + 1) + 17) (b := t__law_made_v5_0) (L := L__law_made_v5 (n + 1)) (LH := H__law_made_v5 (n + 1)) (Q := Q__law_made_v5 (n + 1)) false (facts T) Fn sc__law_made_v5 (by kernel_rfl) (AllP.cons (prom_st (ssx_Chart_250 T) ((fs_Chart_end T).up (by omega))) (AllP.cons ((fs_Film_nothing T).up (by omega)) (AllP.cons (prom_m (facts T) (by decide) ((fs_Ink_film T).up (by omega))) (AllP.cons (prom_i (d := .Ink) (facts T) (by decide) (by decide) ((fs_Ink_film T).up (by omega))) (AllP.cons (prom_i (d := .Ink) (facts T) (by decide) (by decide) ((fs_Ink_film T).up (by omega))) (AllP.cons ⟨_, kc_Filter.dfl, ((fs_Filter___init__ T).up (by omega))⟩ (AllP.cons ⟨_, kc_Light, ((fs_Light___init__ T).up (by omega))⟩ (AllP.cons ⟨_, kc_Bleach.dfl, ((fs_Bleach___init__ T).up (by omega))⟩ (AllP.cons (prom_st (ssx_Chart_260 T) ((fs_Chart_fork T).up (by omega))) (AllP.cons (ih.up (by omega)) AllP.nil)))))))))) AllP.nil (fun z => (by first | rfl | exact absurd rfl z)) AllQ.nil (len__law_made_v5 (n + 1)) (pure__law_made_v5 (n + 1))).s (FunD.bindsN (ps := ["_law_tree_here"]) Fn fun _ _ _ _ _ _ us hl => match us, hl with | [_], _ => rfl)
theorem fs__law_made_v5 (T : Tt K mg base) : FnS false TP w K mg base 38 (He.ga K (S.nm 106)) [] (spP K c__law_made_v5) := (fr__law_made_v5 T 6).up (by decide)
theorem fs__law_is (T : Tt K mg base) : FnS false TP w K mg base 3 (He.ga K (S.nm 81)) [] (spP K c__law_is) := by
  obtain ⟨fd, Fn⟩ := T.says.def_ 17 (d := dp__law_is) rfl
  exact (fn_z (S := S) (w := w) (base := base) (k := 0) (b := t__law_is_0) (L := L__law_is) (LH := H__law_is) (Q := Q__law_is) false (facts T) Fn sc__law_is (by kernel_rfl) AllP.nil AllP.nil (fun z => (by first | rfl | exact absurd rfl z)) AllQ.nil len__law_is pure__law_is).s (FunD.bindsN (ps := ["_law_actual", "_law_expected"]) Fn fun _ _ _ _ _ _ us hl => match us, hl with | [_, _], _ => rfl)
theorem fr__law_plain (T : Tt K mg base) (n : Nat) : FnS false TP w K mg base (3 * n + 3) (He.ga K (S.nm 133)) [] (spP K (cn__law_plain n)) := by
  obtain ⟨fd, Fn⟩ := T.says.def_ 18 (d := dp__law_plain) rfl
  induction n with
  | zero => exact (fn_z (S := S) (w := w) (base := base) (k := 3 * 0 + 0) (b := t__law_plain_0) (L := L__law_plain 0) (LH := H__law_plain 0) (Q := Q__law_plain 0) false (facts T) Fn sc__law_plain (by kernel_rfl) (AllP.cons ((no_prom (k := 0)).up (by omega)) AllP.nil) AllP.nil (fun z => (by first | rfl | exact absurd rfl z)) AllQ.nil (len__law_plain 0) (pure__law_plain 0)).s (FunD.bindsN (ps := ["_law_tree_here", "_law_above"]) Fn fun _ _ _ _ _ _ us hl => match us, hl with | [_, _], _ => rfl)
  | succ n ih => exact (fn_z (S := S) (w := w) (base := base) (k := 3 * (n + 1) + 0) (b := t__law_plain_0) (L := L__law_plain (n + 1)) (LH := H__law_plain (n + 1)) (Q := Q__law_plain (n + 1)) false (facts T) Fn sc__law_plain (by kernel_rfl) (AllP.cons (ih.up (by omega)) AllP.nil) AllP.nil (fun z => (by first | rfl | exact absurd rfl z)) AllQ.nil (len__law_plain (n + 1)) (pure__law_plain (n + 1))).s (FunD.bindsN (ps := ["_law_tree_here", "_law_above"]) Fn fun _ _ _ _ _ _ us hl => match us, hl with | [_, _], _ => rfl)
theorem fs__law_plain (T : Tt K mg base) : FnS false TP w K mg base 21 (He.ga K (S.nm 133)) [] (spP K c__law_plain) := (fr__law_plain T 6).up (by decide)
theorem fs_Light___eq__ (T : Tt K mg base) : FnS false TP w K mg base 3 (He.ma K (ca K .Light) (S.nm 9)) [] (spP K c_Light___eq__) := by
  obtain ⟨fd, Fn⟩ := T.says.def_ 19 (d := dp_Light___eq__) rfl
  exact (fn_z (S := S) (w := w) (base := base) (k := 0) (b := t_Light___eq___0) (L := L_Light___eq__) (LH := H_Light___eq__) (Q := Q_Light___eq__) false (facts T) Fn sc_Light___eq__ (by kernel_rfl) AllP.nil AllP.nil (fun z => (by first | rfl | exact absurd rfl z)) AllQ.nil len_Light___eq__ pure_Light___eq__).s (FunD.bindsN (ps := ["self", "other"]) Fn fun _ _ _ _ _ _ us hl => match us, hl with | [_, _], _ => rfl)
theorem fs_Film___eq__ (T : Tt K mg base) : FnS false TP w K mg base 6 (He.ma K (ca K .Film) (S.nm 9)) [] (spP K c_Film___eq__) := by
  obtain ⟨fd, Fn⟩ := T.says.def_ 20 (d := dp_Film___eq__) rfl
  exact (fn_z (S := S) (w := w) (base := base) (k := 3) (b := t_Film___eq___0) (L := L_Film___eq__) (LH := H_Film___eq__) (Q := Q_Film___eq__) false (facts T) Fn sc_Film___eq__ (by kernel_rfl) AllP.nil AllP.nil (fun z => (by first | rfl | exact absurd rfl z)) (AllQ.cons (facts T) (by decide) same_Light (((fs_Light___eq__ T).imp eqi_Light).up (by decide)) AllQ.nil) len_Film___eq__ pure_Film___eq__).s (FunD.bindsN (ps := ["self", "other"]) Fn fun _ _ _ _ _ _ us hl => match us, hl with | [_, _], _ => rfl)
theorem fr_Chart___eq__ (T : Tt K mg base) (n : Nat) : FnS false TP w K mg base (3 * n + 9) (He.ma K (ca K .Chart) (S.nm 9)) [] (spP K (cn_Chart___eq__ n)) := by
  obtain ⟨fd, Fn⟩ := T.says.def_ 21 (d := dp_Chart___eq__) rfl
  induction n with
  | zero => exact (fn_z (S := S) (w := w) (base := base) (k := 3 * 0 + 6) (b := t_Chart___eq___0) (L := L_Chart___eq__ 0) (LH := H_Chart___eq__ 0) (Q := Q_Chart___eq__ 0) false (facts T) Fn sc_Chart___eq__ (by kernel_rfl) AllP.nil AllP.nil (fun z => (by first | rfl | exact absurd rfl z)) (AllQ.cons (facts T) (by decide) same_Film (((fs_Film___eq__ T).imp eqi_Film).up (by omega)) (AllQ.cons (facts T) (by decide) (same_p_Chart _) no_q AllQ.nil)) (len_Chart___eq__ 0) (pure_Chart___eq__ 0)).s (FunD.bindsN (ps := ["self", "other"]) Fn fun _ _ _ _ _ _ us hl => match us, hl with | [_, _], _ => rfl)
  | succ n ih => exact (fn_z (S := S) (w := w) (base := base) (k := 3 * (n + 1) + 6) (b := t_Chart___eq___0) (L := L_Chart___eq__ (n + 1)) (LH := H_Chart___eq__ (n + 1)) (Q := Q_Chart___eq__ (n + 1)) false (facts T) Fn sc_Chart___eq__ (by kernel_rfl) AllP.nil AllP.nil (fun z => (by first | rfl | exact absurd rfl z)) (AllQ.cons (facts T) (by decide) same_Film (((fs_Film___eq__ T).imp eqi_Film).up (by omega)) (AllQ.cons (facts T) (by decide) (same_p_Chart _) (ih.up (by omega)) AllQ.nil)) (len_Chart___eq__ (n + 1)) (pure_Chart___eq__ (n + 1))).s (FunD.bindsN (ps := ["self", "other"]) Fn fun _ _ _ _ _ _ us hl => match us, hl with | [_, _], _ => rfl)
theorem fs_Chart___eq__ (T : Tt K mg base) : FnS false TP w K mg base 45 (He.ma K (ca K .Chart) (S.nm 9)) [] (spP K c_Chart___eq__) := (fr_Chart___eq__ T 12).up (by decide)
theorem fr_Chart_is_plain_v3 (T : Tt K mg base) (n : Nat) : FnS false TP w K mg base (3 * n + 48) (He.ma K (ca K .Chart) (S.nm 267)) [] (spP K (cn_Chart_is_plain_v3 n)) := by
  obtain ⟨fd, Fn⟩ := T.says.def_ 22 (d := dp_Chart_is_plain_v3) rfl
  induction n with
  | zero => exact (fn_z (S := S) (w := w) (base := base) (k := 3 * 0 + 45) (b := t_Chart_is_plain_v3_0) (L := L_Chart_is_plain_v3 0) (LH := H_Chart_is_plain_v3 0) (Q := Q_Chart_is_plain_v3 0) false (facts T) Fn sc_Chart_is_plain_v3 (by kernel_rfl) (AllP.cons (prom_m (facts T) (by decide) ((no_prom (k := 0)).up (by omega))) AllP.nil) AllP.nil (fun z => (by first | rfl | exact absurd rfl z)) (AllQ.cons (facts T) (by decide) same_Chart (((fs_Chart___eq__ T).imp eqi_Chart).up (by omega)) AllQ.nil) (len_Chart_is_plain_v3 0) (pure_Chart_is_plain_v3 0)).s (FunD.bindsN (ps := ["self"]) Fn fun _ _ _ _ _ _ us hl => match us, hl with | [_], _ => rfl)
  | succ n ih => exact (fn_z (S := S) (w := w) (base := base) (k := 3 * (n + 1) + 45) (b := t_Chart_is_plain_v3_0) (L := L_Chart_is_plain_v3 (n + 1)) (LH := H_Chart_is_plain_v3 (n + 1)) (Q := Q_Chart_is_plain_v3 (n + 1)) false (facts T) Fn sc_Chart_is_plain_v3 (by kernel_rfl) (AllP.cons (prom_m (facts T) (by decide) (ih.up (by omega))) AllP.nil) AllP.nil (fun z => (by first | rfl | exact absurd rfl z)) (AllQ.cons (facts T) (by decide) same_Chart (((fs_Chart___eq__ T).imp eqi_Chart).up (by omega)) AllQ.nil) (len_Chart_is_plain_v3 (n + 1)) (pure_Chart_is_plain_v3 (n + 1))).s (FunD.bindsN (ps := ["self"]) Fn fun _ _ _ _ _ _ us hl => match us, hl with | [_], _ => rfl)
theorem fs_Chart_is_plain_v3 (T : Tt K mg base) : FnS false TP w K mg base 84 (He.ma K (ca K .Chart) (S.nm 267)) [] (spP K c_Chart_is_plain_v3) := (fr_Chart_is_plain_v3 T 12).up (by decide)
theorem fo_law (c : Says want K) : ∃ fd : FuncData, (∀ (s : Shared) (u : Value), BindsTo s fd ⟨[u], []⟩ [("_law_script", u)]) ∧ ∀ base : Heap, K.In base → base.Ns mainGlobals mg → (∀ p ∈ csK K, LamX.TabB base mg p.1 p.2) → FnOkG TP w K mg base (CXI K TP w) 87 (He.ga K (S.nm 276)) fd ["_law_script"] (spLaw K) := by
  obtain ⟨fd, Fn⟩ := c.def_ 23 (d := dp_law_k29) rfl
  have b := FunD.bindsA (ps := ["_law_script"]) Fn fun _ _ _ _ _ _ us hl => match us, hl with | [_], _ => rfl
  refine ⟨fd, fun s v => b s [v] rfl, fun base kb nb tb => ?_⟩
  have T : Tt K mg base := ⟨⟨c, kb, nb⟩, tb⟩
  have gb := (facts T).gl 36 (by decide)
  refine (fn_zlaw (S := S) (n := 8) (k := 84) (b := t_law_k29_0) (L := L_law_k29) (LH := H_law_k29) (Q := Q_law_k29) (facts T) Fn sc_law_k29 rfl rfl rfl (by kernel_rfl) (AllP.cons ((fs__law_names_v3 T).up (by decide)) (AllP.cons ((fs__law_draw T).up (by decide)) (AllP.cons ((fs__law_tree_v2 T).up (by decide)) (AllP.cons ((fs__law_made_v5 T).up (by decide)) (AllP.cons ((fs__law_is T).up (by decide)) (AllP.cons ((fs_Film_nothing T).up (by decide)) (AllP.cons ((fs__law_plain T).up (by decide)) (AllP.cons (prom_m (facts T) (by decide) ((fs_Chart_is_plain_v3 T).up (by decide))) (AllP.cons (prom_st (ssx_Chart_260 T) ((fs_Chart_fork T).up (by decide))) AllP.nil))))))))) AllP.nil (AllQ.cons (facts T) (by decide) same_Chart (((fs_Chart___eq__ T).imp eqi_Chart).up (by decide)) (AllQ.cons (facts T) (by decide) same_Film (((fs_Film___eq__ T).imp eqi_Film).up (by decide)) AllQ.nil)) (fun pn cd A outer s H E he => ?_) pure_law_k29).calm
  exact ps_set (i := 1) sc_law_k29.nd rfl (by first | exact Or.inl rfl | exact Or.inr rfl | exact Or.inr (Or.inl rfl)) (pe_raw (fs__law_box T) (.inl rfl) (he.rm.mono (by decide)) he.tk gb.1 gb.2 (pa_cons (pv 0) pa_nil))
end
end K29
open PySem PySem.W PySem.Calls PyProof.Rows
theorem PySem.Challenge.cw_laidink_k29_plain_charts_holds : PySem.Challenge.rw_laidink_k29_plain_charts.Holds := by
  w_on; o_law
  refine HandSHeadRun.head_any (r := OpenLaw.row PySem.Challenge.rw_laidink_k29_plain_charts) (q := view (OpenLaw.row PySem.Challenge.rw_laidink_k29_plain_charts).prog [26]) (H := K29.hk) (ob := K29.ob) (M := 20000) (loose := ["_wall", "PrintError", "InvalidBand", "InvalidInk", "InvalidTakes", "Light", "effect_after", "Film", "Chart", "Ink", "Filter", "Bleach", "_law_draw", "_law_box", "_law_name", "_law_names", "_law_is", "_law_tree", "_law_made", "_law_plain"]) (d := HandSHeadRun.topDef (OpenLaw.row PySem.Challenge.rw_laidink_k29_plain_charts).prog 26) (kwd := []) K29.ob_eq
    (by kernel_rfl) (fun s => by kernel_rfl) K29.run (by kernel_rfl) (by kernel_rfl) (by kernel_rfl) (by rfl) (by first | assumption | decide +kernel) (by decide +kernel) ⟨rfl, rfl, rfl, rfl, rfl, by decide +kernel⟩ ?hw ?hc
  case hw => w_witness2
  case hc =>
    refine Px.law_end (l := PySem.Challenge.rw_laidink_k29_plain_charts) (t := K29.want) (k := 87) (x := "_law_script") (sp := Px.spLaw) rfl (by kernel_rfl) ⟨rfl, by decide, by decide, rfl⟩ (fun w mg fa h K KX c G hmg0 => ?_) (fun K H a ns hl _ hT hS => ⟨a, ns, rfl, hl, hS, hT, fun _ => rfl⟩)
    have hmg : mg ("law" : PySem.Str) = some (.ref fa) := by
      have e : (HandSHeadRun.topDef (OpenLaw.row PySem.Challenge.rw_laidink_k29_plain_charts).prog 26).name = ("law" : PySem.Str) := by kernel_rfl
      rw [← e]
      exact hmg0
    have e := hmg.symm.trans ((K29.facts0 (mg := mg) (base := h) ⟨c, KX, G⟩).gl 276 (by decide)).1
    cases e
    exact K29.fo_law (w := w) (mg := mg) c
