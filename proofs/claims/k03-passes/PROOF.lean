import PyProof.Rows.All
import Wide.All
import OpenK.AllK
import Wide.FinOn
import HandS.ForMost
import HandS.ForExc
import HandS.IsInst
import HandS.Wide
import HandS.Evl
import HandS.Flow
import HandS.More
import HandS.Style
import HandS.Deep
import HandS.TupAny
import HandS.HotCalls
import HandS.ExcIs
import HandS.Set
import HandS.Strs
import HandS.Zip
import PyProof.Rows.SortShellSt
import HandS.EndBits
import PySem.Challenge.RW_latchtown_k03_passes_and_whom_they_let
set_option Elab.async false
set_option linter.all false
set_option maxRecDepth 100000
set_option maxHeartbeats 4000000
namespace LK
open PySem L2 Evl
/-! # data: what a value is worth, its lists tracked -/
mutual
inductive Da (K : PySem.W.Frag) (H : Hp) : V → PyData → Prop
  | non : Da K H .non .none
  | bl (b : Bool) : Da K H (.bl b) (.bool b)
  | int (i : Int) : Da K H (.int i) (.int i)
  | str (x : Str) : Da K H (.str x) (.str x)
  | lst {a : Addr} {xs : List V} {ds : List PyData} (h : H a = some (.lst xs)) (r : DaL K H xs ds) : Da K H (.ref a) (.list ds)
  | tup {a : Addr} {xs : List V} {ds : List PyData} (h : SqT K H a xs) (r : DaL K H xs ds) : Da K H (.ref a) (.tuple ds)
inductive DaL (K : PySem.W.Frag) (H : Hp) : List V → List PyData → Prop
  | nil : DaL K H [] []
  | cons {v : V} {d : PyData} {vs : List V} {ds : List PyData} (h : Da K H v d) (r : DaL K H vs ds) : DaL K H (v :: vs) (d :: ds)
end
section
variable {K : PySem.W.Frag} {H H' : Hp}
mutual
theorem Da.mono (e : Ex H H') : ∀ {v : V} {d : PyData}, Da K H v d → Da K H' v d
  | _, _, .non => .non
  | _, _, .bl b => .bl b
  | _, _, .int i => .int i
  | _, _, .str x => .str x
  | _, _, .lst h r => .lst (e _ _ h) (DaL.mono e r)
  | _, _, .tup h r => .tup (ex_t e h) (DaL.mono e r)
theorem DaL.mono (e : Ex H H') : ∀ {vs : List V} {ds : List PyData}, DaL K H vs ds → DaL K H' vs ds
  | _, _, .nil => .nil
  | _, _, .cons h r => .cons (Da.mono e h) (DaL.mono e r)
end
mutual
theorem Da.dp : ∀ {v : V} {d : PyData}, Da K H v d → Dp K H v d
  | _, _, .non => .non
  | _, _, .bl b => .bl b
  | _, _, .int i => .int i
  | _, _, .str x => .str x
  | _, _, .lst h r => .lst (SqL.of h) (DaL.dp r)
  | _, _, .tup h r => .tup h (DaL.dp r)
theorem DaL.dp : ∀ {vs : List V} {ds : List PyData}, DaL K H vs ds → DpAll K H vs ds
  | _, _, .nil => .nil
  | _, _, .cons h r => .cons (Da.dp h) (DaL.dp r)
end
theorem Da.int_eq {v : V} {i : Int} (h : Da K H v (.int i)) : v = .int i := by cases h; rfl
theorem Da.bl_eq {v : V} {b : Bool} (h : Da K H v (.bool b)) : v = .bl b := by cases h; rfl
theorem Da.str_eq {v : V} {x : Str} (h : Da K H v (.str x)) : v = .str x := by cases h; rfl
theorem Da.non_eq {v : V} (h : Da K H v .none) : v = .non := by cases h; rfl
theorem DaL.len : ∀ {vs : List V} {ds : List PyData}, DaL K H vs ds → vs.length = ds.length
  | _, _, .nil => rfl
  | _, _, .cons _ r => congrArg (· + 1) (DaL.len r)
theorem DaL.get : ∀ {vs : List V} {ds : List PyData} {i : Nat} {d : PyData}, DaL K H vs ds → ds[i]? = some d → ∃ v, vs[i]? = some v ∧ Da K H v d
  | _, _, _, _, .nil, e => by simp at e
  | _, _, 0, _, .cons h _, e => ⟨_, rfl, by have q := Option.some.inj e; rw [← q]; exact h⟩
  | _, _, i + 1, d, .cons _ r, e => DaL.get (i := i) (d := d) r e
theorem DaL.getV : ∀ {vs : List V} {ds : List PyData} {i : Nat} {v : V}, DaL K H vs ds → vs[i]? = some v → ∃ d, ds[i]? = some d ∧ Da K H v d
  | _, _, _, _, .nil, e => by simp at e
  | _, _, 0, _, .cons h _, e => ⟨_, rfl, by have q := Option.some.inj e; rw [← q]; exact h⟩
  | _, _, i + 1, v, .cons _ r, e => DaL.getV (i := i) (v := v) r e
theorem DaL.app : ∀ {vs ws : List V} {ds es : List PyData}, DaL K H vs ds → DaL K H ws es → DaL K H (vs ++ ws) (ds ++ es)
  | _, _, _, _, .nil, q => q
  | _, _, _, _, .cons h r, q => .cons h (DaL.app r q)
theorem DaL.take : ∀ {vs : List V} {ds : List PyData} (n : Nat), DaL K H vs ds → DaL K H (vs.take n) (ds.take n)
  | _, _, 0, _ => .nil
  | _, _, _ + 1, .nil => .nil
  | _, _, n + 1, .cons h r => .cons h (DaL.take n r)
theorem DaL.drop : ∀ {vs : List V} {ds : List PyData} (n : Nat), DaL K H vs ds → DaL K H (vs.drop n) (ds.drop n)
  | _, _, 0, r => r
  | _, _, _ + 1, .nil => .nil
  | _, _, n + 1, .cons _ r => DaL.drop n r
theorem DaL.one {v : V} {d : PyData} (h : Da K H v d) : DaL K H [v] [d] := .cons h .nil
theorem DaL.strs : ∀ {vs : List V} {ss : List Str}, DaL K H vs (ss.map .str) → vs = ss.map V.str
  | _, [], h => by cases h; rfl
  | _, s :: r, h => by
    cases h with
    | cons a b => rw [a.str_eq, DaL.strs b]; rfl
theorem DaL.ints : ∀ {vs : List V} {ss : List Int}, DaL K H vs (ss.map .int) → vs = ss.map V.int
  | _, [], h => by cases h; rfl
  | _, s :: r, h => by
    cases h with
    | cons a b => rw [a.int_eq, DaL.ints b]; rfl
theorem DaL.bools : ∀ {vs : List V} {ss : List Bool}, DaL K H vs (ss.map .bool) → vs = ss.map V.bl
  | _, [], h => by cases h; rfl
  | _, s :: r, h => by
    cases h with
    | cons a b => rw [a.bl_eq, DaL.bools b]; rfl
theorem DaL.ofStrs : ∀ (ss : List Str), DaL K H (ss.map V.str) (ss.map .str)
  | [] => .nil
  | _ :: r => .cons (.str _) (DaL.ofStrs r)
theorem DaL.ofInts : ∀ (ss : List Int), DaL K H (ss.map V.int) (ss.map .int)
  | [] => .nil
  | _ :: r => .cons (.int _) (DaL.ofInts r)
theorem DaL.ofBools : ∀ (ss : List Bool), DaL K H (ss.map V.bl) (ss.map .bool)
  | [] => .nil
  | _ :: r => .cons (.bl _) (DaL.ofBools r)
end
/-! # what grows: G the settled part, H all that is tracked, ms what may be written -/
structure Grow (ms : List Addr) (G H G' H' : Hp) : Prop where
  gg : Ex G G'
  gh : Ex G' H'
  fr : ∀ a o, H a = some o → a ∉ ms → H' a = some o
  fg : ∀ a, H a ≠ none → G a = none → G' a = none
  dm : ∀ a, H a ≠ none → H' a ≠ none
theorem ex_dom {H H' : Hp} (e : Ex H H') : ∀ a, H a ≠ none → H' a ≠ none := fun a h => by
  cases q : H a with
  | none => exact absurd q h
  | some o => rw [e a o q]; exact fun z => nomatch z
theorem Grow.refl {G H : Hp} (e : Ex G H) : Grow [] G H G H := ⟨Ex.refl G, e, fun _ _ h _ => h, fun _ _ h => h, fun _ h => h⟩
theorem Grow.of_ex {G H H' : Hp} (e : Ex G H) (x : Ex H H') : Grow [] G H G H' := ⟨Ex.refl G, e.trans x, fun a o h _ => x a o h, fun _ _ h => h, ex_dom x⟩
theorem Grow.hh {G H G' H' : Hp} (g : Grow [] G H G' H') : Ex H H' := fun a o h => g.fr a o h (by simp)
theorem Grow.trans {ms : List Addr} {G H G1 H1 G2 H2 : Hp} (a : Grow ms G H G1 H1) (b : Grow ms G1 H1 G2 H2) : Grow ms G H G2 H2 :=
  ⟨a.gg.trans b.gg, b.gh, fun x o h n => b.fr x o (a.fr x o h n) n, fun x h n => b.fg x (a.dm x h) (a.fg x h n), fun x h => b.dm x (a.dm x h)⟩
theorem Grow.mono {ms ns : List Addr} {G H G1 H1 : Hp} (a : Grow ms G H G1 H1) (h : ∀ x ∈ ms, x ∈ ns) : Grow ns G H G1 H1 :=
  ⟨a.gg, a.gh, fun x o q n => a.fr x o q fun z => n (h x z), a.fg, a.dm⟩
theorem Grow.up {ms : List Addr} {G H G1 H1 : Hp} (a : Grow [] G H G1 H1) : Grow ms G H G1 H1 := a.mono fun _ h => nomatch h
/-- a new settled object -/
theorem ex_both {G H : Hp} {p : Addr} {o : HO} (e : Ex G H) : Ex (upd G p o) (upd H p o) := fun a u h => by
  by_cases q : a = p
  · subst q; rw [upd_same] at h ⊢; exact h
  · rw [upd_ne q] at h ⊢; exact e a u h
theorem Grow.new {G H : Hp} {p : Addr} {o : HO} (e : Ex G H) (n : H p = none) : Grow [] G H (upd G p o) (upd H p o) :=
  ⟨Ex.new (fresh_back e n), ex_both e, fun a u h _ => by rw [upd_ne (ne_of_none h n)]; exact h,
    fun a h g => by
      have : a ≠ p := fun z => h (by rw [z]; exact n)
      rw [upd_ne this]; exact g,
    ex_dom (Ex.new n)⟩
/-! # evaluating to data -/
def EvD (K : PySem.W.Frag) (te : TE) (σ : L2.St) (G : Hp) (d : PyData) : Prop :=
  ∀ G1 H, Ex G G1 → Ex G1 H → ∀ Q : VK, (∀ v G' H', Grow [] G1 H G' H' → Da K G' v d → Q v H') → te σ H Q
def EvT (tt : TT) (σ : L2.St) (G : Hp) (b : Bool) : Prop :=
  ∀ H, Ex G H → ∀ Q : Bool → Hp → Prop, (∀ H', Ex H H' → Q b H') → tt σ H Q
def EvA (K : PySem.W.Frag) (ta : TA) (σ : L2.St) (G : Hp) (ds : List PyData) : Prop :=
  ∀ G1 H, Ex G G1 → Ex G1 H → ∀ Q : List V → Hp → Prop, (∀ vs G' H', Grow [] G1 H G' H' → DaL K G' vs ds → Q vs H') → ta σ H Q
/-- an operation on two values, on one, on a list of them, by data -/
def RD2 (K : PySem.W.Frag) (r : R2) (G : Hp) (a b d : PyData) : Prop :=
  ∀ G1 H, Ex G G1 → Ex G1 H → ∀ x y, Da K G1 x a → Da K G1 y b → ∀ Q : VK, (∀ v G' H', Grow [] G1 H G' H' → Da K G' v d → Q v H') → r x y H Q
def RD1 (K : PySem.W.Frag) (r : V → Hp → VK → Prop) (G : Hp) (a d : PyData) : Prop :=
  ∀ G1 H, Ex G G1 → Ex G1 H → ∀ x, Da K G1 x a → ∀ Q : VK, (∀ v G' H', Grow [] G1 H G' H' → Da K G' v d → Q v H') → r x H Q
def RDA (K : PySem.W.Frag) (r : List V → Hp → VK → Prop) (G : Hp) (as : List PyData) (d : PyData) : Prop :=
  ∀ G1 H, Ex G G1 → Ex G1 H → ∀ xs, DaL K G1 xs as → ∀ Q : VK, (∀ v G' H', Grow [] G1 H G' H' → Da K G' v d → Q v H') → r xs H Q
section
variable {K : PySem.W.Frag} {σ : L2.St} {G G' : Hp} {te ta tb : TE} {tt tu : TT} {a b d : PyData} {ds : List PyData} {r : R2}
theorem EvD.mono (e : Ex G G') (h : EvD K te σ G d) : EvD K te σ G' d := fun G1 H x y Q q => h G1 H (e.trans x) y Q q
theorem EvA.mono {ta : TA} (e : Ex G G') (h : EvA K ta σ G ds) : EvA K ta σ G' ds := fun G1 H x y Q q => h G1 H (e.trans x) y Q q
theorem EvT.mono {b : Bool} (e : Ex G G') (h : EvT tt σ G b) : EvT tt σ G' b := fun H x Q q => h H (e.trans x) Q q
theorem RD2.mono (e : Ex G G') (h : RD2 K r G a b d) : RD2 K r G' a b d := fun G1 H x y => h G1 H (e.trans x) y
theorem ev_var {i : Nat} {v : V} (h : σ[i]? = some (some v)) (hd : Da K G v d) : EvD K (tVar i) σ G d := fun G1 H x y Q q => ⟨v, h, q v G1 H (Grow.refl y) (hd.mono x)⟩
theorem ev_int {i : Int} : EvD K (tC (.int i)) σ G (.int i) := fun G1 H x y Q q => q _ G1 H (Grow.refl y) (.int i)
theorem ev_bl {i : Bool} : EvD K (tC (.bl i)) σ G (.bool i) := fun G1 H x y Q q => q _ G1 H (Grow.refl y) (.bl i)
theorem ev_str {i : Str} : EvD K (tC (.str i)) σ G (.str i) := fun G1 H x y Q q => q _ G1 H (Grow.refl y) (.str i)
theorem ev_non : EvD K (tC .non) σ G .none := fun G1 H x y Q q => q _ G1 H (Grow.refl y) .non
theorem ev_is {d' : PyData} (h : EvD K te σ G d) (e : d = d') : EvD K te σ G d' := e ▸ h
theorem et_is {b b' : Bool} (h : EvT tt σ G b) (e : b = b') : EvT tt σ G b' := e ▸ h
theorem ev_op (ha : EvD K ta σ G a) (hb : EvD K tb σ G b) (hr : RD2 K r G a b d) : EvD K (tOp r ta tb) σ G d := fun G1 H x y Q q =>
  ha G1 H x y _ fun v1 G2 H2 g2 d2 => hb G2 H2 (x.trans g2.gg) g2.gh _ fun v2 G3 H3 g3 d3 =>
    hr G3 H3 ((x.trans g2.gg).trans g3.gg) g3.gh v1 v2 (d2.mono g3.gg) d3 Q fun v G4 H4 g4 d4 => q v G4 H4 ((g2.trans g3).trans g4) d4
theorem ev_un {r : V → Hp → VK → Prop} (ha : EvD K ta σ G a) (hr : RD1 K r G a d) : EvD K (tUn r ta) σ G d := fun G1 H x y Q q =>
  ha G1 H x y _ fun v1 G2 H2 g2 d2 => hr G2 H2 (x.trans g2.gg) g2.gh v1 d2 Q fun v G4 H4 g4 d4 => q v G4 H4 (g2.trans g4) d4
/-- a bool's evaluation as a test -/
theorem et_test {c : Bool} (h : EvD K te σ G (.bool c)) : EvT (tTest te) σ G c := fun H x Q q =>
  h G H (Ex.refl G) x _ fun v G2 H2 g2 d2 => ⟨c, d2.bl_eq, q H2 g2.hh⟩
theorem et_B {c : Bool} (h : EvD K te σ G (.bool c)) : EvT (tB te) σ G c := fun H x Q q =>
  h G H (Ex.refl G) x _ fun v G2 H2 g2 d2 => ⟨c, d2.bl_eq, q H2 g2.hh⟩
theorem et_and {x y : Bool} (h1 : EvT tt σ G x) (h2 : x = true → EvT tu σ G y) : EvT (tAnd tt tu) σ G (x && y) := fun H e Q q => h1 H e _ fun H2 e2 => by
  cases x with
  | true => exact h2 rfl H2 (e.trans e2) Q fun H3 e3 => q H3 (e2.trans e3)
  | false => exact q H2 e2
theorem et_or {x y : Bool} (h1 : EvT tt σ G x) (h2 : x = false → EvT tu σ G y) : EvT (tOr tt tu) σ G (x || y) := fun H e Q q => h1 H e _ fun H2 e2 => by
  cases x with
  | true => exact q H2 e2
  | false => exact h2 rfl H2 (e.trans e2) Q fun H3 e3 => q H3 (e2.trans e3)
theorem et_not {x : Bool} (h1 : EvT tt σ G x) : EvT (tNot tt) σ G (!x) := fun H e _ q => h1 H e _ fun H2 e2 => q H2 e2
theorem ev_andV {x : Bool} {y : PyData} (h1 : EvD K ta σ G (.bool x)) (h2 : x = true → EvD K tb σ G y) : EvD K (tAndV ta tb) σ G (if x = true then y else .bool false) := fun G1 H e e' Q q =>
  h1 G1 H e e' _ fun v G2 H2 g2 d2 => ⟨x, d2.bl_eq, by
    cases x with
    | true => exact h2 rfl G2 H2 (e.trans g2.gg) g2.gh Q fun v G3 H3 g3 d3 => q v G3 H3 (g2.trans g3) d3
    | false => exact q _ G2 H2 g2 (.bl false)⟩
theorem ev_orV {x : Bool} {y : PyData} (h1 : EvD K ta σ G (.bool x)) (h2 : x = false → EvD K tb σ G y) : EvD K (tOrV ta tb) σ G (if x = true then .bool true else y) := fun G1 H e e' Q q =>
  h1 G1 H e e' _ fun v G2 H2 g2 d2 => ⟨x, d2.bl_eq, by
    cases x with
    | true => exact q _ G2 H2 g2 (.bl true)
    | false => exact h2 rfl G2 H2 (e.trans g2.gg) g2.gh Q fun v G3 H3 g3 d3 => q v G3 H3 (g2.trans g3) d3⟩
theorem ev_and {x y : Bool} (h1 : EvD K ta σ G (.bool x)) (h2 : x = true → EvD K tb σ G (.bool y)) : EvD K (tAndV ta tb) σ G (.bool (x && y)) :=
  ev_is (ev_andV h1 h2) (by cases x <;> rfl)
theorem ev_or {x y : Bool} (h1 : EvD K ta σ G (.bool x)) (h2 : x = false → EvD K tb σ G (.bool y)) : EvD K (tOrV ta tb) σ G (.bool (x || y)) :=
  ev_is (ev_orV h1 h2) (by cases x <;> rfl)
theorem ev_not {x : Bool} (h1 : EvD K ta σ G (.bool x)) : EvD K (tNotV ta) σ G (.bool (!x)) := fun G1 H e e' Q q =>
  h1 G1 H e e' _ fun v G2 H2 g2 d2 => ⟨x, d2.bl_eq, q _ G2 H2 g2 (.bl _)⟩
theorem ev_if {x : Bool} (h : EvT tt σ G x) (h1 : x = true → EvD K ta σ G a) (h2 : x = false → EvD K tb σ G b) : EvD K (tIf tt ta tb) σ G (if x = true then a else b) := fun G1 H e e' Q q =>
  h H (e.trans e') _ fun H2 e2 => by
    cases x with
    | true => exact h1 rfl G1 H2 e (e'.trans e2) Q fun v G3 H3 g3 d3 => q v G3 H3 ((Grow.of_ex e' e2).trans g3) d3
    | false => exact h2 rfl G1 H2 e (e'.trans e2) Q fun v G3 H3 g3 d3 => q v G3 H3 ((Grow.of_ex e' e2).trans g3) d3
theorem ea_nil : EvA K tNil σ G [] := fun G1 H x y Q q => q [] G1 H (Grow.refl y) .nil
theorem ea_cons {tr : TA} (ha : EvD K ta σ G a) (hr : EvA K tr σ G ds) : EvA K (tCons ta tr) σ G (a :: ds) := fun G1 H x y Q q =>
  ha G1 H x y _ fun v1 G2 H2 g2 d2 => hr G2 H2 (x.trans g2.gg) g2.gh _ fun vs G3 H3 g3 d3 => q (v1 :: vs) G3 H3 (g2.trans g3) (.cons (d2.mono g3.gg) d3)
theorem ev_tup {ta : TA} (h : EvA K ta σ G ds) (hl : ds.length ≤ 100000) : EvD K (tTup ta) σ G (.tuple ds) := fun G1 H x y Q q =>
  h G1 H x y _ fun vs G2 H2 g2 d2 => ⟨by rw [d2.len]; exact sz_of hl, fun p hp =>
    q _ _ _ (g2.trans (Grow.new g2.gh hp)) (.tup (SqT.of upd_same) (d2.mono (Ex.new (fresh_back g2.gh hp))))⟩
theorem ev_lst {ta : TA} (h : EvA K ta σ G ds) (hl : ds.length ≤ 100000) : EvD K (tLst ta) σ G (.list ds) := fun G1 H x y Q q =>
  h G1 H x y _ fun vs G2 H2 g2 d2 => ⟨by rw [d2.len]; exact sz_of hl, fun p hp =>
    q _ _ _ (g2.trans (Grow.new g2.gh hp)) (.lst upd_same (d2.mono (Ex.new (fresh_back g2.gh hp))))⟩
theorem ev_cb {r : List V → Hp → VK → Prop} {ta : TA} (h : EvA K ta σ G ds) (hr : RDA K r G ds d) : EvD K (tCB r ta) σ G d := fun G1 H x y Q q =>
  h G1 H x y _ fun vs G2 H2 g2 d2 => hr G2 H2 (x.trans g2.gg) g2.gh vs d2 Q fun v G4 H4 g4 d4 => q v G4 H4 (g2.trans g4) d4
/-- a plain result -/
theorem ok1 {G1 H : Hp} {Q : VK} {v : V} {d : PyData} (y : Ex G1 H) (q : ∀ v G' H', Grow [] G1 H G' H' → Da K G' v d → Q v H') (h : Da K G1 v d) : Q v H := q v G1 H (Grow.refl y) h
end
/-! # operators: one reading for all kinds -/
abbrev rI2 (g : Int → Int → Int) : R2 := rI0 fun i j => V.int (g i j)
def kAdd (K : PySem.W.Frag) : R2 := fun x y H Q => rI0 (fun i j => V.int (i + j)) x y H Q ∨
  (∃ i j, x = .str i ∧ y = .str j ∧ i.length + j.length ≤ sizeLine ∧ Q (.str (i ++ j)) H) ∨ rCat x y H Q ∨ rCatA K x y H Q
def kSub : R2 := rI0 fun i j => V.int (i - j)
def kMul : R2 := fun x y H Q => rI CMulW (fun i j => V.int (i * j)) x y H Q ∨ rRep x y H Q
def kDiv : R2 := rI CDivW fun i j => V.int (i / j)
def kMod : R2 := rI (fun _ j => 0 < j) fun i j => V.int (i % j)
def kPow : R2 := rI CPow fun i j => V.int (i ^ j.toNat)
def kEq (K : PySem.W.Frag) : R2 := fun x y H Q => rEq x y H Q ∨ rEqD K x y H Q
def kNe (K : PySem.W.Frag) : R2 := fun x y H Q => rNe x y H Q ∨ rNeD K x y H Q
def kLt (K : PySem.W.Frag) : R2 := fun x y H Q => rI0 (fun i j => .bl (decide (i < j))) x y H Q ∨
  (∃ i j, x = .str i ∧ y = .str j ∧ Q (.bl (decide (i.cps.toList < j.cps.toList))) H) ∨ rLtT K x y H Q
def kLe : R2 := rI0 fun i j => .bl (decide (i ≤ j))
def kGt : R2 := rI0 fun i j => .bl (decide (j < i))
def kGe : R2 := rI0 fun i j => .bl (decide (j ≤ i))
def kIn (K : PySem.W.Frag) : R2 := fun x y H Q => rIn K false x y H Q ∨ ∃ (c : Nat) (z : Str), x = .str ⟨#[c]⟩ ∧ y = .str z ∧ Q (.bl (decide (c ∈ z.cps.toList))) H
def kNotIn (K : PySem.W.Frag) : R2 := fun x y H Q => rIn K true x y H Q ∨ ∃ (c : Nat) (z : Str), x = .str ⟨#[c]⟩ ∧ y = .str z ∧ Q (.bl (!decide (c ∈ z.cps.toList))) H
def kIsN : R2 := fun x y H Q => y = .non ∧ Q (.bl (decide (x = .non))) H
def kNotN : R2 := fun x y H Q => y = .non ∧ Q (.bl (!decide (x = .non))) H
section
variable {X : Cx}
theorem op_kAdd : OpR X (binaryOp .Add) (kAdd X.K) := op_add.or (op_add_str.or (op_cat.or op_catA))
theorem op_kSub : OpR X (binaryOp .Sub) kSub := op_sub
theorem op_kMul : OpR X (binaryOp .Mult) kMul := op_mulW.or op_rep
theorem op_kDiv : OpR X (binaryOp .FloorDiv) kDiv := op_fdivW
theorem op_kMod : OpR X (binaryOp .Mod) kMod := op_mod
theorem op_kPow : OpR X (binaryOp .Pow) kPow := op_pow
theorem op_kEq {k : Nat} (hr : Room k X.A) : OpR X (compareOp .Eq) (kEq X.K) := op_eq.or (op_eqD hr.units)
theorem op_kNe {k : Nat} (hr : Room k X.A) : OpR X (compareOp .NotEq) (kNe X.K) := op_ne.or (op_neD hr.units)
theorem op_kLt {k : Nat} (hr : Room k X.A) : OpR X (compareOp .Lt) (kLt X.K) := op_lt.or (op_lt_str.or (op_ltT hr.units0))
theorem op_kLe : OpR X (compareOp .LtE) kLe := op_le
theorem op_kGt : OpR X (compareOp .Gt) kGt := op_gt
theorem op_kGe : OpR X (compareOp .GtE) kGe := op_ge
theorem op_kIn : OpR X (compareOp .In) (kIn X.K) := op_in_seq.or op_in_sign
theorem op_kNotIn : OpR X (compareOp .NotIn) (kNotIn X.K) := op_notIn_seq.or op_notIn_sign
theorem op_kIsN : OpR X (compareOp .Is) kIsN := op_isN
theorem op_kNotN : OpR X (compareOp .IsNot) kNotN := op_notN
end
/-! # shapes -/
def Sh (n : Nat) (d : PyData) : Prop := d.canLay0 = true ∧ d.depth ≤ n
theorem Sh.ok {n : Nat} {d : PyData} (h : Sh n d) (hn : n ≤ 64) : SeqAt.shaped d = true := by
  unfold SeqAt.shaped
  rw [h.1, decide_eq_true (Nat.le_trans h.2 hn)]
  rfl
theorem sh_int {n : Nat} {i : Int} : Sh n (.int i) := ⟨rfl, Nat.zero_le _⟩
theorem sh_bool {n : Nat} {i : Bool} : Sh n (.bool i) := ⟨rfl, Nat.zero_le _⟩
theorem sh_none {n : Nat} : Sh n .none := ⟨rfl, Nat.zero_le _⟩
theorem sh_str {n : Nat} {x : Str} (h : PyData.canLay0 (.str x) = true) : Sh n (.str x) := ⟨h, Nat.zero_le _⟩
theorem sh_all {n : Nat} : ∀ {ds : List PyData}, (∀ d ∈ ds, Sh n d) → PyData.canLayAll0 ds = true ∧ PyData.depthAll ds ≤ n
  | [], _ => ⟨rfl, Nat.zero_le _⟩
  | x :: r, h => by
    have h1 := h x List.mem_cons_self
    have h2 := sh_all (ds := r) fun d hd => h d (List.mem_cons_of_mem _ hd)
    refine ⟨?_, ?_⟩
    · show (x.canLay0 && PyData.canLayAll0 r) = true
      rw [h1.1, h2.1]; rfl
    · show max x.depth (PyData.depthAll r) ≤ n
      exact Nat.max_le.mpr ⟨h1.2, h2.2⟩
theorem sh_list {n : Nat} {ds : List PyData} (h : ∀ d ∈ ds, Sh n d) : Sh (n + 1) (.list ds) := by
  obtain ⟨a, b⟩ := sh_all h
  exact ⟨a, Nat.succ_le_succ b⟩
theorem sh_tuple {n : Nat} {ds : List PyData} (h : ∀ d ∈ ds, Sh n d) : Sh (n + 1) (.tuple ds) := by
  obtain ⟨a, b⟩ := sh_all h
  exact ⟨a, Nat.succ_le_succ b⟩
theorem Sh.mono {n m : Nat} {d : PyData} (h : Sh n d) (e : n ≤ m) : Sh m d := ⟨h.1, Nat.le_trans h.2 e⟩
theorem sh_nil {n : Nat} : ∀ d ∈ ([] : List PyData), Sh n d := fun _ h => nomatch h
theorem sh_cons {n : Nat} {x : PyData} {r : List PyData} (h : Sh n x) (k : ∀ d ∈ r, Sh n d) : ∀ d ∈ x :: r, Sh n d := fun d hd => by
  rcases List.mem_cons.mp hd with e | e
  · rw [e]; exact h
  · exact k d e
theorem sh_map {α : Type} {n : Nat} {f : α → PyData} {xs : List α} (h : ∀ x ∈ xs, Sh n (f x)) : ∀ d ∈ xs.map f, Sh n d := fun d hd => by
  obtain ⟨x, hx, e⟩ := List.mem_map.mp hd
  rw [← e]; exact h x hx
/-! # what they give, by data -/
section
variable {K : PySem.W.Frag} {G : Hp} {i j : Int} {x y : Str}
theorem rd_I0 {g : Int → Int → V} {d : PyData} (h : ∀ G1, Da K G1 (g i j) d) : RD2 K (rI0 g) G (.int i) (.int j) d := fun G1 H e e' v w hv hw Q q => by
  obtain rfl := hv.int_eq
  obtain rfl := hw.int_eq
  exact ⟨i, j, rfl, rfl, ok1 e' q (h G1)⟩
theorem rd_I {C : Int → Int → Prop} {g : Int → Int → V} {d : PyData} (hc : C i j) (h : ∀ G1, Da K G1 (g i j) d) : RD2 K (rI C g) G (.int i) (.int j) d := fun G1 H e e' v w hv hw Q q => by
  obtain rfl := hv.int_eq
  obtain rfl := hw.int_eq
  exact ⟨i, j, rfl, rfl, hc, ok1 e' q (h G1)⟩
theorem rd_or1 {r s : R2} {a b d : PyData} (h : RD2 K r G a b d) : RD2 K (fun x y H Q => r x y H Q ∨ s x y H Q) G a b d := fun G1 H e e' v w hv hw Q q => .inl (h G1 H e e' v w hv hw Q q)
theorem rd_or2 {r s : R2} {a b d : PyData} (h : RD2 K s G a b d) : RD2 K (fun x y H Q => r x y H Q ∨ s x y H Q) G a b d := fun G1 H e e' v w hv hw Q q => .inr (h G1 H e e' v w hv hw Q q)
theorem rd_add : RD2 K (kAdd K) G (.int i) (.int j) (.int (i + j)) := rd_or1 (rd_I0 fun _ => .int _)
theorem rd_sub : RD2 K kSub G (.int i) (.int j) (.int (i - j)) := rd_I0 fun _ => .int _
theorem rd_mul (h : CMulW i j) : RD2 K kMul G (.int i) (.int j) (.int (i * j)) := rd_or1 (rd_I h fun _ => .int _)
theorem rd_div (h : CDivW i j) : RD2 K kDiv G (.int i) (.int j) (.int (i / j)) := rd_I h fun _ => .int _
theorem rd_mod (h : 0 < j) : RD2 K kMod G (.int i) (.int j) (.int (i % j)) := rd_I h fun _ => .int _
theorem rd_pow (h : CPow i j) : RD2 K kPow G (.int i) (.int j) (.int (i ^ j.toNat)) := rd_I h fun _ => .int _
theorem rd_lt : RD2 K (kLt K) G (.int i) (.int j) (.bool (decide (i < j))) := rd_or1 (rd_I0 fun _ => .bl _)
theorem rd_le : RD2 K kLe G (.int i) (.int j) (.bool (decide (i ≤ j))) := rd_I0 fun _ => .bl _
theorem rd_gt : RD2 K kGt G (.int i) (.int j) (.bool (decide (j < i))) := rd_I0 fun _ => .bl _
theorem rd_ge : RD2 K kGe G (.int i) (.int j) (.bool (decide (j ≤ i))) := rd_I0 fun _ => .bl _
theorem rd_ltS : RD2 K (kLt K) G (.str x) (.str y) (.bool (decide (x.cps.toList < y.cps.toList))) := rd_or2 (rd_or1 fun G1 H e e' v w hv hw Q q => by
  obtain rfl := hv.str_eq
  obtain rfl := hw.str_eq
  exact ⟨x, y, rfl, rfl, ok1 e' q (.bl _)⟩)
theorem rd_addS (h : x.length + y.length ≤ 100000) : RD2 K (kAdd K) G (.str x) (.str y) (.str (x ++ y)) := rd_or2 (rd_or1 fun G1 H e e' v w hv hw Q q => by
  obtain rfl := hv.str_eq
  obtain rfl := hw.str_eq
  exact ⟨x, y, rfl, rfl, sz_of h, ok1 e' q (.str _)⟩)
theorem rd_addL {as bs : List PyData} (h : as.length + bs.length ≤ 100000) : RD2 K (kAdd K) G (.list as) (.list bs) (.list (as ++ bs)) := rd_or2 (rd_or2 (rd_or1 fun G1 H e e' v w hv hw Q q => by
  cases hv with
  | lst h1 r1 =>
    cases hw with
    | lst h2 r2 =>
      refine ⟨_, _, _, _, rfl, rfl, e' _ _ h1, e' _ _ h2, by rw [r1.len, r2.len]; exact sz_of h, fun p hp => ?_⟩
      exact q _ _ _ (Grow.new e' hp) (.lst upd_same ((r1.app r2).mono (Ex.new (fresh_back e' hp))))))
theorem rd_addT {as bs : List PyData} (h : as.length + bs.length ≤ 100000) : RD2 K (kAdd K) G (.tuple as) (.tuple bs) (.tuple (as ++ bs)) := rd_or2 (rd_or2 (rd_or2 fun G1 H e e' v w hv hw Q q => by
  cases hv with
  | tup h1 r1 =>
    cases hw with
    | tup h2 r2 =>
      refine ⟨_, _, _, _, rfl, rfl, ex_t e' h1, ex_t e' h2, by rw [r1.len, r2.len]; exact sz_of h, fun z => ?_, fun _ z => ?_, fun _ z p hp => ?_⟩
      · subst z; cases r1
        exact q _ _ _ (Grow.refl e') (.tup h2 r2)
      · subst z; cases r2
        exact q _ _ _ (Grow.refl e') (.tup h1 (by rw [List.append_nil]; exact r1))
      · exact q _ _ _ (Grow.new e' hp) (.tup (SqT.of upd_same) ((r1.app r2).mono (Ex.new (fresh_back e' hp))))))
theorem scal_int : scal (.int i) (.int j) = true := rfl
theorem rd_eqI : RD2 K (kEq K) G (.int i) (.int j) (.bool (decide (i = j))) := rd_or1 fun G1 H e e' v w hv hw Q q => by
  obtain rfl := hv.int_eq
  obtain rfl := hw.int_eq
  refine ⟨rfl, ok1 e' q ?_⟩
  rw [dec_int, ← Bool.beq_eq_decide_eq]; exact .bl _
theorem rd_neI : RD2 K (kNe K) G (.int i) (.int j) (.bool (!decide (i = j))) := rd_or1 fun G1 H e e' v w hv hw Q q => by
  obtain rfl := hv.int_eq
  obtain rfl := hw.int_eq
  refine ⟨rfl, ok1 e' q ?_⟩
  rw [dec_int, ← Bool.beq_eq_decide_eq]; exact .bl _
theorem rd_eqS : RD2 K (kEq K) G (.str x) (.str y) (.bool (decide (x = y))) := rd_or1 fun G1 H e e' v w hv hw Q q => by
  obtain rfl := hv.str_eq
  obtain rfl := hw.str_eq
  refine ⟨rfl, ok1 e' q ?_⟩
  rw [dec_str, ← Bool.beq_eq_decide_eq]; exact .bl _
theorem rd_neS : RD2 K (kNe K) G (.str x) (.str y) (.bool (!decide (x = y))) := rd_or1 fun G1 H e e' v w hv hw Q q => by
  obtain rfl := hv.str_eq
  obtain rfl := hw.str_eq
  refine ⟨rfl, ok1 e' q ?_⟩
  rw [dec_str, ← Bool.beq_eq_decide_eq]; exact .bl _
theorem rd_eqB {i j : Bool} : RD2 K (kEq K) G (.bool i) (.bool j) (.bool (i == j)) := rd_or1 fun G1 H e e' v w hv hw Q q => by
  obtain rfl := hv.bl_eq
  obtain rfl := hw.bl_eq
  refine ⟨rfl, ok1 e' q ?_⟩
  rw [dec_bl]; exact .bl _
theorem rd_neB {i j : Bool} : RD2 K (kNe K) G (.bool i) (.bool j) (.bool (!(i == j))) := rd_or1 fun G1 H e e' v w hv hw Q q => by
  obtain rfl := hv.bl_eq
  obtain rfl := hw.bl_eq
  refine ⟨rfl, ok1 e' q ?_⟩
  rw [dec_bl]; exact .bl _
theorem rd_eqD {a b : PyData} (ha : Sh 64 a) (hb : Sh 64 b) : RD2 K (kEq K) G a b (.bool (PyData.eqv a b)) := rd_or2 fun G1 H e e' v w hv hw Q q =>
  ⟨a, b, (hv.mono e').dp, (hw.mono e').dp, ha.ok (Nat.le_refl _), hb.ok (Nat.le_refl _), ok1 e' q (.bl _)⟩
theorem rd_neD {a b : PyData} (ha : Sh 64 a) (hb : Sh 64 b) : RD2 K (kNe K) G a b (.bool (!PyData.eqv a b)) := rd_or2 fun G1 H e e' v w hv hw Q q =>
  ⟨a, b, (hv.mono e').dp, (hw.mono e').dp, ha.ok (Nat.le_refl _), hb.ok (Nat.le_refl _), ok1 e' q (.bl _)⟩
def isN : PyData → Bool
  | .none => true
  | _ => false
theorem Da.isN {K : PySem.W.Frag} {H : Hp} {v : V} {d : PyData} (h : Da K H v d) : decide (v = .non) = LK.isN d := by
  cases h <;> rfl
theorem rd_isN {a : PyData} : RD2 K kIsN G a .none (.bool (isN a)) := fun G1 H e e' v w hv hw Q q => by
  refine ⟨hw.non_eq, ?_⟩
  rw [hv.isN]
  exact ok1 e' q (.bl _)
theorem rd_notN {a : PyData} : RD2 K kNotN G a .none (.bool (!isN a)) := fun G1 H e e' v w hv hw Q q => by
  refine ⟨hw.non_eq, ?_⟩
  rw [hv.isN]
  exact ok1 e' q (.bl _)
theorem rd_inC {c : Nat} : RD2 K (kIn K) G (.str ⟨#[c]⟩) (.str y) (.bool (decide (c ∈ y.cps.toList))) := rd_or2 fun G1 H e e' v w hv hw Q q => by
  obtain rfl := hv.str_eq
  obtain rfl := hw.str_eq
  exact ⟨c, y, rfl, rfl, ok1 e' q (.bl _)⟩
theorem rd_notInC {c : Nat} : RD2 K (kNotIn K) G (.str ⟨#[c]⟩) (.str y) (.bool (!decide (c ∈ y.cps.toList))) := rd_or2 fun G1 H e e' v w hv hw Q q => by
  obtain rfl := hv.str_eq
  obtain rfl := hw.str_eq
  exact ⟨c, y, rfl, rfl, ok1 e' q (.bl _)⟩
/-- x in a list or tuple of texts, of ints -/
theorem flat_strs : ∀ ss : List Str, (ss.map V.str).all flatV = true
  | [] => rfl
  | _ :: r => by rw [List.map_cons, List.all_cons, flat_strs r]; rfl
theorem flat_ints : ∀ ss : List Int, (ss.map V.int).all flatV = true
  | [] => rfl
  | _ :: r => by rw [List.map_cons, List.all_cons, flat_ints r]; rfl
theorem inV_strs (x : Str) : ∀ ss : List Str, inV (.str x) (ss.map V.str) = decide (x ∈ ss)
  | [] => rfl
  | s :: r => by
    have ih := inV_strs x r
    unfold inV at ih ⊢
    rw [List.map_cons, List.any_cons, ih]
    by_cases h : s = x
    · subst h
      have e : eqV (.str s) (.str s) = true := by simp [eqV]
      rw [e]; simp
    · have e : eqV (.str s) (.str x) = false := by simp [eqV, h]
      rw [e, Bool.false_or]
      simp only [List.mem_cons, decide_eq_decide]
      exact ⟨fun z => .inr z, fun z => z.elim (fun w => absurd w.symm h) id⟩
theorem inV_ints (x : Int) : ∀ ss : List Int, inV (.int x) (ss.map V.int) = decide (x ∈ ss)
  | [] => rfl
  | s :: r => by
    have ih := inV_ints x r
    unfold inV at ih ⊢
    rw [List.map_cons, List.any_cons, ih]
    by_cases h : s = x
    · subst h
      have e : eqV (.int s) (.int s) = true := by simp [eqV]
      rw [e]; simp
    · have e : eqV (.int s) (.int x) = false := by simp [eqV, h]
      rw [e, Bool.false_or]
      simp only [List.mem_cons, decide_eq_decide]
      exact ⟨fun z => .inr z, fun z => z.elim (fun w => absurd w.symm h) id⟩
theorem rd_inLS {ss : List Str} : RD2 K (kIn K) G (.str x) (.list (ss.map .str)) (.bool (decide (x ∈ ss))) := rd_or1 fun G1 H e e' v w hv hw Q q => by
  obtain rfl := hv.str_eq
  cases hw with
  | lst h r =>
    have er := r.strs
    subst er
    refine ⟨_, _, rfl, .inl (SqL.of (e' _ _ h)), rfl, flat_strs ss, ?_⟩
    show Q (.bl (inV (.str x) (ss.map V.str))) H
    rw [inV_strs]; exact ok1 e' q (.bl _)
theorem rd_notInLS {ss : List Str} : RD2 K (kNotIn K) G (.str x) (.list (ss.map .str)) (.bool (!decide (x ∈ ss))) := rd_or1 fun G1 H e e' v w hv hw Q q => by
  obtain rfl := hv.str_eq
  cases hw with
  | lst h r =>
    have er := r.strs
    subst er
    refine ⟨_, _, rfl, .inl (SqL.of (e' _ _ h)), rfl, flat_strs ss, ?_⟩
    show Q (.bl (!inV (.str x) (ss.map V.str))) H
    rw [inV_strs]; exact ok1 e' q (.bl _)
theorem rd_inTS {ss : List Str} : RD2 K (kIn K) G (.str x) (.tuple (ss.map .str)) (.bool (decide (x ∈ ss))) := rd_or1 fun G1 H e e' v w hv hw Q q => by
  obtain rfl := hv.str_eq
  cases hw with
  | tup h r =>
    have er := r.strs
    subst er
    refine ⟨_, _, rfl, .inr (ex_t e' h), rfl, flat_strs ss, ?_⟩
    show Q (.bl (inV (.str x) (ss.map V.str))) H
    rw [inV_strs]; exact ok1 e' q (.bl _)
theorem rd_notInTS {ss : List Str} : RD2 K (kNotIn K) G (.str x) (.tuple (ss.map .str)) (.bool (!decide (x ∈ ss))) := rd_or1 fun G1 H e e' v w hv hw Q q => by
  obtain rfl := hv.str_eq
  cases hw with
  | tup h r =>
    have er := r.strs
    subst er
    refine ⟨_, _, rfl, .inr (ex_t e' h), rfl, flat_strs ss, ?_⟩
    show Q (.bl (!inV (.str x) (ss.map V.str))) H
    rw [inV_strs]; exact ok1 e' q (.bl _)
theorem rd_inLI {ss : List Int} : RD2 K (kIn K) G (.int i) (.list (ss.map .int)) (.bool (decide (i ∈ ss))) := rd_or1 fun G1 H e e' v w hv hw Q q => by
  obtain rfl := hv.int_eq
  cases hw with
  | lst h r =>
    have er := r.ints
    subst er
    refine ⟨_, _, rfl, .inl (SqL.of (e' _ _ h)), rfl, flat_ints ss, ?_⟩
    show Q (.bl (inV (.int i) (ss.map V.int))) H
    rw [inV_ints]; exact ok1 e' q (.bl _)
/-- an item by its place -/
theorem atI_da {vs : List V} {ds : List PyData} {G1 : Hp} {d : PyData} (r : DaL K G1 vs ds) (h : atI ds i = some d) : ∃ v, atI vs i = some v ∧ Da K G1 v d := by
  unfold atI at h ⊢
  rw [r.len]
  cases e : ixN ds.length i with
  | none => rw [e] at h; cases h
  | some k =>
    rw [e] at h
    exact r.get h
theorem rd_ixL {ds : List PyData} {d : PyData} (h : atI ds i = some d) : RD2 K (rIx K) G (.list ds) (.int i) d := fun G1 H e e' v w hv hw Q q => by
  obtain rfl := hw.int_eq
  cases hv with
  | lst h1 r1 =>
    obtain ⟨v, h2, h3⟩ := atI_da r1 h
    exact .inl ⟨_, _, i, v, rfl, rfl, SqL.of (e' _ _ h1), h2, ok1 e' q h3⟩
theorem rd_ixT {ds : List PyData} {d : PyData} (h : atI ds i = some d) : RD2 K (rIx K) G (.tuple ds) (.int i) d := fun G1 H e e' v w hv hw Q q => by
  obtain rfl := hw.int_eq
  cases hv with
  | tup h1 r1 =>
    obtain ⟨v, h2, h3⟩ := atI_da r1 h
    exact .inr (.inl ⟨_, _, i, v, rfl, rfl, ex_t e' h1, h2, ok1 e' q h3⟩)
theorem rd_ixS {c : Nat} (hl : x.length ≤ 100000) (h : atI x.cps.toList i = some c) : RD2 K (rIx K) G (.str x) (.int i) (.str ⟨#[c]⟩) := fun G1 H e e' v w hv hw Q q => by
  obtain rfl := hv.str_eq
  obtain rfl := hw.int_eq
  exact .inr (.inr ⟨x, i, c, rfl, rfl, sz_of hl, h, ok1 e' q (.str _)⟩)
end
/-! # built-in functions -/
def kLen (K : PySem.W.Frag) : List V → Hp → VK → Prop := fun xs H Q => (∃ p ys, xs = [.ref p] ∧ (SqL K H p ys ∨ SqT K H p ys) ∧ Q (.int ys.length) H) ∨ ∃ z, xs = [.str z] ∧ z.length ≤ sizeLine ∧ Q (.int z.length) H
theorem call_kLen {X : Cx} : CallR X (.builtin "len") (kLen X.K) := call_len_seq.or call_len_str
def kTuple (K : PySem.W.Frag) : List V → Hp → VK → Prop := fun xs H Q => ∃ p ys, xs = [.ref p] ∧ ((SqL K H p ys ∧ ∀ l, H l = none → Q (.ref l) (upd H l (.tup ys))) ∨ (SqT K H p ys ∧ Q (.ref p) H))
theorem call_kTuple {X : Cx} : CallR X (.type "tuple") (kTuple X.K) := call_tuple_of
def kList (K : PySem.W.Frag) : List V → Hp → VK → Prop := fun xs H Q => ∃ p ys, xs = [.ref p] ∧ (SqL K H p ys ∨ SqT K H p ys) ∧ ∀ l, H l = none → Q (.ref l) (upd H l (.lst ys))
theorem call_kList {X : Cx} : CallR X (.type "list") (kList X.K) := call_list_of
def kMax2 : List V → Hp → VK → Prop := fun xs H Q => ∃ i j, xs = [.int i, .int j] ∧ Q (.int (if j > i then j else i)) H
theorem call_kMax2 {X : Cx} (hc : X.calm = true) : CallR X (.builtin "max") kMax2 := call_max2 hc
def kMin2 : List V → Hp → VK → Prop := fun xs H Q => ∃ i j, xs = [.int i, .int j] ∧ Q (.int (if j < i then j else i)) H
theorem call_kMin2 {X : Cx} (hc : X.calm = true) : CallR X (.builtin "min") kMin2 := call_min2 hc
def kInt : List V → Hp → VK → Prop := fun xs H Q => (∃ i, xs = [.int i] ∧ Q (.int i) H) ∨ ∃ k, xs = [.bl k] ∧ Q (.int (if k then 1 else 0)) H
theorem call_kInt {X : Cx} : CallR X (.type "int") kInt := call_int1
def kDivmod : List V → Hp → VK → Prop := fun xs H Q => ∃ i j, xs = [.int i, .int j] ∧ CDiv i j ∧ ∀ p, H p = none → Q (.ref p) (upd H p (.tup [.int (i / j), .int (i % j)]))
theorem call_kDivmod {X : Cx} : CallR X (.builtin "divmod") kDivmod := call_divmod
section
variable {K : PySem.W.Frag} {G : Hp} {i j : Int} {x : Str} {ds : List PyData}
theorem DaL.one_inv {H : Hp} {vs : List V} {d : PyData} (h : DaL K H vs [d]) : ∃ v, vs = [v] ∧ Da K H v d := by
  cases h with
  | cons a b => cases b; exact ⟨_, rfl, a⟩
theorem DaL.two_inv {H : Hp} {vs : List V} {d e : PyData} (h : DaL K H vs [d, e]) : ∃ v w, vs = [v, w] ∧ Da K H v d ∧ Da K H w e := by
  cases h with
  | cons a b =>
    obtain ⟨w, rfl, c⟩ := b.one_inv
    exact ⟨_, w, rfl, a, c⟩
theorem ra_lenL : RDA K (kLen K) G [.list ds] (.int ds.length) := fun G1 H e e' xs hx Q q => by
  obtain ⟨v, rfl, h⟩ := hx.one_inv
  cases h with
  | lst h r => exact .inl ⟨_, _, rfl, .inl (SqL.of (e' _ _ h)), ok1 e' q (by rw [r.len]; exact .int _)⟩
theorem ra_lenT : RDA K (kLen K) G [.tuple ds] (.int ds.length) := fun G1 H e e' xs hx Q q => by
  obtain ⟨v, rfl, h⟩ := hx.one_inv
  cases h with
  | tup h r => exact .inl ⟨_, _, rfl, .inr (ex_t e' h), ok1 e' q (by rw [r.len]; exact .int _)⟩
theorem ra_lenS (hl : x.length ≤ 100000) : RDA K (kLen K) G [.str x] (.int x.length) := fun G1 H e e' xs hx Q q => by
  obtain ⟨v, rfl, h⟩ := hx.one_inv
  obtain rfl := h.str_eq
  exact .inr ⟨x, rfl, sz_of hl, ok1 e' q (.int _)⟩
theorem ra_tupleL : RDA K (kTuple K) G [.list ds] (.tuple ds) := fun G1 H e e' xs hx Q q => by
  obtain ⟨v, rfl, h⟩ := hx.one_inv
  cases h with
  | lst h r => exact ⟨_, _, rfl, .inl ⟨SqL.of (e' _ _ h), fun p hp => q _ _ _ (Grow.new e' hp) (.tup (SqT.of upd_same) (r.mono (Ex.new (fresh_back e' hp))))⟩⟩
theorem ra_tupleT : RDA K (kTuple K) G [.tuple ds] (.tuple ds) := fun G1 H e e' xs hx Q q => by
  obtain ⟨v, rfl, h⟩ := hx.one_inv
  cases h with
  | tup h r => exact ⟨_, _, rfl, .inr ⟨ex_t e' h, ok1 e' q (.tup h r)⟩⟩
theorem ra_listL : RDA K (kList K) G [.list ds] (.list ds) := fun G1 H e e' xs hx Q q => by
  obtain ⟨v, rfl, h⟩ := hx.one_inv
  cases h with
  | lst h r => exact ⟨_, _, rfl, .inl (SqL.of (e' _ _ h)), fun p hp => q _ _ _ (Grow.new e' hp) (.lst upd_same (r.mono (Ex.new (fresh_back e' hp))))⟩
theorem ra_listT : RDA K (kList K) G [.tuple ds] (.list ds) := fun G1 H e e' xs hx Q q => by
  obtain ⟨v, rfl, h⟩ := hx.one_inv
  cases h with
  | tup h r => exact ⟨_, _, rfl, .inr (ex_t e' h), fun p hp => q _ _ _ (Grow.new e' hp) (.lst upd_same (r.mono (Ex.new (fresh_back e' hp))))⟩
theorem ra_max2 : RDA K kMax2 G [.int i, .int j] (.int (max i j)) := fun G1 H e e' xs hx Q q => by
  obtain ⟨v, w, rfl, h1, h2⟩ := hx.two_inv
  obtain rfl := h1.int_eq
  obtain rfl := h2.int_eq
  refine ⟨i, j, rfl, ok1 e' q ?_⟩
  rw [show (if j > i then j else i) = max i j by split <;> omega]; exact .int _
theorem ra_min2 : RDA K kMin2 G [.int i, .int j] (.int (min i j)) := fun G1 H e e' xs hx Q q => by
  obtain ⟨v, w, rfl, h1, h2⟩ := hx.two_inv
  obtain rfl := h1.int_eq
  obtain rfl := h2.int_eq
  refine ⟨i, j, rfl, ok1 e' q ?_⟩
  rw [show (if j < i then j else i) = min i j by split <;> omega]; exact .int _
theorem ra_intI : RDA K kInt G [.int i] (.int i) := fun G1 H e e' xs hx Q q => by
  obtain ⟨v, rfl, h⟩ := hx.one_inv
  obtain rfl := h.int_eq
  exact .inl ⟨i, rfl, ok1 e' q (.int _)⟩
theorem ra_intB {b : Bool} : RDA K kInt G [.bool b] (.int (if b then 1 else 0)) := fun G1 H e e' xs hx Q q => by
  obtain ⟨v, rfl, h⟩ := hx.one_inv
  obtain rfl := h.bl_eq
  exact .inr ⟨b, rfl, ok1 e' q (.int _)⟩
theorem ra_divmod (h0 : 0 < j) (h1 : j < 1073741824) : RDA K kDivmod G [.int i, .int j] (.tuple [.int (i / j), .int (i % j)]) := fun G1 H e e' xs hx Q q => by
  obtain ⟨v, w, rfl, h3, h4⟩ := hx.two_inv
  obtain rfl := h3.int_eq
  obtain rfl := h4.int_eq
  exact ⟨i, j, rfl, ⟨h0, h1⟩, fun p hp => q _ _ _ (Grow.new e' hp) (.tup (SqT.of upd_same) (.cons (.int _) (.cons (.int _) .nil)))⟩
theorem ra_all {bs : List Bool} : RDA K (rAll K) G [.list (bs.map .bool)] (.bool (bs.all id)) := fun G1 H e e' xs hx Q q => by
  obtain ⟨v, rfl, h⟩ := hx.one_inv
  cases h with
  | lst h r =>
    have er := r.bools
    subst er
    exact ⟨_, bs, rfl, SqL.of (e' _ _ h), ok1 e' q (.bl _)⟩
theorem ra_any {bs : List Bool} : RDA K (rAny K) G [.list (bs.map .bool)] (.bool (bs.any id)) := fun G1 H e e' xs hx Q q => by
  obtain ⟨v, rfl, h⟩ := hx.one_inv
  cases h with
  | lst h r =>
    have er := r.bools
    subst er
    exact ⟨_, bs, rfl, SqL.of (e' _ _ h), ok1 e' q (.bl _)⟩
theorem ra_sum {ns : List Int} : RDA K (rSum K) G [.list (ns.map .int)] (.int ns.sum) := fun G1 H e e' xs hx Q q => by
  obtain ⟨v, rfl, h⟩ := hx.one_inv
  cases h with
  | lst h r =>
    have er := r.ints
    subst er
    exact ⟨_, ns, rfl, SqL.of (e' _ _ h), ok1 e' q (.int _)⟩
end
/-! # isinstance -/
def tyOfD : PyData → String
  | .none => "NoneType"
  | .bool _ => "bool"
  | .int _ => "int"
  | .str _ => "str"
  | .list _ => "list"
  | .tuple _ => "tuple"
  | .dict _ => "dict"
def isD (T : String) (d : PyData) : Bool := match T, d with
  | "int", .int _ => true
  | "int", .bool _ => true
  | "bool", .bool _ => true
  | "str", .str _ => true
  | "list", .list _ => true
  | "tuple", .tuple _ => true
  | _, _ => false
def tIsi (K : PySem.W.Frag) (ta : TE) (T : String) : TE := tCB (rIsi K) (tCons ta (tCons (tC (.ty T)) tNil))
theorem Da.tyx {K : PySem.W.Frag} {H : Hp} {v : V} {d : PyData} (h : Da K H v d) : TyX K H v (.type (tyOfD d)) := by
  cases h with
  | non => exact .base .non
  | bl b => exact .base (.bl b)
  | int i => exact .base (.int i)
  | str x => exact .base (.str x)
  | lst h r => exact .base (.lst h)
  | tup h r =>
    rcases h with (h | ⟨o, h⟩) | ⟨o, its, n, hk, hc, _⟩
    · exact .base (.tup h)
    · exact .fTuple h
    · exact .kTuple hk hc
theorem ev_isi {K : PySem.W.Frag} {σ : L2.St} {G : Hp} {ta : TE} {a : PyData} {T : String} {b : Bool} (h : EvD K ta σ G a) (hk : kitB (tyOfD a) T = some b) : EvD K (tIsi K ta T) σ G (.bool b) := fun G1 H x y Q q =>
  h G1 H x y _ fun v G2 H2 g2 d2 => ⟨v, .ty T, _, _, b, rfl, .ty T, (d2.mono g2.gh).tyx, kit_ty hk, q _ G2 H2 g2 (.bl b)⟩
/-! # the world of a running def: W its entry, G what is settled, M what it may write -/
abbrev Mem := List (Addr × HO)
structure Ent where
  G0 : Hp
  H0 : Hp
  ms : List Addr
structure World (W : Ent) (G : Hp) (M : Mem) (H : Hp) : Prop where
  gr : Grow W.ms W.G0 W.H0 G H
  own : ∀ p o, (p, o) ∈ M → H p = some o
  sep : ∀ p o, (p, o) ∈ M → G p = none
  nd : (M.map Prod.fst).Nodup
  fm : ∀ p o, (p, o) ∈ M → p ∈ W.ms ∨ W.H0 p = none
section
variable {W : Ent} {G G' H H' : Hp} {M : Mem} {p : Addr} {o o' : HO} {k : Nat}
theorem World.gh (w : World W G M H) : Ex G H := w.gr.gh
theorem World.grow (w : World W G M H) (g : Grow [] G H G' H') : World W G' M H' :=
  ⟨w.gr.trans g.up, fun p o h => g.hh p o (w.own p o h), fun p o h => g.fg p (by rw [w.own p o h]; exact fun z => nomatch z) (w.sep p o h), w.nd, w.fm⟩
theorem World.ext (w : World W G M H) (e : Ex H H') : World W G M H' := w.grow (Grow.of_ex w.gh e)
theorem World.new (w : World W G M H) (n : H p = none) : World W G ((p, o) :: M) (upd H p o) := by
  have n0 : W.H0 p = none := by
    cases q : W.H0 p with
    | none => rfl
    | some u => exact absurd n (w.gr.dm p (by rw [q]; exact fun z => nomatch z))
  have hw := w.ext (Ex.new (o := o) n)
  refine ⟨hw.gr, fun q u h => ?_, fun q u h => ?_, ?_, fun q u h => ?_⟩
  · rcases List.mem_cons.mp h with e | e
    · cases e; exact upd_same
    · exact hw.own q u e
  · rcases List.mem_cons.mp h with e | e
    · cases e; exact fresh_back w.gh n
    · exact w.sep q u e
  · rw [List.map_cons, List.nodup_cons]
    refine ⟨fun z => ?_, w.nd⟩
    obtain ⟨⟨q, u⟩, hq, e⟩ := List.mem_map.mp z
    have e : q = p := e
    subst e
    rw [w.own q u hq] at n; cases n
  · rcases List.mem_cons.mp h with e | e
    · cases e; exact .inr n0
    · exact w.fm q u e
theorem World.new0 (w : World W G M H) (n : H p = none) : W.H0 p = none := by
  cases q : W.H0 p with
  | none => rfl
  | some u => exact absurd n (w.gr.dm p (by rw [q]; exact fun z => nomatch z))
theorem nodup_at {M : Mem} (nd : (M.map Prod.fst).Nodup) {i j : Nat} {p : Addr} {o u : HO} (h1 : M[i]? = some (p, o)) (h2 : M[j]? = some (p, u)) : i = j := by
  have a : (M.map Prod.fst)[i]? = some p := by rw [List.getElem?_map, h1]; rfl
  have b : (M.map Prod.fst)[j]? = some p := by rw [List.getElem?_map, h2]; rfl
  exact nd_ix nd a b
theorem set_keys {M : Mem} {k : Nat} {p : Addr} {o o' : HO} (h : M[k]? = some (p, o)) : (M.set k (p, o')).map Prod.fst = M.map Prod.fst := by
  apply List.ext_getElem?
  intro i
  rw [List.getElem?_map, List.getElem?_map, List.getElem?_set]
  by_cases e : k = i
  · subst e
    have hk := (List.getElem?_eq_some_iff.mp h).1
    rw [if_pos rfl, if_pos hk, h]; rfl
  · rw [if_neg e]
theorem World.set (w : World W G M H) (h : M[k]? = some (p, o)) : World W G (M.set k (p, o')) (upd H p o') := by
  have hm : (p, o) ∈ M := List.mem_of_getElem? h
  have hp := w.own p o hm
  have hg := w.sep p o hm
  have other : ∀ q u, (q, u) ∈ M.set k (p, o') → (q = p ∧ u = o') ∨ ((q, u) ∈ M ∧ q ≠ p) := fun q u hq => by
    obtain ⟨i, hi⟩ := List.mem_iff_getElem?.mp hq
    rw [List.getElem?_set] at hi
    by_cases e : k = i
    · rw [if_pos e] at hi
      split at hi
      · cases hi; exact .inl ⟨rfl, rfl⟩
      · cases hi
    · rw [if_neg e] at hi
      refine .inr ⟨List.mem_of_getElem? hi, fun z => e ?_⟩
      subst z
      exact nodup_at w.nd h hi
  refine ⟨⟨w.gr.gg, fun a u z => ?_, fun a u z n => ?_, w.gr.fg, fun a z => ?_⟩, fun q u hq => ?_, fun q u hq => ?_, ?_, fun q u hq => ?_⟩
  · rw [upd_ne (ne_of_none z hg)]; exact w.gh a u z
  · have ne : a ≠ p := fun e => by
      subst e
      rcases w.fm a o hm with x | x
      · exact n x
      · rw [z] at x; cases x
    rw [upd_ne ne]; exact w.gr.fr a u z n
  · by_cases e : a = p
    · rw [e, upd_same]; exact fun z => nomatch z
    · rw [upd_ne e]; exact w.gr.dm a z
  · rcases other q u hq with ⟨e1, e2⟩ | ⟨e1, e2⟩
    · rw [e1, e2]; exact upd_same
    · rw [upd_ne e2]; exact w.own q u e1
  · rcases other q u hq with ⟨e1, e2⟩ | ⟨e1, e2⟩
    · rw [e1]; exact hg
    · exact w.sep q u e1
  · rw [set_keys h]; exact w.nd
  · rcases other q u hq with ⟨e1, e2⟩ | ⟨e1, e2⟩
    · rw [e1]; exact w.fm p o hm
    · exact w.fm q u e1
theorem erase_mem {M : Mem} (k : Nat) {x : Addr × HO} (h : x ∈ M.eraseIdx k) : x ∈ M := (List.eraseIdx_sublist M k).subset h
theorem erase_nd {M : Mem} (nd : (M.map Prod.fst).Nodup) (k : Nat) : ((M.eraseIdx k).map Prod.fst).Nodup := nd.sublist ((List.eraseIdx_sublist M k).map _)
theorem erase_ne {M : Mem} (nd : (M.map Prod.fst).Nodup) {k : Nat} {p q : Addr} {o u : HO} (h : M[k]? = some (p, o)) (hq : (q, u) ∈ M.eraseIdx k) : q ≠ p := fun e => by
  subst e
  obtain ⟨i, hi⟩ := List.mem_iff_getElem?.mp hq
  rw [List.getElem?_eraseIdx] at hi
  split at hi
  · have := nodup_at nd h hi; omega
  · have := nodup_at nd h hi; omega
theorem World.drop (w : World W G M H) (k : Nat) : World W G (M.eraseIdx k) H :=
  ⟨w.gr, fun p o h => w.own p o (erase_mem k h), fun p o h => w.sep p o (erase_mem k h), erase_nd w.nd k, fun p o h => w.fm p o (erase_mem k h)⟩
/-- what was made here is settled -/
theorem World.settle (w : World W G M H) (h : M[k]? = some (p, o)) (n0 : W.H0 p = none) : World W (upd G p o) (M.eraseIdx k) H := by
  have hm : (p, o) ∈ M := List.mem_of_getElem? h
  have hp := w.own p o hm
  have hg := w.sep p o hm
  refine ⟨⟨w.gr.gg.trans (Ex.new hg), fun a u z => ?_, w.gr.fr, fun a z n => ?_, w.gr.dm⟩, fun q u hq => w.own q u (erase_mem k hq), fun q u hq => ?_, erase_nd w.nd k, fun q u hq => w.fm q u (erase_mem k hq)⟩
  · by_cases e : a = p
    · subst e; rw [upd_same] at z; rw [← z]; exact hp
    · rw [upd_ne e] at z; exact w.gh a u z
  · rw [upd_ne (fun e => by subst e; exact z n0)]; exact w.gr.fg a z n
  · rw [upd_ne (erase_ne w.nd h hq)]; exact w.sep q u (erase_mem k hq)
end
/-! # statements, expressions with what they do -/
def Sx (W : Ent) (t : TS) (D : Ends) (σ : L2.St) (G : Hp) (M : Mem) : Prop := ∀ H, World W G M H → t D σ H
def Nx (W : Ent) (D : Ends) (σ : L2.St) (G : Hp) (M : Mem) : Prop := ∀ H, World W G M H → D.nx σ H
def Sw (W : Ent) (te : TE) (σ : L2.St) (G : Hp) (M : Mem) (C : V → Hp → Mem → Prop) : Prop := ∀ H, World W G M H → ∀ Q : VK, (∀ v G' M' H', World W G' M' H' → C v G' M' → Q v H') → te σ H Q
def Swt (W : Ent) (tt : TT) (σ : L2.St) (G : Hp) (M : Mem) (C : Bool → Hp → Mem → Prop) : Prop := ∀ H, World W G M H → ∀ Q : Bool → Hp → Prop, (∀ b G' M' H', World W G' M' H' → C b G' M' → Q b H') → tt σ H Q
def Swa (W : Ent) (ta : TA) (σ : L2.St) (G : Hp) (M : Mem) (C : List V → Hp → Mem → Prop) : Prop := ∀ H, World W G M H → ∀ Q : List V → Hp → Prop, (∀ vs G' M' H', World W G' M' H' → C vs G' M' → Q vs H') → ta σ H Q
def Rw2 (W : Ent) (r : R2) (x y : V) (G : Hp) (M : Mem) (C : V → Hp → Mem → Prop) : Prop := ∀ H, World W G M H → ∀ Q : VK, (∀ v G' M' H', World W G' M' H' → C v G' M' → Q v H') → r x y H Q
def Rwa (W : Ent) (r : List V → Hp → VK → Prop) (xs : List V) (G : Hp) (M : Mem) (C : V → Hp → Mem → Prop) : Prop := ∀ H, World W G M H → ∀ Q : VK, (∀ v G' M' H', World W G' M' H' → C v G' M' → Q v H') → r xs H Q
/-- what a return is to reach -/
def Ret (W : Ent) (D : Ends) (R : V → Hp → Mem → Prop) : Prop := ∀ v G' M' H', World W G' M' H' → R v G' M' → D.rt v H'
/-- a word between statements -/
def At (W : Ent) (P : L2.St → Hp → Mem → Prop) : L2.St → Hp → Prop := fun σ H => ∃ G M, World W G M H ∧ P σ G M
section
variable {W : Ent} {D : Ends} {σ : L2.St} {G : Hp} {M : Mem} {K : PySem.W.Frag} {te ta tb : TE} {tt tu : TT} {t u tz : TS} {d : PyData} {C : V → Hp → Mem → Prop} {i j k : Nat}
theorem sx_seq (h : Sx W t { D with nx := u D } σ G M) : Sx W (tSeq t u) D σ G M := h
theorem sx_next (h : Nx W D σ G M) : Sx W tNext D σ G M := h
/-- plain evaluation -/
theorem sw_ev (h : EvD K te σ G d) (c : ∀ v G', Ex G G' → Da K G' v d → C v G' M) : Sw W te σ G M C := fun H w Q q =>
  h G H (Ex.refl G) w.gh _ fun v G' H' g dv => q v G' M H' (w.grow g) (c v G' g.gg dv)
/-- .. to a plain value: G stays -/
theorem sw_int {n : Int} (h : EvD K te σ G (.int n)) (c : C (.int n) G M) : Sw W te σ G M C := fun H w Q q =>
  h G H (Ex.refl G) w.gh _ fun v G' H' g dv => q v G M H' (w.ext g.hh) (by rw [dv.int_eq]; exact c)
theorem sw_bool {b : Bool} (h : EvD K te σ G (.bool b)) (c : C (.bl b) G M) : Sw W te σ G M C := fun H w Q q =>
  h G H (Ex.refl G) w.gh _ fun v G' H' g dv => q v G M H' (w.ext g.hh) (by rw [dv.bl_eq]; exact c)
theorem sw_str {x : Str} (h : EvD K te σ G (.str x)) (c : C (.str x) G M) : Sw W te σ G M C := fun H w Q q =>
  h G H (Ex.refl G) w.gh _ fun v G' H' g dv => q v G M H' (w.ext g.hh) (by rw [dv.str_eq]; exact c)
theorem sw_non (h : EvD K te σ G .none) (c : C .non G M) : Sw W te σ G M C := fun H w Q q =>
  h G H (Ex.refl G) w.gh _ fun v G' H' g dv => q v G M H' (w.ext g.hh) (by rw [dv.non_eq]; exact c)
/-- a name, whatever it holds -/
theorem sw_var {v : V} (h : σ[i]? = some (some v)) (c : C v G M) : Sw W (tVar i) σ G M C := fun H w Q q => ⟨v, h, q v G M H w c⟩
theorem sw_op {r : R2} (h : Sw W ta σ G M fun x G1 M1 => Sw W tb σ G1 M1 fun y G2 M2 => Rw2 W r x y G2 M2 C) : Sw W (tOp r ta tb) σ G M C := fun H w Q q =>
  h H w _ fun x G1 M1 H1 w1 h1 => h1 H1 w1 _ fun y G2 M2 H2 w2 h2 => h2 H2 w2 Q q
theorem rw_rd {r : R2} {x y : V} {a b : PyData} (h : RD2 K r G a b d) (hx : Da K G x a) (hy : Da K G y b) (c : ∀ v G', Ex G G' → Da K G' v d → C v G' M) : Rw2 W r x y G M C := fun H w Q q =>
  h G H (Ex.refl G) w.gh x y hx hy Q fun v G' H' g dv => q v G' M H' (w.grow g) (c v G' g.gg dv)
theorem rw_int {r : R2} {x y : V} {a b : PyData} {n : Int} (h : RD2 K r G a b (.int n)) (hx : Da K G x a) (hy : Da K G y b) (c : C (.int n) G M) : Rw2 W r x y G M C := fun H w Q q =>
  h G H (Ex.refl G) w.gh x y hx hy Q fun v G' H' g dv => q v G M H' (w.ext g.hh) (by rw [dv.int_eq]; exact c)
theorem rw_bool {r : R2} {x y : V} {a b : PyData} {n : Bool} (h : RD2 K r G a b (.bool n)) (hx : Da K G x a) (hy : Da K G y b) (c : C (.bl n) G M) : Rw2 W r x y G M C := fun H w Q q =>
  h G H (Ex.refl G) w.gh x y hx hy Q fun v G' H' g dv => q v G M H' (w.ext g.hh) (by rw [dv.bl_eq]; exact c)
theorem swa_nil {C : List V → Hp → Mem → Prop} (c : C [] G M) : Swa W tNil σ G M C := fun H w Q q => q [] G M H w c
theorem swa_cons {C : List V → Hp → Mem → Prop} {tr : TA} (h : Sw W ta σ G M fun x G1 M1 => Swa W tr σ G1 M1 fun xs G2 M2 => C (x :: xs) G2 M2) : Swa W (tCons ta tr) σ G M C := fun H w Q q =>
  h H w _ fun x G1 M1 H1 w1 h1 => h1 H1 w1 _ fun xs G2 M2 H2 w2 h2 => q (x :: xs) G2 M2 H2 w2 h2
theorem sw_cb {r : List V → Hp → VK → Prop} {ta : TA} (h : Swa W ta σ G M fun xs G1 M1 => Rwa W r xs G1 M1 C) : Sw W (tCB r ta) σ G M C := fun H w Q q =>
  h H w _ fun xs G1 M1 H1 w1 h1 => h1 H1 w1 Q q
theorem rwa_rd {r : List V → Hp → VK → Prop} {xs : List V} {as : List PyData} (h : RDA K r G as d) (hx : DaL K G xs as) (c : ∀ v G', Ex G G' → Da K G' v d → C v G' M) : Rwa W r xs G M C := fun H w Q q =>
  h G H (Ex.refl G) w.gh xs hx Q fun v G' H' g dv => q v G' M H' (w.grow g) (c v G' g.gg dv)
/-- a new tuple, a new list that is settled at once, or may be written -/
theorem sw_tup {ta : TA} (h : Swa W ta σ G M fun vs G1 M1 => ∃ ds, DaL K G1 vs ds ∧ ds.length ≤ 100000 ∧ ∀ v G', Ex G1 G' → Da K G' v (.tuple ds) → C v G' M1) : Sw W (tTup ta) σ G M C := fun H w Q q =>
  h H w _ fun vs G1 M1 H1 w1 ⟨ds, h1, hl, c⟩ => ⟨by rw [h1.len]; exact sz_of hl, fun p hp =>
    q _ _ M1 _ (w1.grow (Grow.new w1.gh hp)) (c _ _ (Ex.new (fresh_back w1.gh hp)) (.tup (SqT.of upd_same) (h1.mono (Ex.new (fresh_back w1.gh hp)))))⟩
theorem sw_lst {ta : TA} (h : Swa W ta σ G M fun vs G1 M1 => ∃ ds, DaL K G1 vs ds ∧ ds.length ≤ 100000 ∧ ∀ v G', Ex G1 G' → Da K G' v (.list ds) → C v G' M1) : Sw W (tLst ta) σ G M C := fun H w Q q =>
  h H w _ fun vs G1 M1 H1 w1 ⟨ds, h1, hl, c⟩ => ⟨by rw [h1.len]; exact sz_of hl, fun p hp =>
    q _ _ M1 _ (w1.grow (Grow.new w1.gh hp)) (c _ _ (Ex.new (fresh_back w1.gh hp)) (.lst upd_same (h1.mono (Ex.new (fresh_back w1.gh hp)))))⟩
theorem sw_lstO {ta : TA} (h : Swa W ta σ G M fun vs G1 M1 => vs.length ≤ 100000 ∧ ∀ p, W.H0 p = none → C (.ref p) G1 ((p, .lst vs) :: M1)) : Sw W (tLst ta) σ G M C := fun H w Q q =>
  h H w _ fun vs G1 M1 H1 w1 ⟨hl, c⟩ => ⟨sz_of hl, fun p hp => q _ _ _ _ (w1.new hp) (c p (w1.new0 hp))⟩
/-- tests -/
theorem swt_ev {b : Bool} {C : Bool → Hp → Mem → Prop} (h : EvT tt σ G b) (c : C b G M) : Swt W tt σ G M C := fun H w Q q => h H w.gh Q fun H' e => q b G M H' (w.ext e) c
theorem swt_test {C : Bool → Hp → Mem → Prop} (h : Sw W te σ G M fun v G' M' => ∃ b, v = .bl b ∧ C b G' M') : Swt W (tTest te) σ G M C := fun H w Q q =>
  h H w _ fun v G' M' H' w' ⟨b, e, c⟩ => ⟨b, e, q b G' M' H' w' c⟩
theorem swt_B {C : Bool → Hp → Mem → Prop} (h : Sw W te σ G M fun v G' M' => ∃ b, v = .bl b ∧ C b G' M') : Swt W (tB te) σ G M C := fun H w Q q =>
  h H w _ fun v G' M' H' w' ⟨b, e, c⟩ => ⟨b, e, q b G' M' H' w' c⟩
theorem swt_not {C : Bool → Hp → Mem → Prop} (h : Swt W tt σ G M fun b G' M' => C (!b) G' M') : Swt W (tNot tt) σ G M C := fun H w Q q => h H w _ fun b G' M' H' w' c => q _ G' M' H' w' c
theorem swt_and {C : Bool → Hp → Mem → Prop} (h : Swt W tt σ G M fun b G' M' => (b = true → Swt W tu σ G' M' C) ∧ (b = false → C false G' M')) : Swt W (tAnd tt tu) σ G M C := fun H w Q q => h H w _ fun b G' M' H' w' c => by
  cases b with
  | true => exact c.1 rfl H' w' Q q
  | false => exact q _ G' M' H' w' (c.2 rfl)
theorem swt_or {C : Bool → Hp → Mem → Prop} (h : Swt W tt σ G M fun b G' M' => (b = false → Swt W tu σ G' M' C) ∧ (b = true → C true G' M')) : Swt W (tOr tt tu) σ G M C := fun H w Q q => h H w _ fun b G' M' H' w' c => by
  cases b with
  | true => exact q _ G' M' H' w' (c.2 rfl)
  | false => exact c.1 rfl H' w' Q q
/-! ## statements -/
theorem sx_asgW (h : Sw W te σ G M fun v G' M' => Nx W D (σ.set i (some v)) G' M') : Sx W (tAsg te (gName i)) D σ G M := fun H w =>
  h H w _ fun v G' M' H' w' c => c H' w'
theorem q_asgW (h : Sw W te σ G M fun v G' M' => Sx W tz D (σ.set i (some v)) G' M') : Sx W (tSeq (tAsg te (gName i)) tz) D σ G M := sx_asgW (D := { D with nx := tz D }) h
theorem sx_dropW (h : Sw W te σ G M fun v G' M' => Nx W D σ G' M') : Sx W (tDrop te) D σ G M := fun H w => h H w _ fun v G' M' H' w' c => c H' w'
theorem q_dropW (h : Sw W te σ G M fun v G' M' => Sx W tz D σ G' M') : Sx W (tSeq (tDrop te) tz) D σ G M := sx_dropW (D := { D with nx := tz D }) h
theorem sx_retW {R : V → Hp → Mem → Prop} (hr : Ret W D R) (h : Sw W te σ G M R) : Sx W (tRet te) D σ G M := fun H w => h H w _ fun v G' M' H' w' c => hr v G' M' H' w' c
theorem q_retW {R : V → Hp → Mem → Prop} (hr : Ret W D R) (h : Sw W te σ G M R) : Sx W (tSeq (tRet te) tz) D σ G M := sx_retW (D := { D with nx := tz D }) hr h
theorem sx_ret {R : V → Hp → Mem → Prop} (hr : Ret W D R) (h : EvD K te σ G d) (c : ∀ v G', Ex G G' → Da K G' v d → R v G' M) : Sx W (tRet te) D σ G M := sx_retW hr (sw_ev h c)
theorem sx_ifW (h : Swt W tt σ G M fun b G' M' => (b = true → Sx W t D σ G' M') ∧ (b = false → Sx W u D σ G' M')) : Sx W (tIfS tt t u) D σ G M := fun H w => h H w _ fun b G' M' H' w' c => by
  cases b with
  | true => exact c.1 rfl H' w'
  | false => exact c.2 rfl H' w'
theorem q_ifW (h : Swt W tt σ G M fun b G' M' => (b = true → Sx W t { D with nx := tz D } σ G' M') ∧ (b = false → Sx W u { D with nx := tz D } σ G' M')) : Sx W (tSeq (tIfS tt t u) tz) D σ G M := sx_ifW (D := { D with nx := tz D }) h
theorem sx_if {b : Bool} (h : EvT tt σ G b) (h1 : b = true → Sx W t D σ G M) (h2 : b = false → Sx W u D σ G M) : Sx W (tIfS tt t u) D σ G M := sx_ifW (swt_ev h ⟨h1, h2⟩)
theorem q_if {b : Bool} (h : EvT tt σ G b) (h1 : b = true → Sx W t { D with nx := tz D } σ G M) (h2 : b = false → Sx W u { D with nx := tz D } σ G M) : Sx W (tSeq (tIfS tt t u) tz) D σ G M := q_ifW (swt_ev h ⟨h1, h2⟩)
/-- an if without else -/
theorem q_when {b : Bool} (h : EvT tt σ G b) (h1 : b = true → Sx W t { D with nx := tz D } σ G M) (h2 : b = false → Sx W tz D σ G M) : Sx W (tSeq (tIfS tt t tNext) tz) D σ G M := q_ifW (swt_ev h ⟨h1, h2⟩)
theorem q_whenW (h : Swt W tt σ G M fun b G' M' => (b = true → Sx W t { D with nx := tz D } σ G' M') ∧ (b = false → Sx W tz D σ G' M')) : Sx W (tSeq (tIfS tt t tNext) tz) D σ G M := q_ifW (u := tNext) h
theorem q_asg (h : EvD K te σ G d) (c : ∀ v G', Ex G G' → Da K G' v d → Sx W tz D (σ.set i (some v)) G' M) : Sx W (tSeq (tAsg te (gName i)) tz) D σ G M := q_asgW (sw_ev h c)
theorem q_asgI {n : Int} (h : EvD K te σ G (.int n)) (c : Sx W tz D (σ.set i (some (.int n))) G M) : Sx W (tSeq (tAsg te (gName i)) tz) D σ G M := q_asgW (sw_int h c)
theorem q_asgB {n : Bool} (h : EvD K te σ G (.bool n)) (c : Sx W tz D (σ.set i (some (.bl n))) G M) : Sx W (tSeq (tAsg te (gName i)) tz) D σ G M := q_asgW (sw_bool h c)
theorem q_asgS {n : Str} (h : EvD K te σ G (.str n)) (c : Sx W tz D (σ.set i (some (.str n))) G M) : Sx W (tSeq (tAsg te (gName i)) tz) D σ G M := q_asgW (sw_str h c)
theorem q_drop (h : EvD K te σ G d) (c : Sx W tz D σ G M) : Sx W (tSeq (tDrop te) tz) D σ G M := fun H w => h G H (Ex.refl G) w.gh _ fun v G' H' g dv => c H' (w.ext g.hh)
/-- a new list that may be written -/
theorem q_lstO {ta : TA} {ds : List PyData} (h : EvA K ta σ G ds) (hl : ds.length ≤ 100000) (c : ∀ p vs G', W.H0 p = none → Ex G G' → DaL K G' vs ds → Sx W tz D (σ.set i (some (.ref p))) G' ((p, .lst vs) :: M)) : Sx W (tSeq (tAsg (tLst ta) (gName i)) tz) D σ G M := fun H w =>
  h G H (Ex.refl G) w.gh _ fun vs G' H' g dv => ⟨by rw [dv.len]; exact sz_of hl, fun p hp => c p vs G' ((w.grow g).new0 hp) g.gg dv _ ((w.grow g).new hp)⟩
/-- xs.append(e) -/
theorem sx_app {tr : TE} {p : Addr} {xs : List V} (ho : σ[i]? = some (some (.ref p))) (hm : ∀ G1 M1 v, C v G1 M1 → ∃ k, M1[k]? = some (p, .lst xs) ∧ xs.length < 100000 ∧ Nx W D σ G1 (M1.set k (p, .lst (xs ++ [v])))) (hp : ∃ o, (p, .lst o) ∈ M) (h : Sw W tr σ G M C) :
    Sx W (tDrop (tBM K "list" rAppend (tVar i) (tCons tr tNil))) D σ G M := fun H w => by
  obtain ⟨o, hp⟩ := hp
  refine ⟨.ref p, ho, .inl ⟨rfl, _, SqL.of (w.own p _ hp)⟩, h H w _ fun v G1 M1 H1 w1 c => ?_⟩
  obtain ⟨k, hk, hl, n⟩ := hm G1 M1 v c
  exact ⟨p, xs, v, rfl, rfl, w1.own p _ (List.mem_of_getElem? hk), sz_lt hl, n _ (w1.set hk)⟩
end
/-! # what is walked, by data -/
structure Steps (K : PySem.W.Frag) (J : It) (G : Hp) (ds : List PyData) : Prop where
  go : ∀ i H, Ex G H → i < ds.length → J.go i H
  yld : ∀ i d G2 H x H', ds[i]? = some d → Ex G G2 → Ex G2 H → J.yld i H x H' → ∃ G3, Grow [] G2 H G3 H' ∧ Da K G3 x d
  stop : ∀ i H, Ex G H → ds.length ≤ i → J.stop i H
def IterD (K : PySem.W.Frag) (wi : TI) (σ : L2.St) (G : Hp) (ds : List PyData) : Prop :=
  ∀ G1 H, Ex G G1 → Ex G1 H → ∀ R : It → Hp → Prop, (∀ J G' H', Grow [] G1 H G' H' → Steps K J G' ds → R J H') → wi σ H R
/-- the same with what is done on the way -/
def IterW (K : PySem.W.Frag) (W : Ent) (wi : TI) (σ : L2.St) (G : Hp) (M : Mem) (C : List PyData → Hp → Mem → Prop) : Prop :=
  ∀ H, World W G M H → ∀ R : It → Hp → Prop, (∀ J ds G' M' H', World W G' M' H' → Steps K J G' ds → C ds G' M' → R J H') → wi σ H R
section
variable {K : PySem.W.Frag} {W : Ent} {σ : L2.St} {G : Hp} {M : Mem} {tl : TE} {ds : List PyData} {a : Addr} {xs : List V}
theorem steps_list (h : G a = some (.lst xs)) (r : DaL K G xs ds) : Steps K (Itl K a) G ds where
  go := fun i H e hi => by
    have hx : i < xs.length := by rw [r.len]; exact hi
    exact ⟨xs, xs[i], SqL.of (e a _ h), List.getElem?_eq_getElem hx⟩
  yld := fun i d G2 H x H' hd e e2 hy => by
    obtain ⟨rfl, hy⟩ := hy
    have hx := hy xs (SqL.of (e2 a _ (e a _ h)))
    obtain ⟨d', hd', q⟩ := r.getV hx
    rw [hd] at hd'; cases hd'
    exact ⟨G2, Grow.refl e2, q.mono e⟩
  stop := fun i H e hi => ⟨xs, SqL.of (e a _ h), by rw [r.len]; exact hi⟩
theorem steps_tup (h : SqT K G a xs) (r : DaL K G xs ds) : Steps K (Itt K a) G ds where
  go := fun i H e hi => by
    have hx : i < xs.length := by rw [r.len]; exact hi
    exact ⟨xs, xs[i], ex_t e h, List.getElem?_eq_getElem hx⟩
  yld := fun i d G2 H x H' hd e e2 hy => by
    obtain ⟨rfl, hy⟩ := hy
    have hx := hy xs (ex_t e2 (ex_t e h))
    obtain ⟨d', hd', q⟩ := r.getV hx
    rw [hd] at hd'; cases hd'
    exact ⟨G2, Grow.refl e2, q.mono e⟩
  stop := fun i H e hi => ⟨xs, ex_t e h, by rw [r.len]; exact hi⟩
/-- lo, lo + 1, .. -/
def rngD (lo : Int) (n : Nat) : List PyData := (List.range n).map fun i : Nat => PyData.int (lo + (i : Int))
theorem rngD_len (lo : Int) (n : Nat) : (rngD lo n).length = n := by unfold rngD; rw [List.length_map, List.length_range]
theorem rngD_get {lo : Int} {n i : Nat} {d : PyData} (h : (rngD lo n)[i]? = some d) : i < n ∧ d = .int (lo + (i : Int)) := by
  unfold rngD at h
  rw [List.getElem?_map] at h
  by_cases hi : i < n
  · rw [List.getElem?_range hi] at h
    exact ⟨hi, (Option.some.inj h).symm⟩
  · rw [List.getElem?_eq_none (by rw [List.length_range]; omega)] at h
    cases h
theorem steps_rng (lo : Int) (n : Nat) : Steps K (Itr lo n) G (rngD lo n) where
  go := fun i H e hi => by rw [rngD_len] at hi; exact hi
  yld := fun i d G2 H x H' hd e e2 hy => by
    obtain ⟨rfl, rfl⟩ := hy
    obtain ⟨_, rfl⟩ := rngD_get hd
    exact ⟨G2, Grow.refl e2, .int _⟩
  stop := fun i H e hi => by rw [rngD_len] at hi; exact hi
def chrD (x : Str) : List PyData := x.cps.toList.map fun c => PyData.str ⟨#[c]⟩
theorem steps_str (x : Str) : Steps K (Its x) G (chrD x) where
  go := fun i H e hi => by
    unfold chrD at hi
    rw [List.length_map, Array.length_toList] at hi
    exact hi
  yld := fun i d G2 H v H' hd e e2 hy => by
    obtain ⟨rfl, c, hc, rfl⟩ := hy
    unfold chrD at hd
    rw [List.getElem?_map, Array.getElem?_toList, hc] at hd
    cases hd
    exact ⟨G2, Grow.refl e2, .str _⟩
  stop := fun i H e hi => by
    unfold chrD at hi
    rw [List.length_map, Array.length_toList] at hi
    exact hi
def zipD (as bs : List PyData) : List PyData := (as.zip bs).map fun p => PyData.tuple [p.1, p.2]
theorem zip_get {as bs : List PyData} {i : Nat} {d : PyData} (h : (zipD as bs)[i]? = some d) : ∃ x y, as[i]? = some x ∧ bs[i]? = some y ∧ d = .tuple [x, y] := by
  unfold zipD at h
  rw [List.getElem?_map] at h
  cases e : (as.zip bs)[i]? with
  | none => rw [e] at h; cases h
  | some p =>
    rw [e] at h
    obtain ⟨h1, h2⟩ := List.getElem?_zip_eq_some.mp e
    exact ⟨p.1, p.2, h1, h2, (Option.some.inj h).symm⟩
theorem zipD_len (as bs : List PyData) : (zipD as bs).length = min as.length bs.length := by unfold zipD; rw [List.length_map, List.length_zip]
theorem steps_zip {b : Addr} {ys : List V} {es : List PyData} (h : G a = some (.lst xs)) (r : DaL K G xs ds) (h' : G b = some (.lst ys)) (r' : DaL K G ys es) : Steps K (Itz K a b) G (zipD ds es) where
  go := fun i H e hi => by
    rw [zipD_len] at hi
    have hx : i < xs.length := by rw [r.len]; omega
    have hy : i < ys.length := by rw [r'.len]; omega
    exact ⟨xs, ys, xs[i], ys[i], SqL.of (e a _ h), SqL.of (e b _ h'), List.getElem?_eq_getElem hx, List.getElem?_eq_getElem hy⟩
  yld := fun i d G2 H v H' hd e e2 hy => by
    obtain ⟨T, x, y, rfl, hT, rfl, h1, h2⟩ := hy
    obtain ⟨dx, dy, g1, g2, rfl⟩ := zip_get hd
    have k1 := h1 xs (SqL.of (e2 a _ (e a _ h)))
    have k2 := h2 ys (SqL.of (e2 b _ (e b _ h')))
    obtain ⟨d1, z1, q1⟩ := r.getV k1
    obtain ⟨d2, z2, q2⟩ := r'.getV k2
    rw [g1] at z1; cases z1
    rw [g2] at z2; cases z2
    have en := Ex.new (o := HO.tup [x, y]) (fresh_back e2 hT)
    exact ⟨_, Grow.new e2 hT, .tup (SqT.of upd_same) (.cons ((q1.mono e).mono en) (.cons ((q2.mono e).mono en) .nil))⟩
  stop := fun i H e hi => by
    rw [zipD_len] at hi
    refine ⟨xs, ys, SqL.of (e a _ h), SqL.of (e b _ h'), ?_⟩
    rw [r.len, r'.len]; omega
def enumD (ds : List PyData) : List PyData := (List.range ds.length).zipWith (fun (i : Nat) d => PyData.tuple [.int (i : Int), d]) ds
theorem enumD_get {i : Nat} {d : PyData} (h : (enumD ds)[i]? = some d) : ∃ x, ds[i]? = some x ∧ d = .tuple [.int (i : Int), x] := by
  unfold enumD at h
  rw [List.getElem?_zipWith] at h
  cases e1 : (List.range ds.length)[i]? with
  | none => rw [e1] at h; simp at h
  | some k =>
    cases e2 : ds[i]? with
    | none => rw [e1, e2] at h; simp at h
    | some x =>
      rw [e1, e2] at h
      have hk : k = i := by
        have := List.getElem?_eq_some_iff.mp e1
        obtain ⟨h1, h2⟩ := this
        rw [List.getElem_range] at h2
        exact h2.symm
      subst hk
      exact ⟨x, rfl, (Option.some.inj h).symm⟩
theorem enumD_len : (enumD ds).length = ds.length := by unfold enumD; rw [List.length_zipWith, List.length_range, Nat.min_self]
theorem steps_enum (h : G a = some (.lst xs)) (r : DaL K G xs ds) : Steps K (Ite K a) G (enumD ds) where
  go := fun i H e hi => by
    rw [enumD_len] at hi
    have hx : i < xs.length := by rw [r.len]; exact hi
    exact ⟨xs, xs[i], SqL.of (e a _ h), List.getElem?_eq_getElem hx⟩
  yld := fun i d G2 H v H' hd e e2 hy => by
    obtain ⟨T, x, rfl, hT, rfl, h1⟩ := hy
    obtain ⟨dx, g1, rfl⟩ := enumD_get hd
    have k1 := h1 xs (SqL.of (e2 a _ (e a _ h)))
    obtain ⟨d1, z1, q1⟩ := r.getV k1
    rw [g1] at z1; cases z1
    have en := Ex.new (o := HO.tup [.int (i : Nat), x]) (fresh_back e2 hT)
    exact ⟨_, Grow.new e2 hT, .tup (SqT.of upd_same) (.cons (.int _) (.cons ((q1.mono e).mono en) .nil))⟩
  stop := fun i H e hi => by
    rw [enumD_len] at hi
    exact ⟨xs, SqL.of (e a _ h), by rw [r.len]; exact hi⟩
/-- a list, a tuple or a text -/
def iSeq (K : PySem.W.Frag) (tl : TE) : TI := fun σ H R => iList K tl σ H R ∨ iTup K tl σ H R ∨ iStr tl σ H R
theorem pi_seq {X : Cx} {tg l : Expr} {tl : TE} (hl : PE X l tl) : PI X tg l (iSeq X.K tl) := ⟨fun pins s σ H R I h => by
  rcases h with h | h | h
  · exact (pi_list hl).run pins s σ H R I h
  · exact (pi_tup hl).run pins s σ H R I h
  · exact (pi_str hl).run pins s σ H R I h⟩
theorem it_list (h : EvD K tl σ G (.list ds)) : IterD K (iSeq K tl) σ G ds := fun G1 H e e2 R q =>
  .inl (h G1 H e e2 _ fun v G' H' g dv => by
    cases dv with
    | lst h r => exact ⟨_, rfl, ⟨_, SqL.of (g.gh _ _ h)⟩, q _ G' H' g (steps_list h r)⟩)
theorem it_tup (h : EvD K tl σ G (.tuple ds)) : IterD K (iSeq K tl) σ G ds := fun G1 H e e2 R q =>
  .inr (.inl (h G1 H e e2 _ fun v G' H' g dv => by
    cases dv with
    | tup h r => exact ⟨_, rfl, ⟨_, ex_t g.gh h⟩, q _ G' H' g (steps_tup h r)⟩))
theorem it_str {x : Str} (h : EvD K tl σ G (.str x)) : IterD K (iSeq K tl) σ G (chrD x) := fun G1 H e e2 R q =>
  .inr (.inr (h G1 H e e2 _ fun v G' H' g dv => ⟨x, dv.str_eq, q _ G' H' g (steps_str x)⟩))
theorem it_rng1 {ta : TA} {n : Int} (h : EvA K ta σ G [.int n]) (h1 : -(2 ^ 62) ≤ n) (h2 : n < 2 ^ 62) : IterD K (iRng1 ta) σ G (rngD 0 n.toNat) := fun G1 H e e2 R q =>
  h G1 H e e2 _ fun vs G' H' g dv => by
    obtain ⟨v, rfl, hv⟩ := dv.one_inv
    obtain rfl := hv.int_eq
    exact ⟨n, rfl, h1, h2, q _ G' H' g (steps_rng 0 _)⟩
theorem it_rng2 {ta : TA} {m n : Int} (h : EvA K ta σ G [.int m, .int n]) (h1 : -(2 ^ 62) ≤ m) (h2 : m < 2 ^ 62) (h3 : -(2 ^ 62) ≤ n) (h4 : n < 2 ^ 62) : IterD K (iRng2 ta) σ G (rngD m (n - m).toNat) := fun G1 H e e2 R q =>
  h G1 H e e2 _ fun vs G' H' g dv => by
    obtain ⟨v, w, rfl, hv, hw⟩ := dv.two_inv
    obtain rfl := hv.int_eq
    obtain rfl := hw.int_eq
    exact ⟨m, n, rfl, ⟨h1, h2, h3, h4⟩, q _ G' H' g (steps_rng m _)⟩
theorem it_zip {ta : TA} {as bs : List PyData} (h : EvA K ta σ G [.list as, .list bs]) : IterD K (iZip K ta) σ G (zipD as bs) := fun G1 H e e2 R q =>
  h G1 H e e2 _ fun vs G' H' g dv => by
    obtain ⟨v, w, rfl, hv, hw⟩ := dv.two_inv
    cases hv with
    | lst h r =>
      cases hw with
      | lst h' r' => exact ⟨_, _, _, _, rfl, SqL.of (g.gh _ _ h), SqL.of (g.gh _ _ h'), q _ G' H' g (steps_zip h r h' r')⟩
theorem it_enum {ta : TA} (h : EvA K ta σ G [.list ds]) : IterD K (iEnum K ta) σ G (enumD ds) := fun G1 H e e2 R q =>
  h G1 H e e2 _ fun vs G' H' g dv => by
    obtain ⟨v, rfl, hv⟩ := dv.one_inv
    cases hv with
    | lst h r => exact ⟨_, _, rfl, SqL.of (g.gh _ _ h), q _ G' H' g (steps_enum h r)⟩
theorem itw_d {wi : TI} {C : List PyData → Hp → Mem → Prop} (h : IterD K wi σ G ds) (c : ∀ G', Ex G G' → C ds G' M) : IterW K W wi σ G M C := fun H w R q =>
  h G H (Ex.refl G) w.gh R fun J G' H' g s => q J ds G' M H' (w.grow g) s (c G' g.gg)
/-- an iterable that is reckoned with deeds on the way -/
theorem itw_list {C : List PyData → Hp → Mem → Prop} (h : Sw W tl σ G M fun v G' M' => ∃ ds, Da K G' v (.list ds) ∧ C ds G' M') : IterW K W (iSeq K tl) σ G M C := fun H w R q =>
  .inl (h H w _ fun v G' M' H' w' ⟨ds, dv, c⟩ => by
    cases dv with
    | lst h r => exact ⟨_, rfl, ⟨_, SqL.of (w'.gh _ _ h)⟩, q _ ds G' M' H' w' (steps_list h r) c⟩)
theorem itw_tup {C : List PyData → Hp → Mem → Prop} (h : Sw W tl σ G M fun v G' M' => ∃ ds, Da K G' v (.tuple ds) ∧ C ds G' M') : IterW K W (iSeq K tl) σ G M C := fun H w R q =>
  .inr (.inl (h H w _ fun v G' M' H' w' ⟨ds, dv, c⟩ => by
    cases dv with
    | tup h r => exact ⟨_, rfl, ⟨_, ex_t w'.gh h⟩, q _ ds G' M' H' w' (steps_tup h r) c⟩))
theorem itw_rng1 {ta : TA} {C : List PyData → Hp → Mem → Prop} (h : Swa W ta σ G M fun vs G' M' => ∃ n : Int, vs = [.int n] ∧ -(2 ^ 62) ≤ n ∧ n < 2 ^ 62 ∧ C (rngD 0 n.toNat) G' M') : IterW K W (iRng1 ta) σ G M C := fun H w R q =>
  h H w _ fun vs G' M' H' w' ⟨n, e, h1, h2, c⟩ => ⟨n, e, h1, h2, q _ _ G' M' H' w' (steps_rng 0 _) c⟩
end
/-! # targets -/
def Gx (W : Ent) (g : TG) (v : V) (σ : L2.St) (G : Hp) (M : Mem) (C : L2.St → Prop) : Prop := ∀ H, World W G M H → ∀ Q : L2.St → Hp → Prop, (∀ σ', C σ' → Q σ' H) → g v σ H Q
section
variable {K : PySem.W.Frag} {W : Ent} {σ : L2.St} {G : Hp} {M : Mem} {v : V} {C : L2.St → Prop} {i j k l m : Nat}
theorem gx_name (c : C (σ.set i (some v))) : Gx W (gName i) v σ G M C := fun H w Q q => q _ c
theorem gx_tup2 {a b : PyData} (h : Da K G v (.tuple [a, b])) (c : ∀ x y, Da K G x a → Da K G y b → C ((σ.set i (some x)).set j (some y))) : Gx W (gTup K 2 (gCons (gName i) (gCons (gName j) gNil))) v σ G M C := fun H w Q q => by
  cases h with
  | tup h r =>
    obtain ⟨x, y, rfl, hx, hy⟩ := r.two_inv
    exact ⟨_, [x, y], rfl, ex_t w.gh h, rfl, x, [y], rfl, y, [], rfl, rfl, q _ (c x y hx hy)⟩
theorem DaL.three_inv {H : Hp} {vs : List V} {d e f : PyData} (h : DaL K H vs [d, e, f]) : ∃ v w x, vs = [v, w, x] ∧ Da K H v d ∧ Da K H w e ∧ Da K H x f := by
  cases h with
  | cons a b =>
    obtain ⟨w, x, rfl, c, d⟩ := b.two_inv
    exact ⟨_, w, x, rfl, a, c, d⟩
theorem gx_tup3 {a b d : PyData} (h : Da K G v (.tuple [a, b, d])) (c : ∀ x y z, Da K G x a → Da K G y b → Da K G z d → C (((σ.set i (some x)).set j (some y)).set k (some z))) : Gx W (gTup K 3 (gCons (gName i) (gCons (gName j) (gCons (gName k) gNil)))) v σ G M C := fun H w Q q => by
  cases h with
  | tup h r =>
    obtain ⟨x, y, z, rfl, hx, hy, hz⟩ := r.three_inv
    exact ⟨_, [x, y, z], rfl, ex_t w.gh h, rfl, x, _, rfl, y, _, rfl, z, [], rfl, rfl, q _ (c x y z hx hy hz)⟩
theorem DaL.cons_inv {H : Hp} {vs : List V} {d : PyData} {ds : List PyData} (h : DaL K H vs (d :: ds)) : ∃ v ws, vs = v :: ws ∧ Da K H v d ∧ DaL K H ws ds := by
  cases h with
  | cons a b => exact ⟨_, _, rfl, a, b⟩
theorem DaL.nil_inv {H : Hp} {vs : List V} (h : DaL K H vs []) : vs = [] := by cases h; rfl
theorem gx_tup4 {a b d e : PyData} (h : Da K G v (.tuple [a, b, d, e])) (c : ∀ x y z u, Da K G x a → Da K G y b → Da K G z d → Da K G u e → C ((((σ.set i (some x)).set j (some y)).set k (some z)).set l (some u))) : Gx W (gTup K 4 (gCons (gName i) (gCons (gName j) (gCons (gName k) (gCons (gName l) gNil))))) v σ G M C := fun H w Q q => by
  cases h with
  | tup h r =>
    obtain ⟨x, _, rfl, hx, r⟩ := r.cons_inv
    obtain ⟨y, z, u, rfl, hy, hz, hu⟩ := r.three_inv
    exact ⟨_, [x, y, z, u], rfl, ex_t w.gh h, rfl, x, _, rfl, y, _, rfl, z, _, rfl, u, [], rfl, rfl, q _ (c x y z u hx hy hz hu)⟩
theorem gx_tup5 {a b d e f : PyData} (h : Da K G v (.tuple [a, b, d, e, f])) (c : ∀ x y z u t, Da K G x a → Da K G y b → Da K G z d → Da K G u e → Da K G t f → C (((((σ.set i (some x)).set j (some y)).set k (some z)).set l (some u)).set m (some t))) : Gx W (gTup K 5 (gCons (gName i) (gCons (gName j) (gCons (gName k) (gCons (gName l) (gCons (gName m) gNil)))))) v σ G M C := fun H w Q q => by
  cases h with
  | tup h r =>
    obtain ⟨x, _, rfl, hx, r⟩ := r.cons_inv
    obtain ⟨y, _, rfl, hy, r⟩ := r.cons_inv
    obtain ⟨z, u, t, rfl, hz, hu, ht⟩ := r.three_inv
    exact ⟨_, [x, y, z, u, t], rfl, ex_t w.gh h, rfl, x, _, rfl, y, _, rfl, z, _, rfl, u, _, rfl, t, [], rfl, rfl, q _ (c x y z u t hx hy hz hu ht)⟩
end
/-! # loops -/
/-- the ends of a loop's turn that began at G -/
abbrev Turn (W : Ent) (D : Ends) (G : Hp) (P : L2.St → Hp → Mem → Prop) : Ends := { D with nx := At W fun σ G' M' => Ex G G' ∧ P σ G' M', ct := At W fun σ G' M' => Ex G G' ∧ P σ G' M', bk := D.nx }
section
variable {K : PySem.W.Frag} {W : Ent} {D : Ends} {σ : L2.St} {G : Hp} {M : Mem} {tb tz : TS} {g : TG} {wi : TI} {ds : List PyData}
theorem nx_turn {G0 : Hp} {P : L2.St → Hp → Mem → Prop} (e : Ex G0 G) (h : P σ G M) : Nx W (Turn W D G0 P) σ G M := fun H w => ⟨G, M, w, e, h⟩
theorem sx_forW (C : List PyData → Hp → Mem → Prop) (h : IterW K W wi σ G M C)
    (c : ∀ ds G1 M1, C ds G1 M1 → ∃ Pv : Nat → L2.St → Hp → Mem → Prop, Pv 0 σ G1 M1 ∧
      (∀ i d v σ' Ga G' M', ds[i]? = some d → Ex G1 Ga → Pv i σ' Ga M' → Ex Ga G' → Da K G' v d → Gx W g v σ' G' M' fun σ2 => Sx W tb (Turn W D Ga (Pv (i + 1))) σ2 G' M') ∧
      ∀ σ' G' M', Ex G1 G' → Pv ds.length σ' G' M' → Nx W D σ' G' M') : Sx W (tFor wi g tb) D σ G M := fun H w =>
  h H w _ fun J ds G1 M1 H1 w1 s hc => by
    obtain ⟨Pv, h0, hs, hd⟩ := c ds G1 M1 hc
    refine ⟨fun i m σ' H' => m = ds.length - i ∧ i ≤ ds.length ∧ ∃ G' M', World W G' M' H' ∧ Ex G1 G' ∧ Pv i σ' G' M', ⟨ds.length, by simp, Nat.zero_le _, G1, M1, w1, Ex.refl G1, h0⟩, ?_⟩
    rintro i m σ' H' ⟨rfl, hi, Ga, M', w', e, p⟩
    have ge := w'.gh
    by_cases hlt : i < ds.length
    · refine .inr ⟨s.go i H' (e.trans ge) hlt, fun σ2 H2 => ∃ G2 M2, World W G2 M2 H2 ∧ Ex Ga G2 ∧ Pv (i + 1) σ2 G2 M2, fun σ2 H2 ⟨G2, M2, w2, e2, p2⟩ => ⟨ds.length - (i + 1), by omega, rfl, hlt, G2, M2, w2, e.trans e2, p2⟩, fun x H2 y => ?_⟩
      obtain ⟨G', g3, dx⟩ := s.yld i ds[i] Ga H' x H2 (List.getElem?_eq_getElem hlt) e ge y
      exact hs i ds[i] x σ' Ga G' M' (List.getElem?_eq_getElem hlt) e p g3.gg dx H2 (w'.grow g3) _ fun σ2 b => b H2 (w'.grow g3)
    · have e0 : i = ds.length := by omega
      subst e0
      exact .inl ⟨s.stop _ H' (e.trans ge) (Nat.le_refl _), hd σ' Ga M' e p H' w'⟩
theorem q_forW (C : List PyData → Hp → Mem → Prop) (h : IterW K W wi σ G M C)
    (c : ∀ ds G1 M1, C ds G1 M1 → ∃ Pv : Nat → L2.St → Hp → Mem → Prop, Pv 0 σ G1 M1 ∧
      (∀ i d v σ' Ga G' M', ds[i]? = some d → Ex G1 Ga → Pv i σ' Ga M' → Ex Ga G' → Da K G' v d → Gx W g v σ' G' M' fun σ2 => Sx W tb (Turn W { D with nx := tz D } Ga (Pv (i + 1))) σ2 G' M') ∧
      ∀ σ' G' M', Ex G1 G' → Pv ds.length σ' G' M' → Sx W tz D σ' G' M') : Sx W (tSeq (tFor wi g tb) tz) D σ G M := sx_forW (D := { D with nx := tz D }) C h c
/-- a plain iterable, a name for target -/
theorem q_for {j : Nat} (h : IterD K wi σ G ds) (Pv : Nat → L2.St → Hp → Mem → Prop) (h0 : ∀ G', Ex G G' → Pv 0 σ G' M)
    (hs : ∀ i d v σ' Ga G' M', ds[i]? = some d → Ex G Ga → Pv i σ' Ga M' → Ex Ga G' → Da K G' v d → Sx W tb (Turn W { D with nx := tz D } Ga (Pv (i + 1))) (σ'.set j (some v)) G' M')
    (hd : ∀ σ' G' M', Ex G G' → Pv ds.length σ' G' M' → Sx W tz D σ' G' M') : Sx W (tSeq (tFor wi (gName j) tb) tz) D σ G M :=
  q_forW (fun es G1 M1 => es = ds ∧ Ex G G1 ∧ M1 = M) (itw_d h fun G' e => ⟨rfl, e, rfl⟩) fun es G1 M1 hc => by
    obtain ⟨rfl, e, rfl⟩ := hc
    exact ⟨Pv, h0 G1 e, fun i d v σ' Ga G' M' h1 h2 h3 h4 h5 => gx_name (hs i d v σ' Ga G' M' h1 (e.trans h2) h3 h4 h5), fun σ' G' M' h1 h2 => hd σ' G' M' (e.trans h1) h2⟩
/-- while -/
theorem sx_while {tt : TT} (Pv : Nat → L2.St → Hp → Mem → Prop) (m0 : Nat) (h0 : Pv m0 σ G M)
    (hs : ∀ m σ' G' M', Pv m σ' G' M' → Swt W tt σ' G' M' fun b G2 M2 => (b = true → Sx W tb (Turn W D G2 fun σ3 G3 M3 => ∃ m', m' < m ∧ Pv m' σ3 G3 M3) σ' G2 M2) ∧ (b = false → Nx W D σ' G2 M2)) : Sx W (tWhile tt tb) D σ G M := fun H w => by
  refine ⟨fun m σ' H' => ∃ G' M', World W G' M' H' ∧ Pv m σ' G' M', ⟨m0, G, M, w, h0⟩, ?_⟩
  rintro m σ' H' ⟨G', M', w', p⟩
  refine hs m σ' G' M' p H' w' _ fun b G2 M2 H2 w2 hc => ?_
  cases b with
  | true =>
    refine ⟨_, ?_, hc.1 rfl H2 w2⟩
    rintro σ3 H3 ⟨G3, M3, w3, _, m', hm, p3⟩
    exact ⟨m', hm, G3, M3, w3, p3⟩
  | false => exact hc.2 rfl H2 w2
/-- the two ways behind an if meet -/
theorem sx_cut (Mid : L2.St → Hp → Mem → Prop) (h : Sx W tb { D with nx := At W fun σ G' M' => Ex G G' ∧ Mid σ G' M' } σ G M) (k : ∀ σ' G' M', Ex G G' → Mid σ' G' M' → Sx W tz D σ' G' M') : Sx W (tCut tb tz) D σ G M := fun H w =>
  ⟨_, h H w, fun σ' H' ⟨G', M', w', e, m⟩ => k σ' G' M' e m H' w'⟩
theorem nx_at {P : L2.St → Hp → Mem → Prop} {G0 : Hp} (e : Ex G0 G) (h : P σ G M) : Nx W { D with nx := At W fun σ G' M' => Ex G0 G' ∧ P σ G' M' } σ G M := fun H w => ⟨G, M, w, e, h⟩
end
/-! # comprehensions -/
section
variable {K : PySem.W.Frag} {W : Ent} {σ : L2.St} {G : Hp} {M : Mem} {tt : TT} {te : TE} {g : TG} {wi : TI} {ds : List PyData} {vs : List Nat}
/-- the plain one: over xs, told by e; kept where f, as r tells -/
theorem ev_lcG {α : Type} (xs : List α) (e : α → PyData) (f : α → Bool) (r : α → PyData) (h : IterD K wi σ G (xs.map e)) (hl : xs.length ≤ 50000)
    (hs : ∀ x ∈ xs, ∀ v G', Ex G G' → Da K G' v (e x) → ∀ H, Ex G' H → ∀ Q : L2.St → Hp → Prop, (∀ σ2, wipe σ2 vs = wipe σ vs → EvT tt σ2 G' (f x) → (f x = true → EvD K te σ2 G' (r x)) → Q σ2 H) → g v (wipe σ vs) H Q) :
    EvD K (tLc wi g tt te vs) σ G (.list ((xs.filter f).map r)) := fun G1 H e1 e2 Q q =>
  h G1 H e1 e2 _ fun J G2 H2 g2 s Dl hD => by
    refine ⟨fun i m H3 => m = xs.length - i ∧ i ≤ xs.length ∧ ∃ G3 acc, Grow [] G2 H2 G3 H3 ∧ H3 Dl = some (.lst acc) ∧ G3 Dl = none ∧ acc.length ≤ i ∧ DaL K G3 acc (((xs.take i).filter f).map r), ⟨xs.length, by simp, Nat.zero_le _, G2, [], Grow.of_ex g2.gh (Ex.new hD), upd_same, fresh_back g2.gh hD, Nat.zero_le _, .nil⟩, ?_⟩
    rintro i m H3 ⟨rfl, hi, G3, acc, g3, hA, hG, hc, da⟩
    have hlen : (xs.map e).length = xs.length := List.length_map _
    by_cases hlt : i < xs.length
    · refine .inr ⟨s.go i H3 (g3.gg.trans g3.gh) (by rw [hlen]; exact hlt), fun H4 => ∃ G4 acc4, Grow [] G2 H2 G4 H4 ∧ H4 Dl = some (.lst acc4) ∧ G4 Dl = none ∧ acc4.length ≤ i + 1 ∧ DaL K G4 acc4 (((xs.take (i + 1)).filter f).map r), fun H4 hN => ?_, fun x H4 y => ?_⟩
      · exact ⟨xs.length - (i + 1), by omega, rfl, hlt, hN⟩
      · have hget : (xs.map e)[i]? = some (e xs[i]) := by rw [List.getElem?_map, List.getElem?_eq_getElem hlt]; rfl
        obtain ⟨G4, g4, dx⟩ := s.yld i _ G3 H3 x H4 hget g3.gg g3.gh y
        have e4 : Ex G G4 := ((e1.trans g2.gg).trans g3.gg).trans g4.gg
        have hA4 := g4.hh _ _ hA
        have hG4 : G4 Dl = none := g4.fg Dl (by rw [hA]; exact fun z => nomatch z) hG
        have htk : xs.take (i + 1) = xs.take i ++ [xs[i]] := by rw [List.take_add_one, List.getElem?_eq_getElem hlt]; rfl
        refine hs xs[i] (List.getElem_mem hlt) x G4 e4 dx H4 g4.gh _ fun σ2 hw ht he => ⟨hw, ht H4 g4.gh _ fun H5 e5 => ?_⟩
        have g5 : Grow [] G2 H2 G4 H5 := (g3.trans g4).trans (Grow.of_ex g4.gh e5)
        cases hf : f xs[i] with
        | true =>
          refine he hf G4 H5 (Ex.refl G4) (g4.gh.trans e5) _ fun v G6 H6 g6 dv => ?_
          have hA6 := g6.hh _ _ (e5 _ _ hA4)
          have hG6 : G6 Dl = none := g6.fg Dl (by rw [e5 _ _ hA4]; exact fun z => nomatch z) hG4
          refine ⟨acc, hA6, sz_lt (by omega), G6, acc ++ [v], ?_, upd_same, hG6, by rw [List.length_append]; show _ + 1 ≤ _; omega, ?_⟩
          · have g7 := g5.trans g6
            refine ⟨g7.gg, fun a o z => ?_, fun a o z _ => ?_, g7.fg, fun a z => ?_⟩
            · rw [upd_ne (ne_of_none z hG6)]; exact g7.gh a o z
            · rw [upd_ne (ne_of_none z hD)]; exact g7.hh a o z
            · by_cases ea : a = Dl
              · rw [ea, upd_same]; exact fun z => nomatch z
              · rw [upd_ne ea]; exact g7.dm a z
          · rw [htk, List.filter_append, List.map_append]
            have e9 : List.filter f [xs[i]] = [xs[i]] := by rw [List.filter_cons, if_pos hf]; rfl
            rw [e9]
            exact ((da.mono g4.gg).mono g6.gg).app (DaL.one dv)
        | false =>
          refine ⟨G4, acc, g5, e5 _ _ hA4, hG4, by omega, ?_⟩
          rw [htk, List.filter_append, List.map_append]
          have e9 : List.filter f [xs[i]] = [] := by rw [List.filter_cons, if_neg (by rw [hf]; decide)]; rfl
          rw [e9, List.map_nil, List.append_nil]
          exact da.mono g4.gg
    · have e0 : i = xs.length := by omega
      subst e0
      rw [List.take_length] at da
      refine .inl ⟨s.stop _ H3 (g3.gg.trans g3.gh) (by rw [hlen]; exact Nat.le_refl _), ?_⟩
      refine q _ (upd G3 Dl (.lst acc)) H3 ⟨(g2.trans g3).gg.trans (Ex.new hG), fun a o z => ?_, (g2.trans g3).fr, fun a z n => ?_, (g2.trans g3).dm⟩ (.lst upd_same (da.mono (Ex.new hG)))
      · by_cases ea : a = Dl
        · subst ea; rw [upd_same] at z; rw [← z]; exact hA
        · rw [upd_ne ea] at z; exact g3.gh a o z
      · have ne : a ≠ Dl := fun ea => by
          subst ea
          exact g2.dm a z hD
        rw [upd_ne ne]; exact (g2.trans g3).fg a z n
/-- a name for target, no test -/
theorem ev_lcN {α : Type} {j : Nat} (xs : List α) (e : α → PyData) (r : α → PyData) (h : IterD K wi σ G (xs.map e)) (hl : xs.length ≤ 50000) (hw : ∀ x, wipe ((wipe σ vs).set j (some x)) vs = wipe σ vs)
    (he : ∀ x ∈ xs, ∀ v G', Ex G G' → Da K G' v (e x) → EvD K te ((wipe σ vs).set j (some v)) G' (r x)) : EvD K (tLc wi (gName j) tYes te vs) σ G (.list (xs.map r)) := by
  have q := ev_lcG (K := K) (g := gName j) (tt := tYes) (te := te) (vs := vs) xs e (fun _ => true) r h hl fun x hx v G' e1 d1 H e2 Q q => q _ (hw v) (fun H e Q q => q H (Ex.refl H)) fun _ => he x hx v G' e1 d1
  rwa [List.filter_eq_self.mpr (fun _ _ => rfl)] at q
/-- .. with a test -/
theorem ev_lcF {α : Type} {j : Nat} (xs : List α) (e : α → PyData) (f : α → Bool) (r : α → PyData) (h : IterD K wi σ G (xs.map e)) (hl : xs.length ≤ 50000) (hw : ∀ x, wipe ((wipe σ vs).set j (some x)) vs = wipe σ vs)
    (ht : ∀ x ∈ xs, ∀ v G', Ex G G' → Da K G' v (e x) → EvT tt ((wipe σ vs).set j (some v)) G' (f x))
    (he : ∀ x ∈ xs, ∀ v G', Ex G G' → Da K G' v (e x) → f x = true → EvD K te ((wipe σ vs).set j (some v)) G' (r x)) : EvD K (tLc wi (gName j) tt te vs) σ G (.list ((xs.filter f).map r)) :=
  ev_lcG xs e f r h hl fun x hx v G' e1 d1 H e2 Q q => q _ (hw v) (ht x hx v G' e1 d1) (he x hx v G' e1 d1)
end
section
variable {K : PySem.W.Frag} {W : Ent} {D : Ends} {σ : L2.St} {G : Hp} {M : Mem} {te ta tb tc : TE} {tt : TT} {t tz : TS} {a b c d : PyData} {ds : List PyData} {C : V → Hp → Mem → Prop} {i j k : Nat} {p : Addr}
/-! # a chain of two comparisons -/
theorem ev_chain {r r' : R2} {x y : Bool} (ha : EvD K ta σ G a) (hb : EvD K tb σ G b) (hr : RD2 K r G a b (.bool x)) (hc : x = true → EvD K tc σ G c) (hr' : x = true → RD2 K r' G b c (.bool y)) : EvD K (tChain r r' ta tb tc) σ G (.bool (x && y)) := fun G1 H e e2 Q q =>
  ha G1 H e e2 _ fun v1 G2 H2 g2 d2 => hb G2 H2 (e.trans g2.gg) g2.gh _ fun v2 G3 H3 g3 d3 =>
    hr G3 H3 ((e.trans g2.gg).trans g3.gg) g3.gh v1 v2 (d2.mono g3.gg) d3 _ fun v G4 H4 g4 d4 => ⟨x, d4.bl_eq, by
      cases x with
      | true =>
        refine hc rfl G4 H4 (((e.trans g2.gg).trans g3.gg).trans g4.gg) g4.gh _ fun v5 G5 H5 g5 d5 => ?_
        exact hr' rfl G5 H5 ((((e.trans g2.gg).trans g3.gg).trans g4.gg).trans g5.gg) g5.gh v2 v5 ((d3.mono g4.gg).mono g5.gg) d5 Q fun v G6 H6 g6 d6 => q v G6 H6 ((((g2.trans g3).trans g4).trans g5).trans g6) d6
      | false => exact q _ G4 H4 ((g2.trans g3).trans g4) (.bl false)⟩
theorem r1_neg {n : Int} : RD1 K (rU fun i => .int (-i)) G (.int n) (.int (-n)) := fun G1 H e e2 x hx Q q => by
  obtain rfl := hx.int_eq
  exact ⟨n, rfl, ok1 e2 q (.int _)⟩
/-! # slices -/
def cutG {α : Type} (xs : List α) (lo hi : Option Int) : List α := (xs.drop (HT.sIx xs.length 0 lo)).take (HT.sIx xs.length xs.length hi - HT.sIx xs.length 0 lo)
theorem DaL.cut {H : Hp} {vs : List V} (h : DaL K H vs ds) (lo hi : Option Int) : DaL K H (cutV vs lo hi) (cutG ds lo hi) := by
  unfold cutV cutG
  rw [h.len]
  exact (h.drop _).take _
def EvP (to : TO) (σ : L2.St) (G : Hp) (o : Option Int) : Prop := ∀ H, Ex G H → ∀ Q : Option Int → Hp → Prop, (∀ H', Ex H H' → Q o H') → to σ H Q
theorem ep_none : EvP tNoPart σ G none := fun H e Q q => q H (Ex.refl H)
theorem ep_some {n : Int} (h : EvD K te σ G (.int n)) : EvP (tPart te) σ G (some n) := fun H e Q q => h G H (Ex.refl G) e _ fun v G2 H2 g2 d2 => ⟨n, d2.int_eq, q H2 g2.hh⟩
def kSl (K : PySem.W.Frag) : V → Option Int → Option Int → Hp → VK → Prop := fun x lo hi H Q => rSlL K x lo hi H Q ∨ rSlA K x lo hi H Q
theorem sl_k {X : Cx} : SlR X (kSl X.K) := sl_list.or sl_tupA
theorem ev_slL {tl th : TO} {lo hi : Option Int} (h : EvD K te σ G (.list ds)) (hl : EvP tl σ G lo) (hh : EvP th σ G hi) : EvD K (tSl (kSl K) te tl th) σ G (.list (cutG ds lo hi)) := fun G1 H e e2 Q q =>
  h G1 H e e2 _ fun v G2 H2 g2 d2 => hl H2 ((e.trans g2.gg).trans g2.gh) _ fun H3 e3 => hh H3 (((e.trans g2.gg).trans g2.gh).trans e3) _ fun H4 e4 => by
    cases d2 with
    | lst h r =>
      have g4 : Grow [] G1 H G2 H4 := g2.trans (Grow.of_ex g2.gh (e3.trans e4))
      exact .inl ⟨_, _, rfl, SqL.of (g4.gh _ _ h), fun p hp => q _ _ _ (g4.trans (Grow.new g4.gh hp)) (.lst upd_same ((r.cut lo hi).mono (Ex.new (fresh_back g4.gh hp))))⟩
/-! # calls of plain defs -/
def spR (K : PySem.W.Frag) (R : List PyData → PyData → Prop) : Sp := fun vs H Q _ => ∃ G ds d, Ex G H ∧ DaL K G vs ds ∧ R ds d ∧ ∀ v G' H', Grow [] G H G' H' → Da K G' v d → Q v H'
theorem ev_call {R : List PyData → PyData → Prop} {ta : TA} {E : XK} (h : EvA K ta σ G ds) (hr : R ds d) : EvD K (tCall (spR K R) [] E ta) σ G d := fun G1 H e e2 Q q =>
  h G1 H e e2 _ fun vs G2 H2 g2 d2 => by
    rw [List.append_nil]
    exact ⟨G2, ds, d, g2.gh, d2, hr, fun v G' H' g dv => q v G' H' (g2.trans g) dv⟩
theorem world0 {G H : Hp} (e : Ex G H) : World ⟨G, H, []⟩ G [] H := ⟨Grow.refl e, (fun _ _ h => nomatch h), (fun _ _ h => nomatch h), List.nodup_nil, (fun _ _ h => nomatch h)⟩
/-- from the promise to the walk -/
theorem pure_in {R : List PyData → PyData → Prop} {N : List Str} (h : ∀ vs ds d (W : Ent) G D, DaL K G vs ds → R ds d → Ret W D (fun v G' _ => Da K G' v d) → (d = .none → ∀ σ G' M', Nx W D σ G' M') → Sx W t D (L2.start N vs) G []) :
    ∀ vs H Q E, spR K R vs H Q E → t { nx := fun _ H' => Q .non H', rt := Q } (L2.start N vs) H := fun vs H Q E ⟨G, ds, d, e, da, hr, q⟩ =>
  h vs ds d ⟨G, H, []⟩ G _ da hr (fun v G' M' H' w dv => q v G' H' w.gr dv) (fun hd σ G' M' H' w => q .non G' H' w.gr (by rw [hd]; exact .non)) H (world0 e)
theorem spR_len {R : List PyData → PyData → Prop} {n : Nat} (h : ∀ ds d, R ds d → ds.length = n) : ∀ vs H Q E, spR K R vs H Q E → vs.length = n := fun vs H Q E ⟨G, ds, d, e, da, hr, q⟩ => by rw [da.len]; exact h ds d hr
/-! # the bag -/
def P61 : Int := 2305843009213693951
def BagOk (n : Nat) (b : List V) : Prop := ∃ a x c : Int, b = [.int a, .int x, .int c] ∧ 0 ≤ x ∧ x < P61 ∧ 0 ≤ c ∧ c ≤ n
theorem BagOk.mono {n m : Nat} {b : List V} (h : BagOk n b) (e : n ≤ m) : BagOk m b := by
  obtain ⟨a, x, c, h1, h2, h3, h4, h5⟩ := h
  exact ⟨a, x, c, h1, h2, h3, h4, by omega⟩
def bagMax : Nat := 1000000000000
def spB (K : PySem.W.Frag) (cost : Nat) (Pre : List PyData → Prop) (Post : List PyData → PyData → Prop) : Sp := fun vs H Q _ => ∃ p b n G ds ws, vs = .ref p :: ws ∧ H p = some (.lst b) ∧ BagOk n b ∧ n + cost ≤ bagMax ∧ Ex G H ∧ G p = none ∧ DaL K G ws ds ∧ Pre ds ∧
  ∀ v d b' G' H', Post ds d → BagOk (n + cost) b' → Grow [p] G H G' H' → H' p = some (.lst b') → Da K G' v d → Q v H'
theorem spB_len {cost : Nat} {Pre : List PyData → Prop} {Post : List PyData → PyData → Prop} {n : Nat} (h : ∀ ds, Pre ds → ds.length = n) : ∀ vs H Q E, spB K cost Pre Post vs H Q E → vs.length = n + 1 := fun vs H Q E ⟨p, b, m, G, ds, ws, e, _, _, _, _, _, da, hp, _⟩ => by
  rw [e, List.length_cons, da.len, h ds hp]
/-- behind a call that wrote at p -/
theorem World.call {G' H H' : Hp} {o o' : HO} (w : World W G M H) (h : M[k]? = some (p, o)) (g : Grow [p] G H G' H') (hp : H' p = some o') : World W G' (M.set k (p, o')) H' := by
  have hm : (p, o) ∈ M := List.mem_of_getElem? h
  have hp0 := w.own p o hm
  have hg0 := w.sep p o hm
  have other : ∀ q u, (q, u) ∈ M.set k (p, o') → (q = p ∧ u = o') ∨ ((q, u) ∈ M ∧ q ≠ p) := fun q u hq => by
    obtain ⟨i, hi⟩ := List.mem_iff_getElem?.mp hq
    rw [List.getElem?_set] at hi
    by_cases e : k = i
    · rw [if_pos e] at hi
      split at hi
      · cases hi; exact .inl ⟨rfl, rfl⟩
      · cases hi
    · rw [if_neg e] at hi
      refine .inr ⟨List.mem_of_getElem? hi, fun z => e ?_⟩
      subst z
      exact nodup_at w.nd h hi
  refine ⟨⟨w.gr.gg.trans g.gg, g.gh, fun a u z n => ?_, fun a z n => g.fg a (w.gr.dm a z) (w.gr.fg a z n), fun a z => g.dm a (w.gr.dm a z)⟩, fun q u hq => ?_, fun q u hq => ?_, ?_, fun q u hq => ?_⟩
  · refine g.fr a u (w.gr.fr a u z n) fun e => ?_
    have e : a = p := by simpa using e
    subst e
    rcases w.fm a o hm with x | x
    · exact n x
    · rw [z] at x; cases x
  · rcases other q u hq with ⟨e1, e2⟩ | ⟨e1, e2⟩
    · rw [e1, e2]; exact hp
    · exact g.fr q u (w.own q u e1) (by simpa using e2)
  · have hq0 : ∀ u', (q, u') ∈ M → G' q = none := fun u' z => g.fg q (by rw [w.own q u' z]; exact fun z => nomatch z) (w.sep q u' z)
    rcases other q u hq with ⟨e1, e2⟩ | ⟨e1, e2⟩
    · rw [e1]; exact g.fg p (by rw [hp0]; exact fun z => nomatch z) hg0
    · exact hq0 u e1
  · rw [set_keys h]; exact w.nd
  · rcases other q u hq with ⟨e1, e2⟩ | ⟨e1, e2⟩
    · rw [e1]; exact w.fm p o hm
    · exact w.fm q u e1
theorem sw_callB {cost n : Nat} {Pre : List PyData → Prop} {Post : List PyData → PyData → Prop} {ta : TA} {E : XK} {b : List V} (k : Nat) (hv : σ[i]? = some (some (.ref p))) (ha : EvA K ta σ G ds) (hm : M[k]? = some (p, .lst b)) (hb : BagOk n b) (hn : n + cost ≤ bagMax) (hp : Pre ds)
    (c : ∀ v d b' G', Post ds d → BagOk (n + cost) b' → Ex G G' → Da K G' v d → C v G' (M.set k (p, .lst b'))) : Sw W (tCall (spB K cost Pre Post) [] E (tCons (tVar i) ta)) σ G M C := fun H w Q q =>
  ⟨.ref p, hv, ha G H (Ex.refl G) w.gh _ fun ws G1 H1 g1 d1 => by
    show spB K cost Pre Post ((.ref p :: ws) ++ []) H1 Q E
    rw [List.append_nil]
    have w1 := w.grow g1
    refine ⟨p, b, n, G1, ds, ws, rfl, w1.own p _ (List.mem_of_getElem? hm), hb, hn, w1.gh, w1.sep p _ (List.mem_of_getElem? hm), d1, hp, fun v d b' G' H' h1 h2 g h3 dv => ?_⟩
    exact q v G' _ H' (w1.call hm g h3) (c v d b' G' h1 h2 (g1.gg.trans g.gg) dv)⟩
theorem worldB {G H : Hp} {o : HO} (e : Ex G H) (h : H p = some o) (hg : G p = none) : World ⟨G, H, [p]⟩ G [(p, o)] H := by
  refine ⟨⟨Ex.refl G, e, fun _ _ h _ => h, fun _ _ h => h, fun _ h => h⟩, fun q u hq => ?_, fun q u hq => ?_, by simp, fun q u hq => ?_⟩
  · have e : (q, u) = (p, o) := by simpa using hq
    cases e; exact h
  · have e : (q, u) = (p, o) := by simpa using hq
    cases e; exact hg
  · have e : (q, u) = (p, o) := by simpa using hq
    cases e; exact .inl (by simp)
theorem bag_in {cost : Nat} {Pre : List PyData → Prop} {Post : List PyData → PyData → Prop} {N : List Str} (h : ∀ p b n ws ds (W : Ent) G D, BagOk n b → n + cost ≤ bagMax → DaL K G ws ds → Pre ds →
      Ret W D (fun v G' M' => ∃ d b', Post ds d ∧ BagOk (n + cost) b' ∧ (p, HO.lst b') ∈ M' ∧ Da K G' v d) → Sx W t D (L2.start N (.ref p :: ws)) G [(p, .lst b)]) :
    ∀ vs H Q E, spB K cost Pre Post vs H Q E → t { nx := fun _ H' => Q .non H', rt := Q } (L2.start N vs) H := fun vs H Q E ⟨p, b, n, G, ds, ws, ev, hp, hb, hn, e, hg, da, pre, q⟩ => by
  subst ev
  refine h p b n ws ds ⟨G, H, [p]⟩ G _ hb hn da pre (fun v G' M' H' w ⟨d, b', h1, h2, h3, h4⟩ => ?_) H (worldB e hp hg)
  exact q v d b' G' H' h1 h2 w.gr (w.own p _ h3) h4
/-! # lists that may be written -/
/-- .. read as data, the result a plain value -/
theorem sw_intM {n : Int} {xs : List V} (k : Nat) (hm : M[k]? = some (p, .lst xs)) (h : EvD K te σ (upd G p (.lst xs)) (.int n)) (c : C (.int n) G M) : Sw W te σ G M C := fun H w Q q => by
  have hp := w.own p _ (List.mem_of_getElem? hm)
  refine h (upd G p (.lst xs)) H (Ex.refl _) (fun a o z => ?_) Q fun v G' H' g dv => q v G M H' (w.ext g.hh) (by rw [dv.int_eq]; exact c)
  by_cases e : a = p
  · subst e; rw [upd_same] at z; rw [← z]; exact hp
  · rw [upd_ne e] at z; exact w.gh a o z
theorem swt_M {b : Bool} {xs : List V} {C : Bool → Hp → Mem → Prop} (k : Nat) (hm : M[k]? = some (p, .lst xs)) (h : EvT tt σ (upd G p (.lst xs)) b) (c : C b G M) : Swt W tt σ G M C := fun H w Q q => by
  have hp := w.own p _ (List.mem_of_getElem? hm)
  refine h H (fun a o z => ?_) Q fun H' e => q b G M H' (w.ext e) c
  by_cases e : a = p
  · subst e; rw [upd_same] at z; rw [← z]; exact hp
  · rw [upd_ne e] at z; exact w.gh a o z
/-- .. settled -/
theorem sx_settle {o : HO} (k : Nat) (hm : M[k]? = some (p, o)) (n0 : W.H0 p = none) (h : Sx W t D σ (upd G p o) (M.eraseIdx k)) : Sx W t D σ G M := fun H w => h H (w.settle hm n0)
theorem sw_settle {o : HO} (k : Nat) (hm : M[k]? = some (p, o)) (n0 : W.H0 p = none) (h : Sw W te σ (upd G p o) (M.eraseIdx k) C) : Sw W te σ G M C := fun H w Q q => h H (w.settle hm n0) Q q
theorem World.gnone {H : Hp} {o : HO} (w : World W G M H) (hm : M[k]? = some (p, o)) : G p = none := w.sep p o (List.mem_of_getElem? hm)
/-- what is owned is not settled: for the walk -/
theorem sx_fresh {o : HO} (k : Nat) (hm : M[k]? = some (p, o)) (h : G p = none → Sx W t D σ G M) : Sx W t D σ G M := fun H w => h (w.gnone hm) H w
theorem sw_fresh {o : HO} (k : Nat) (hm : M[k]? = some (p, o)) (h : G p = none → Sw W te σ G M C) : Sw W te σ G M C := fun H w => h (w.gnone hm) H w
/-- xs.append(e), e plain -/
theorem q_app {xs : List V} (k : Nat) (ho : σ[i]? = some (some (.ref p))) (hm : M[k]? = some (p, .lst xs)) (hl : xs.length < 100000) (h : EvD K te σ G d) (c : ∀ v G', Ex G G' → Da K G' v d → Sx W tz D σ G' (M.set k (p, .lst (xs ++ [v])))) :
    Sx W (tSeq (tDrop (tBM K "list" rAppend (tVar i) (tCons te tNil))) tz) D σ G M :=
  sx_app (D := { D with nx := tz D }) ho (fun G1 M1 v hc => ⟨k, hc.1, hl, hc.2⟩) ⟨xs, List.mem_of_getElem? hm⟩ (C := fun v G1 M1 => M1[k]? = some (p, .lst xs) ∧ Sx W tz D σ G1 (M1.set k (p, .lst (xs ++ [v])))) (sw_ev h fun v G' e dv => ⟨hm, c v G' e dv⟩)
theorem sx_appD {xs : List V} (k : Nat) (ho : σ[i]? = some (some (.ref p))) (hm : M[k]? = some (p, .lst xs)) (hl : xs.length < 100000) (h : EvD K te σ G d) (c : ∀ v G', Ex G G' → Da K G' v d → Nx W D σ G' (M.set k (p, .lst (xs ++ [v])))) :
    Sx W (tDrop (tBM K "list" rAppend (tVar i) (tCons te tNil))) D σ G M :=
  sx_app (D := D) ho (fun G1 M1 v hc => ⟨k, hc.1, hl, hc.2⟩) ⟨xs, List.mem_of_getElem? hm⟩ (C := fun v G1 M1 => M1[k]? = some (p, .lst xs) ∧ Nx W D σ G1 (M1.set k (p, .lst (xs ++ [v])))) (sw_ev h fun v G' e dv => ⟨hm, c v G' e dv⟩)
/-! # comprehensions with deeds -/
theorem sw_lc {g : TG} {wi : TI} {vs : List Nat} (C0 : List PyData → Hp → Mem → Prop) (h : IterW K W wi σ G M C0)
    (c : ∀ ds G1 M1, C0 ds G1 M1 → ∃ Pv : Nat → List V → Hp → Mem → Prop, Pv 0 [] G1 M1 ∧
      (∀ i d v acc Ga G' M' Dl, ds[i]? = some d → Ex G1 Ga → Pv i acc Ga M' → Ex Ga G' → Da K G' v d → W.H0 Dl = none →
        Gx W g v (wipe σ vs) G' ((Dl, .lst acc) :: M') fun σ2 => wipe σ2 vs = wipe σ vs ∧ Swt W tt σ2 G' ((Dl, .lst acc) :: M') fun b G2 M2 =>
          (b = true → Sw W te σ2 G2 M2 fun y G3 M3 => ∃ M4, M3 = (Dl, .lst acc) :: M4 ∧ acc.length < 100000 ∧ Ex Ga G3 ∧ Pv (i + 1) (acc ++ [y]) G3 M4) ∧
          (b = false → ∃ M4, M2 = (Dl, .lst acc) :: M4 ∧ Ex Ga G2 ∧ Pv (i + 1) acc G2 M4)) ∧
      ∀ acc G' M' p, Ex G1 G' → Pv ds.length acc G' M' → W.H0 p = none → C (.ref p) G' ((p, .lst acc) :: M')) : Sw W (tLc wi g tt te vs) σ G M C := fun H w Q q =>
  h H w _ fun J ds G1 M1 H1 w1 s hc Dl hD => by
    obtain ⟨Pv, h0, hs, hd⟩ := c ds G1 M1 hc
    have n0 := w1.new0 hD
    refine ⟨fun i m H3 => m = ds.length - i ∧ i ≤ ds.length ∧ ∃ G3 acc M3, World W G3 ((Dl, .lst acc) :: M3) H3 ∧ Ex G1 G3 ∧ Pv i acc G3 M3, ⟨ds.length, by simp, Nat.zero_le _, G1, [], M1, w1.new hD, Ex.refl G1, h0⟩, ?_⟩
    rintro i m H3 ⟨rfl, hi, Ga, acc, M', w', e, p⟩
    have ge := w'.gh
    by_cases hlt : i < ds.length
    · refine .inr ⟨s.go i H3 (e.trans ge) hlt, fun H4 => ∃ G4 acc4 M4, World W G4 ((Dl, .lst acc4) :: M4) H4 ∧ Ex Ga G4 ∧ Pv (i + 1) acc4 G4 M4, fun H4 ⟨G4, acc4, M4, w4, e4, p4⟩ => ⟨ds.length - (i + 1), by omega, rfl, hlt, G4, acc4, M4, w4, e.trans e4, p4⟩, fun x H4 y => ?_⟩
      obtain ⟨G', g3, dx⟩ := s.yld i ds[i] Ga H3 x H4 (List.getElem?_eq_getElem hlt) e ge y
      refine hs i ds[i] x acc Ga G' M' Dl (List.getElem?_eq_getElem hlt) e p g3.gg dx n0 H4 (w'.grow g3) _ fun σ2 ⟨hw, hb⟩ => ⟨hw, hb H4 (w'.grow g3) _ fun b G2 M2 H5 w5 hb2 => ?_⟩
      cases b with
      | true =>
        refine hb2.1 rfl H5 w5 _ fun y G3 M3 H6 w6 ⟨M4, e3, hl, e4, p4⟩ => ?_
        subst e3
        exact ⟨acc, w6.own Dl _ List.mem_cons_self, sz_lt hl, G3, acc ++ [y], M4, w6.set (k := 0) rfl, e4, p4⟩
      | false =>
        obtain ⟨M4, e3, e4, p4⟩ := hb2.2 rfl
        subst e3
        exact ⟨G2, acc, M4, w5, e4, p4⟩
    · have e0 : i = ds.length := by omega
      subst e0
      exact .inl ⟨s.stop _ H3 (e.trans ge) (Nat.le_refl _), q _ Ga _ H3 w' (hd acc Ga M' Dl e p n0)⟩
end
/-! # built-in names -/
theorem bt_len : bootBuiltins "len" = some (.builtin "len") := by decide +kernel
theorem bt_isinstance : bootBuiltins "isinstance" = some (.builtin "isinstance") := by decide +kernel
theorem bt_all : bootBuiltins "all" = some (.builtin "all") := by decide +kernel
theorem bt_any : bootBuiltins "any" = some (.builtin "any") := by decide +kernel
theorem bt_sum : bootBuiltins "sum" = some (.builtin "sum") := by decide +kernel
theorem bt_min : bootBuiltins "min" = some (.builtin "min") := by decide +kernel
theorem bt_max : bootBuiltins "max" = some (.builtin "max") := by decide +kernel
theorem bt_abs : bootBuiltins "abs" = some (.builtin "abs") := by decide +kernel
theorem bt_divmod : bootBuiltins "divmod" = some (.builtin "divmod") := by decide +kernel
theorem bt_sorted : bootBuiltins "sorted" = some (.builtin "sorted") := by decide +kernel
theorem bt_int : bootBuiltins "int" = some (.type "int") := by decide +kernel
theorem bt_bool : bootBuiltins "bool" = some (.type "bool") := by decide +kernel
theorem bt_str : bootBuiltins "str" = some (.type "str") := by decide +kernel
theorem bt_list : bootBuiltins "list" = some (.type "list") := by decide +kernel
theorem bt_tuple : bootBuiltins "tuple" = some (.type "tuple") := by decide +kernel
theorem bt_dict : bootBuiltins "dict" = some (.type "dict") := by decide +kernel
theorem bt_set : bootBuiltins "set" = some (.type "set") := by decide +kernel
theorem bt_ValueError : bootBuiltins "ValueError" = some (.type "ValueError") := by decide +kernel
/-! # the errors' classes -/
structure Er where
  TownError : Addr
  NoTown : Addr
  NoGate : Addr
  NoHour : Addr
  NoPass : Addr
  NoToll : Addr
  NoWord : Addr
  NoName : Addr
  Within : Addr
  Without : Addr
  NoCart : Addr
  Shut : Addr
  NothingLeft : Addr
  NoPages : Addr
  NoPage : Addr
  NoBook : Addr
  NoInns : Addr
  NoWay : Addr
  NoWalks : Addr
  NoRounds : Addr
  NoText : Addr
  NoRow : Addr
/-- raise X('..') -/
def tRaise (C : Addr) (E : XK) : TS := fun _ _ H => E (.ref C) none H
/-! # texts joined, sorted, places -/
def kJoin (K : PySem.W.Frag) : V → List V → Hp → VK → Prop := fun x xs H Q => ∃ a p, ∃ ys : List Str, x = .str a ∧ xs = [.ref p] ∧ (SqL K H p (ys.map V.str) ∨ SqT K H p (ys.map V.str)) ∧
      (ys.map (·.length)).sum + ys.length * a.length ≤ 16777216 ∧ Q (.str (Txt.join a ys)) H
def rSortedD : List V → Hp → VK → Prop := fun xs H Q => ∃ (a : Addr) (kvs : List (Key × V)) (ks : List Str), xs = [.ref a] ∧ Rd H a (.dK kvs) ∧ kvs.map (·.1) = ks.map Sum.inr ∧ ks.length < 64 ∧
    ∀ ys p, ys.Perm ks → PyProof.Rows.sortedS ys = true → H p = none → Q (.ref p) (upd H p (.lst (ys.map V.str)))
def kSorted (K : PySem.W.Frag) : List V → Hp → VK → Prop := fun xs H Q => rSortedD xs H Q ∨ rSortedS K xs H Q ∨ rSorted K xs H Q
theorem call_kSorted {X : Cx} (hc : X.calm = true) : CallR X (.builtin "sorted") (kSorted X.K) := (call_sortedD hc).or (cr_sortedS.or cr_sorted)
section
variable {K : PySem.W.Frag} {W : Ent} {D : Ends} {σ : L2.St} {G : Hp} {M : Mem} {te to : TE} {ta : TA} {ds : List PyData} {C : V → Hp → Mem → Prop}
theorem ev_join {a : Str} {ys : List Str} (ho : EvD K to σ G (.str a)) (he : EvD K te σ G (.list (ys.map .str))) (hl : (ys.map (·.length)).sum + ys.length * a.length ≤ 16777216) : EvD K (tM1 (kJoin K) to te) σ G (.str (Txt.join a ys)) := fun G1 H e e2 Q q =>
  ho G1 H e e2 _ fun v G2 H2 g2 d2 => ⟨⟨a, d2.str_eq⟩, he G2 H2 (e.trans g2.gg) g2.gh _ fun w G3 H3 g3 d3 => by
    cases d3 with
    | lst h r =>
      have er := r.strs
      subst er
      exact ⟨a, _, ys, d2.str_eq, rfl, .inl (SqL.of (g3.gh _ _ h)), hl, q _ G3 H3 (g2.trans g3) (.str _)⟩⟩
theorem ev_indexS {ss : List Str} {x : Str} {j : Nat} (ho : EvD K to σ G (.list (ss.map .str))) (ha : EvD K te σ G (.str x)) (hj : ss[j]? = some x) (h0 : ∀ m y, m < j → ss[m]? = some y → y ≠ x) : EvD K (tBM K "list" (rIndex K) to (tCons te tNil)) σ G (.int (j : Int)) := fun G1 H e e2 Q q =>
  ho G1 H e e2 _ fun v G2 H2 g2 d2 => by
    cases d2 with
    | lst h r =>
      have er := r.strs
      subst er
      refine ⟨.inl ⟨rfl, _, SqL.of (g2.gh _ _ h)⟩, ha G2 H2 (e.trans g2.gg) g2.gh _ fun w G3 H3 g3 d3 => ?_⟩
      have ew := d3.str_eq
      subst ew
      refine ⟨_, ss.map V.str, .str x, j, .str x, rfl, rfl, SqL.of (g3.gh _ _ (g3.gg _ _ h)), rfl, flat_strs ss, by rw [List.getElem?_map, hj]; rfl, by simp [eqV], fun m z hm hz => ?_, q _ G3 H3 (g2.trans g3) (.int _)⟩
      rw [List.getElem?_map] at hz
      cases e4 : ss[m]? with
      | none => rw [e4] at hz; cases hz
      | some y =>
        rw [e4] at hz
        cases hz
        have := h0 m y hm e4
        simp [eqV, this]
end
/-! # data: bounds, kinds -/
mutual
def sm : PyData → Bool
  | .str x => decide (x.length ≤ 100000)
  | .list xs => decide (xs.length ≤ 50000) && smL xs
  | .tuple xs => decide (xs.length ≤ 50000) && smL xs
  | .none | .bool _ | .int _ | .dict _ => true
def smL : List PyData → Bool
  | [] => true
  | x :: xs => sm x && smL xs
end
theorem smL_mem : ∀ {xs : List PyData} {x : PyData}, smL xs = true → x ∈ xs → sm x = true
  | [], _, _, h => nomatch h
  | y :: r, x, h, hm => by
    have h2 : (sm y && smL r) = true := h
    rw [Bool.and_eq_true] at h2
    rcases List.mem_cons.mp hm with e | e
    · rw [e]; exact h2.1
    · exact smL_mem h2.2 e
theorem smL_of : ∀ {xs : List PyData}, (∀ x ∈ xs, sm x = true) → smL xs = true
  | [], _ => rfl
  | y :: r, h => by
    show (sm y && smL r) = true
    rw [h y List.mem_cons_self, smL_of fun x hx => h x (List.mem_cons_of_mem _ hx)]; rfl
theorem sm_str {x : Str} (h : sm (.str x) = true) : x.length ≤ 100000 := of_decide_eq_true h
theorem sm_tup {ds : List PyData} (h : sm (.tuple ds) = true) : ds.length ≤ 50000 ∧ smL ds = true := by
  have h2 : (decide (ds.length ≤ 50000) && smL ds) = true := h
  rw [Bool.and_eq_true] at h2
  exact ⟨of_decide_eq_true h2.1, h2.2⟩
theorem sm_lst {ds : List PyData} (h : sm (.list ds) = true) : ds.length ≤ 50000 ∧ smL ds = true := by
  have h2 : (decide (ds.length ≤ 50000) && smL ds) = true := h
  rw [Bool.and_eq_true] at h2
  exact ⟨of_decide_eq_true h2.1, h2.2⟩
theorem sm_mkT {ds : List PyData} (h : ds.length ≤ 50000) (h2 : smL ds = true) : sm (.tuple ds) = true := by
  show (decide (ds.length ≤ 50000) && smL ds) = true
  rw [decide_eq_true h, h2]; rfl
theorem sm_mkL {ds : List PyData} (h : ds.length ≤ 50000) (h2 : smL ds = true) : sm (.list ds) = true := by
  show (decide (ds.length ≤ 50000) && smL ds) = true
  rw [decide_eq_true h, h2]; rfl
def isInt : PyData → Bool
  | .int _ => true
  | .bool _ => true
  | _ => false
def isBool : PyData → Bool
  | .bool _ => true
  | _ => false
def isStr : PyData → Bool
  | .str _ => true
  | _ => false
def isTup : PyData → Bool
  | .tuple _ => true
  | _ => false
def isLst : PyData → Bool
  | .list _ => true
  | _ => false
def intOf : PyData → Int
  | .int i => i
  | _ => 0
def strOf : PyData → Str
  | .str x => x
  | _ => Str.empty
def itemsOf : PyData → List PyData
  | .tuple ds => ds
  | .list ds => ds
  | _ => []
section
variable {K : PySem.W.Frag} {σ : L2.St} {G : Hp} {ta : TE} {a : PyData}
def noDict : PyData → Bool
  | .dict _ => false
  | _ => true
theorem Da.nod {H : Hp} {v : V} {d : PyData} (h : Da K H v d) : noDict d = true := by cases h <;> rfl
theorem kit_int : ∀ a : PyData, noDict a = true → kitB (tyOfD a) "int" = some (isInt a)
  | .none, _ => by decide +kernel
  | .bool _, _ => (by decide +kernel : kitB "bool" "int" = some true)
  | .int _, _ => (by decide +kernel : kitB "int" "int" = some true)
  | .str _, _ => (by decide +kernel : kitB "str" "int" = some false)
  | .list _, _ => (by decide +kernel : kitB "list" "int" = some false)
  | .tuple _, _ => (by decide +kernel : kitB "tuple" "int" = some false)
theorem kit_bool : ∀ a : PyData, noDict a = true → kitB (tyOfD a) "bool" = some (isBool a)
  | .none, _ => by decide +kernel
  | .bool _, _ => (by decide +kernel : kitB "bool" "bool" = some true)
  | .int _, _ => (by decide +kernel : kitB "int" "bool" = some false)
  | .str _, _ => (by decide +kernel : kitB "str" "bool" = some false)
  | .list _, _ => (by decide +kernel : kitB "list" "bool" = some false)
  | .tuple _, _ => (by decide +kernel : kitB "tuple" "bool" = some false)
theorem kit_str : ∀ a : PyData, noDict a = true → kitB (tyOfD a) "str" = some (isStr a)
  | .none, _ => by decide +kernel
  | .bool _, _ => (by decide +kernel : kitB "bool" "str" = some false)
  | .int _, _ => (by decide +kernel : kitB "int" "str" = some false)
  | .str _, _ => (by decide +kernel : kitB "str" "str" = some true)
  | .list _, _ => (by decide +kernel : kitB "list" "str" = some false)
  | .tuple _, _ => (by decide +kernel : kitB "tuple" "str" = some false)
theorem kit_tuple : ∀ a : PyData, noDict a = true → kitB (tyOfD a) "tuple" = some (isTup a)
  | .none, _ => by decide +kernel
  | .bool _, _ => (by decide +kernel : kitB "bool" "tuple" = some false)
  | .int _, _ => (by decide +kernel : kitB "int" "tuple" = some false)
  | .str _, _ => (by decide +kernel : kitB "str" "tuple" = some false)
  | .list _, _ => (by decide +kernel : kitB "list" "tuple" = some false)
  | .tuple _, _ => (by decide +kernel : kitB "tuple" "tuple" = some true)
theorem kit_list : ∀ a : PyData, noDict a = true → kitB (tyOfD a) "list" = some (isLst a)
  | .none, _ => by decide +kernel
  | .bool _, _ => (by decide +kernel : kitB "bool" "list" = some false)
  | .int _, _ => (by decide +kernel : kitB "int" "list" = some false)
  | .str _, _ => (by decide +kernel : kitB "str" "list" = some false)
  | .list _, _ => (by decide +kernel : kitB "list" "list" = some true)
  | .tuple _, _ => (by decide +kernel : kitB "tuple" "list" = some false)
/-- isinstance of anything -/
theorem ev_isiG {T : String} {f : PyData → Bool} (hk : ∀ a : PyData, noDict a = true → kitB (tyOfD a) T = some (f a)) (h : EvD K ta σ G a) : EvD K (tIsi K ta T) σ G (.bool (f a)) := fun G1 H x y Q q =>
  h G1 H x y _ fun v G2 H2 g2 d2 => ⟨v, .ty T, _, _, f a, rfl, .ty T, (d2.mono g2.gh).tyx, kit_ty (hk a d2.nod), q _ G2 H2 g2 (.bl _)⟩
theorem ev_isiI (h : EvD K ta σ G a) : EvD K (tIsi K ta "int") σ G (.bool (isInt a)) := ev_isiG kit_int h
theorem ev_isiB (h : EvD K ta σ G a) : EvD K (tIsi K ta "bool") σ G (.bool (isBool a)) := ev_isiG kit_bool h
theorem ev_isiS (h : EvD K ta σ G a) : EvD K (tIsi K ta "str") σ G (.bool (isStr a)) := ev_isiG kit_str h
theorem ev_isiT (h : EvD K ta σ G a) : EvD K (tIsi K ta "tuple") σ G (.bool (isTup a)) := ev_isiG kit_tuple h
theorem ev_isiL (h : EvD K ta σ G a) : EvD K (tIsi K ta "list") σ G (.bool (isLst a)) := ev_isiG kit_list h
end
/-! # defs that may raise -/
inductive Res where
  | ok (d : PyData)
  | err (C : Addr)
  | errP (C : Addr) (n : Int)
def spX (K : PySem.W.Frag) (R : List PyData → Res → Prop) : Sp := fun vs H Q E => ∃ G ds r, Ex G H ∧ DaL K G vs ds ∧ R ds r ∧ match r with
  | .ok d => ∀ v G' H', Grow [] G H G' H' → Da K G' v d → Q v H'
  | .err C => ∀ H', Ex H H' → E (.ref C) none H'
  | .errP C n => ∀ H' p, Ex H H' → H' p = some (.xd [("place", .int n)]) → H p = none → E (.ref C) (some p) H'
section
variable {K : PySem.W.Frag} {W : Ent} {D : Ends} {σ : L2.St} {G : Hp} {M : Mem} {te : TE} {t tz : TS} {ta : TA} {d : PyData} {ds : List PyData} {R : List PyData → Res → Prop} {E : XK} {C : V → Hp → Mem → Prop} {i : Nat}
theorem ev_callX (h : EvA K ta σ G ds) (hr : R ds (.ok d)) : EvD K (tCall (spX K R) [] E ta) σ G d := fun G1 H e e2 Q q =>
  h G1 H e e2 _ fun vs G2 H2 g2 d2 => by
    rw [List.append_nil]
    exact ⟨G2, ds, .ok d, g2.gh, d2, hr, fun v G' H' g dv => q v G' H' (g2.trans g) dv⟩
/-- a call that raises: what follows is never reached -/
theorem sw_fail {Cl : Addr} (h : EvA K ta σ G ds) (hr : R ds (.err Cl)) (he : ∀ H', World W G M H' → E (.ref Cl) none H') : Sw W (tCall (spX K R) [] E ta) σ G M C := fun H w Q q =>
  h G H (Ex.refl G) w.gh _ fun vs G2 H2 g2 d2 => by
    rw [List.append_nil]
    exact ⟨G2, ds, .err Cl, g2.gh, d2, hr, fun H' e => he H' (w.ext (g2.hh.trans e))⟩
theorem purX_in {N : List Str} {T : XK → TS} (h : ∀ vs ds r (W : Ent) G D E, DaL K G vs ds → R ds r → (∀ d, r = .ok d → Ret W D (fun v G' _ => Da K G' v d)) → (r = .ok .none → ∀ σ G' M', Nx W D σ G' M') → (∀ Cl, r = .err Cl → ∀ G' M' H', World W G' M' H' → E (.ref Cl) none H') → Sx W (T E) D (L2.start N vs) G []) :
    ∀ vs H Q E, spX K R vs H Q E → T E { nx := fun _ H' => Q .non H', rt := Q } (L2.start N vs) H := fun vs H Q E ⟨G, ds, r, e, da, hr, q⟩ => by
  refine h vs ds r ⟨G, H, []⟩ G _ E da hr (fun d hd v G' M' H' w dv => ?_) (fun hd σ G' M' H' w => ?_) (fun Cl hc G' M' H' w => ?_) H (world0 e)
  · subst hd; exact q v G' H' w.gr dv
  · subst hd; exact q .non G' H' w.gr .non
  · subst hc; exact q H' w.gr.hh
theorem spX_len {n : Nat} (h : ∀ ds r, R ds r → ds.length = n) : ∀ vs H Q E, spX K R vs H Q E → vs.length = n := fun vs H Q E ⟨G, ds, r, e, da, hr, q⟩ => by rw [da.len]; exact h ds r hr
/-- statements that call such defs -/
theorem q_dropX {x : Res} (h : EvA K ta σ G ds) (hr : R ds x) (h1 : ∀ d, x = .ok d → Sx W tz D σ G M) (h2 : ∀ Cl, x = .err Cl → ∀ H', World W G M H' → E (.ref Cl) none H') (h3 : ∀ Cl n, x ≠ .errP Cl n) : Sx W (tSeq (tDrop (tCall (spX K R) [] E ta)) tz) D σ G M := by
  cases x with
  | ok d => exact q_drop (ev_callX h hr) (h1 d rfl)
  | err Cl => exact q_dropW (sw_fail h hr (h2 Cl rfl))
  | errP Cl n => exact absurd rfl (h3 Cl n)
theorem q_asgX {x : Res} (h : EvA K ta σ G ds) (hr : R ds x) (h1 : ∀ d, x = .ok d → ∀ v G', Ex G G' → Da K G' v d → Sx W tz D (σ.set i (some v)) G' M) (h2 : ∀ Cl, x = .err Cl → ∀ H', World W G M H' → E (.ref Cl) none H') (h3 : ∀ Cl n, x ≠ .errP Cl n) : Sx W (tSeq (tAsg (tCall (spX K R) [] E ta) (gName i)) tz) D σ G M := by
  cases x with
  | ok d => exact q_asg (ev_callX h hr) (h1 d rfl)
  | err Cl => exact q_asgW (sw_fail h hr (h2 Cl rfl))
  | errP Cl n => exact absurd rfl (h3 Cl n)
theorem sx_raise {Cl : Addr} (he : ∀ H', World W G M H' → E (.ref Cl) none H') : Sx W (tRaise Cl E) D σ G M := fun H w => he H w
/-! # more about lists, by data -/
theorem ra_allF {α : Type} {xs : List α} {f : α → Bool} : RDA K (rAll K) G [.list (xs.map fun a => .bool (f a))] (.bool (xs.all f)) := by
  have q := ra_all (K := K) (G := G) (bs := xs.map f)
  rw [List.map_map, List.all_map] at q
  exact q
theorem ra_anyF {α : Type} {xs : List α} {f : α → Bool} : RDA K (rAny K) G [.list (xs.map fun a => .bool (f a))] (.bool (xs.any f)) := by
  have q := ra_any (K := K) (G := G) (bs := xs.map f)
  rw [List.map_map, List.any_map] at q
  exact q
theorem atI_getD {n : Nat} (h : n < ds.length) : atI ds (n : Int) = some (ds.getD n .none) := by
  refine atI_nat ?_
  rw [List.getD_eq_getElem?_getD, List.getElem?_eq_getElem h]; rfl
theorem rd_ixTg {n : Nat} (h : n < ds.length) : RD2 K (rIx K) G (.tuple ds) (.int (n : Int)) (ds.getD n .none) := rd_ixT (atI_getD h)
theorem rd_ixLg {n : Nat} (h : n < ds.length) : RD2 K (rIx K) G (.list ds) (.int (n : Int)) (ds.getD n .none) := rd_ixL (atI_getD h)
theorem cutG_from {α : Type} (xs : List α) (n : Nat) : cutG xs (some (n : Int)) none = xs.drop n := by
  unfold cutG
  rw [HT.sIx_nat, HT.sIx_none]
  by_cases h : n ≤ xs.length
  · rw [Nat.min_eq_left h, List.take_of_length_le (by rw [List.length_drop]; exact Nat.le_refl _)]
  · rw [Nat.min_eq_right (by omega), List.drop_of_length_le (Nat.le_refl _), List.drop_of_length_le (by omega), List.take_nil]
theorem cutG_to {α : Type} (xs : List α) (n : Nat) : cutG xs none (some (n : Int)) = xs.take n := by
  unfold cutG
  rw [HT.sIx_nat, HT.sIx_none, List.drop_zero, Nat.sub_zero]
  by_cases h : n ≤ xs.length
  · rw [Nat.min_eq_left h]
  · rw [Nat.min_eq_right (by omega), List.take_of_length_le (Nat.le_refl _), List.take_of_length_le (by omega)]
theorem sw_is {te' : TE} (h : Sw W te σ G M C) (e : te = te') : Sw W te' σ G M C := e ▸ h
/-- a, b = e -/
theorem sx_asgG {g : TG} (h : Sw W te σ G M fun v G' M' => Gx W g v σ G' M' fun σ' => Nx W D σ' G' M') : Sx W (tAsg te g) D σ G M := fun H w =>
  h H w _ fun v G' M' H' w' c => c H' w' _ fun σ' n => n H' w'
theorem q_asgG {g : TG} (h : Sw W te σ G M fun v G' M' => Gx W g v σ G' M' fun σ' => Sx W tz D σ' G' M') : Sx W (tSeq (tAsg te g) tz) D σ G M := sx_asgG (D := { D with nx := tz D }) h
end
/-! # a def called within an except suite, the caught error pinned at p -/
structure FnE (P : Program) (w : PySem.World) (K : PySem.W.Frag) (mg : Str → Option Value) (base : Heap) (k : Nat) (f : Addr) (fd : FuncData) (ps : List Str) (sp : Addr → Value → Option Addr → Sp) : Prop where
  len : ∀ a cls d vs H Q E, sp a cls d vs H Q E → vs.length = ps.length
  run : ∀ (p : Addr × Obj) (cls : Value) (d : Option Addr) (A : Around) (outer : List Env) (s : Shared) (H : Hp) (args : Args) (us : List Value) (vs : List V) (Q : VK) (E : XK), Zc cls d p.2 → (∃ vs, p.2.data = .fields vs) → L2H.RoomH k A → L2H.PinOk outer H s p → Env0 P w K mg base A outer s H → BindsTo s fd args (ps.zip us) → Vals vs us → sp p.1 cls d vs H Q E →
    codeAny (model P w) A (.call (.ref f) args) (CR CX0 outer P w H s Q E) s
theorem Fun.okE {P : Program} {w : PySem.World} {K : PySem.W.Frag} {mg : Str → Option Value} {base : Heap} {x qual : Str} {st : Stmt} {f : Addr} {fd : FuncData} {N ps : List Str} {k : Nat} {sp : Addr → Value → Option Addr → Sp} (F : Fun K x qual st f fd) (S : FnScope N ps (defScope st)) (ln : ∀ a cls d vs H Q E, sp a cls d vs H Q E → vs.length = ps.length)
    (body : ∀ (cdv : Value) (A : Around) (outer : List Env) (s : Shared) (H : Hp) (vs : List V) (Q : VK) (E : XK) (p : Addr × Obj) (cls : Value) (d : Option Addr), Zc cls d p.2 → (∃ vs, p.2.data = .fields vs) → sp p.1 cls d vs H Q E →
      ∃ t, PSs (L2H.cxH CX0 P w K mg base N qual (defScope st) f cdv A outer s H E p) (defBody st) t ∧ t { nx := fun _ H' => Q .non H', rt := Q } (L2.start N vs) H) : FnE P w K mg base (k + 1) f fd ps sp := by
  obtain ⟨oc, od, kV, doc, pm, an, cdv, ct, osl, rfl, lk, hcd⟩ := F.ex
  refine ⟨ln, fun p cls d A outer s H args us vs Q E hz hf hr hpin e0 hb r hsp => ?_⟩
  have KI : K.In s.heap := e0.mod.kin.keeps (fun b o z => (e0.bs b o z).1)
  have lm : s.heap.NoLimit := e0.mod.nolimit.keeps (fun b o z => (e0.bs b o z).1)
  refine codeAny_call_function (hr.depth) (KI _ _ lk) rfl S.co S.gen rfl (PySem.W.codeRec_of KI hcd) (hb _ _ _ _ (wpAny_newFunctionEnv_cells S.kind (fun ⟨n, v⟩ hy => (S.par n (List.of_mem_zip hy).1).elim (fun q => .inl q) (fun q => .inr ⟨q, PySem.W.cellsFrom_some _ _ _ (.inl q)⟩)) fun env he s1 z => ?_))
  cases he
  refine ⟨lm.keeps z.toInCall.keep, codeAny_func ?_⟩
  obtain ⟨t, ht, hq⟩ := body cdv A outer s H vs Q E p cls d hz hf hsp
  have J0 := L2H.inv_startH (CX := CX0) (E := E) S hpin e0 (ln _ _ _ _ _ _ _ hsp) r z
  refine wpAny_mono (ht.run [] s1 (L2.start N vs) H _ J0 hq) (fun fl s' hs => ?_) (fun e s' hs => hs)
  cases fl with
  | ret u => obtain ⟨v, σ', H', J, rv, q⟩ := hs; exact ⟨v, H', J.os, J.bare, J.base, J.hok, rv, q⟩
  | next => obtain ⟨σ', H', J, q⟩ := hs; exact ⟨.non, H', J.os, J.bare, J.base, J.hok, rfl, q⟩
  | brk => obtain ⟨_, _, _, q⟩ := hs; exact q.elim
  | cont => obtain ⟨_, _, _, q⟩ := hs; exact q.elim
/-- f(e, ..) in the suite that holds the error p -/
theorem pe_callE {X : Cx} {k : Nat} {f : Addr} {fd : FuncData} {ps : List Str} {sp : Addr → Value → Option Addr → Sp} {x : Str} {q pos : Pos} {e : Expr} {es : List Expr} {t : TA} {p : Addr × Obj} {cls : Value} {d : Option Addr} (hz : Zc cls d p.2) (hf : ∃ vs, p.2.data = .fields vs) (F : FnE X.prog X.w X.K X.mg X.base k f fd ps sp) (hr : L2H.RoomH k X.A) (hp : p ∈ X.pn) (hg : Gl X x) (hm : X.mg x = some (.ref f))
    (hk : PySem.W.keepIn X.K (.ref f) = true) (hb : Binds X.K fd ps []) (ha : PA X (e :: es) t) (hdb : (x == ("__debug__" : Str)) = false := by decide)
    (he : starEach (e :: es) X.env = (false, eval e X.env) :: starEach es X.env := by rfl) (hpl : (backTo pos (starEach es X.env)).any (·.1) = false := by rfl) : PE X (.Call (.Name x q) (e :: es) [] pos) (tCallS (sp p.1 cls d) (fun _ => E0) t) := by
  refine ⟨fun pins s σ H Q I h => wpAny_Call_Name_kw (ld_glob I hg hm ?_ hdb)⟩
  refine PySem.W.callWith_K (h₀ := X.base) I.ok.mod.kin hk (thn (ha.run pos pins s σ H _ I h) fun us s1 ⟨vs, H1, I1, r, hs⟩ => ⟨I1.kIn, ?_⟩) he hpl
  have hl : us.length = ps.length := by rw [← r.length]; exact F.len _ _ _ _ _ _ _ hs
  have b := hb s1 us I1.kIn (by rw [List.append_nil]; exact hl)
  rw [List.append_nil] at b
  have P1 := I1.pin p (List.mem_append_left _ hp)
  have po : L2H.PinOk X.stack H1 s1 p := ⟨P1.1, P1.2.1, fun z => (List.mem_cons.mp (I1.stkSub p.1 z)).elim P1.2.2.1 P1.2.2.2.1, P1.2.2.2.2⟩
  refine wpAny_call (codeAny_mono (F.run p cls d X.A X.stack s1 H1 ⟨us, []⟩ us vs Q E0 hz hf hr po I1.env0 b r hs) fun rr s' hq => ?_)
  cases rr with
  | error e => exact hq.elim
  | ok fl =>
    cases fl with
    | ret u => exact I1.after hq
    | next => exact False.elim hq
    | brk => exact False.elim hq
    | cont => exact False.elim hq
/-! # what is told of an error's class -/
/-- D's chain of classes: itself, TownError at T, ValueError .. -/
structure ErrC (K : PySem.W.Frag) (T D : Addr) : Prop where
  ex : ExcC K D
  mro : (PySem.W.clsIn K D).map (·.mro) = some [.ref D, .ref T, .type "ValueError", .type "Exception", .type "BaseException", .type "object"]
  ty : PySem.W.typeIn K (.ref D) = some (.type "type")
theorem sub_mro {K : PySem.W.Frag} {D : Addr} {l : List Value} {b : Value} (h : (PySem.W.clsIn K D).map (·.mro) = some l) (hl : l.isEmpty = false) : PySem.W.subIn K (.ref D) b = some (l.contains b) := by
  obtain ⟨cd, h1, h2⟩ := Option.map_eq_some_iff.mp h
  show (PySem.W.clsIn K D).bind _ = _
  rw [h1, Option.bind_some]
  subst h2
  rw [if_neg (by rw [hl]; decide)]
/-- a class that is asked of -/
structure AskC (K : PySem.W.Frag) (T C : Addr) : Prop where
  is : PySem.W.isClsIn K C = true
  ty : PySem.W.typeIn K (.ref C) = some (.type "type")
  ne : C ≠ T
theorem kit_err {K : PySem.W.Frag} {T D C : Addr} (d : ErrC K T D) (c : AskC K T C) : PySem.W.kitOne K (.ref D) (.ref C) = some (decide (D = C)) := by
  have hc : (PySem.W.clsIn K C).isSome = true := c.is
  unfold PySem.W.kitOne
  by_cases e : D = C
  · subst e; rw [if_pos (by simp)]; simp
  · rw [if_neg (by simpa using e)]
    show (if ((PySem.W.clsIn K C).isSome && PySem.W.typeIn K (.ref C) == some (.type "type")) = true then PySem.W.subIn K (.ref D) (.ref C) else none) = _
    rw [if_pos (by rw [hc, c.ty]; rfl), sub_mro d.mro rfl]
    have e1 : (Value.ref C == Value.ref D) = false := by simpa using fun z => e z.symm
    have e2 : (Value.ref C == Value.ref T) = false := by simpa using c.ne
    have e3 : ∀ s : String, (Value.ref C == Value.type s) = false := fun s => by simp
    simp only [List.contains_cons, List.contains_nil, e1, e2, e3, Bool.or_false, decide_eq_false e]
theorem kit_VE {K : PySem.W.Frag} {T D : Addr} (d : ErrC K T D) : PySem.W.kitOne K (.ref D) (.type "ValueError") = some true := by
  unfold PySem.W.kitOne
  rw [if_neg (by simp)]
  show (if PySem.W.kitMeta "ValueError" = true then PySem.W.subIn K (.ref D) (.type "ValueError") else none) = _
  rw [if_pos (by decide +kernel), sub_mro d.mro rfl]
  rfl
theorem exm_town {K : PySem.W.Frag} {T D : Addr} (d : ErrC K T D) (h1 : PySem.W.subIn K (.ref T) (.type "BaseException") = some true) (hd : PySem.W.hasDictIn K T = true) (ht : PySem.W.typeIn K (.ref T) = some (.type "type")) : PySem.W.exmOne K (.ref D) (.ref T) = some true :=
  PySem.W.exm_ref h1 hd ht (by rw [sub_mro d.mro rfl]; simp)
/-- isinstance(e, c) where the error e is pinned -/
theorem call_isP {X : Cx} {a D : Addr} {oe : Obj} (C : ExcC X.K D) (hp : (a, oe) ∈ X.pn) (hz : Zc (.ref D) none oe) (hf : ∃ vs, oe.data = .fields vs) : CallR X (.builtin "isinstance") (rIsE X.K D a) := by
  rintro pins s σ H xs us Q I r ⟨c, cv, b, rfl, hcv, e, q⟩
  obtain ⟨u1, u2, rfl, r1, r2⟩ := vals2 r
  cases r1
  cases hcv _ r2
  have hget := (I.pin (a, oe) (List.mem_append_left _ hp)).1
  obtain ⟨vs, hv⟩ := hf
  obtain ⟨oc, od, oda, osl⟩ := oe
  obtain ⟨z1, z2⟩ := hz
  dsimp only at z1 z2 hv
  subst z1 z2 hv
  exact PySem.W.kia_one (PySem.W.handS_kitx_exc C.hg C.hk C.hs C.hd C.ha C.hn C.ht C.hm) I.kIn (show PySem.W.InstAt s.heap a _ D none from ⟨hget, rfl, rfl, trivial⟩) e (fun z => nomatch z) fun tk => ⟨.bl b, H, I.kept (t' := tk) fun _ _ z => z, rfl, q⟩
/-- try: .. except c as n: .. -/
def tTryAs (K : PySem.W.Frag) (c : Value) (i : Nat) (tb : WX → TS) (ts : Addr → Value → Option Addr → TS) (Wout : WX) : TS := fun D σ H => tb (wAs K c i ts Wout D) D σ H
/-- the classes that _law_kinds asks of, in its order -/
def Er.kinds (Z : Er) : List Addr := [Z.NoTown, Z.NoGate, Z.NoHour, Z.NoPass, Z.NoToll, Z.NoWord, Z.NoName, Z.Within, Z.Without, Z.NoCart, Z.Shut, Z.NothingLeft, Z.NoPages, Z.NoPage, Z.NoBook, Z.NoInns, Z.NoWay, Z.NoWalks, Z.NoRounds, Z.NoText, Z.NoRow]
structure EF (K : PySem.W.Frag) (Z : Er) (rs : List Addr) : Prop where
  ask : ∀ C ∈ Z.kinds, AskC K Z.TownError C
  err : ∀ C ∈ rs, ErrC K Z.TownError C
  nd : Z.kinds.Nodup
  tb : PySem.W.subIn K (.ref Z.TownError) (.type "BaseException") = some true
  td : PySem.W.hasDictIn K Z.TownError = true
  tt : PySem.W.typeIn K (.ref Z.TownError) = some (.type "type")
theorem mro_of {K : PySem.W.Frag} {C N : Addr} {nm q : Str} {bs bm : List Value} {hx : Bool} {sn : List Str} {sub : List Value} {ab : Bool} {col : Option Bool} {dd : Option Addr} {m0 m1 m2 m3 m5 : Option Value} {nid : String} (h : K.lookup C = some (excClassObj nm q C N bs bm hx sn sub ab col dd m0 m1 m2 m3 m5 nid)) : (PySem.W.clsIn K C).map (·.mro) = some (.ref C :: bm) := by
  unfold PySem.W.clsIn
  rw [h]
  rfl
theorem ask_all {K : PySem.W.Frag} {T : Addr} {l : List Addr} (h1 : ∀ C ∈ l, PySem.W.isClsIn K C = true) (h2 : ∀ C ∈ l, PySem.W.typeIn K (.ref C) = some (.type "type")) (h3 : T ∉ l) : ∀ C ∈ l, AskC K T C := fun C h => ⟨h1 C h, h2 C h, fun e => h3 (e ▸ h)⟩
theorem all_nil {P : Addr → Prop} : ∀ C ∈ ([] : List Addr), P C := fun _ h => nomatch h
theorem all_cons {P : Addr → Prop} {c : Addr} {l : List Addr} (h : P c) (k : ∀ C ∈ l, P C) : ∀ C ∈ c :: l, P C := fun C hC => (List.mem_cons.mp hC).elim (fun e => e ▸ h) (k C)
section
variable {K : PySem.W.Frag} {W : Ent} {D : Ends} {σ : L2.St} {G : Hp} {M : Mem} {te ti : TE} {t tz : TS} {ta : TA} {d : PyData} {ds : List PyData} {E : XK} {C : V → Hp → Mem → Prop} {i : Nat} {p : Addr}
/-! # defs that hand back a new list which the caller may write -/
def spO (K : PySem.W.Frag) (Pre : List PyData → Prop) (Post : List PyData → List V → Hp → Prop) : Sp := fun vs H Q _ => ∃ G ds, Ex G H ∧ DaL K G vs ds ∧ Pre ds ∧
  ∀ p xs G' H', Grow [] G H G' H' → H p = none → G' p = none → H' p = some (.lst xs) → Post ds xs G' → Q (.ref p) H'
theorem spO_len {Pre : List PyData → Prop} {Post : List PyData → List V → Hp → Prop} {n : Nat} (h : ∀ ds, Pre ds → ds.length = n) : ∀ vs H Q E, spO K Pre Post vs H Q E → vs.length = n := fun vs H Q E ⟨G, ds, e, da, hp, q⟩ => by rw [da.len]; exact h ds hp
theorem World.newEx {G' H H' : Hp} {o : HO} (w : World W G M H) (g : Grow [] G H G' H') (n : H p = none) (n2 : G' p = none) (h : H' p = some o) : World W G' ((p, o) :: M) H' := by
  have w1 := w.grow g
  refine ⟨w1.gr, fun q u hq => ?_, fun q u hq => ?_, ?_, fun q u hq => ?_⟩
  · rcases List.mem_cons.mp hq with e | e
    · cases e; exact h
    · exact w1.own q u e
  · rcases List.mem_cons.mp hq with e | e
    · cases e; exact n2
    · exact w1.sep q u e
  · rw [List.map_cons, List.nodup_cons]
    refine ⟨fun z => ?_, w.nd⟩
    obtain ⟨⟨q, u⟩, hq, e⟩ := List.mem_map.mp z
    have e : q = p := e
    subst e
    rw [w.own q u hq] at n; cases n
  · rcases List.mem_cons.mp hq with e | e
    · cases e; exact .inr (w.new0 n)
    · exact w.fm q u e
/-- less is settled than might be -/
theorem World.less {G' H H' : Hp} {M' : Mem} (w' : World W G' M' H') (e : Ex G G') (w : World W G M H) : World W G M' H' :=
  ⟨⟨w.gr.gg, e.trans w'.gh, w'.gr.fr, w.gr.fg, w'.gr.dm⟩, w'.own, fun q u hq => fresh_back e (w'.sep q u hq), w'.nd, w'.fm⟩
theorem sw_callO {Pre : List PyData → Prop} {Post : List PyData → List V → Hp → Prop} (ha : EvA K ta σ G ds) (hp : Pre ds) (c : ∀ p xs G', Ex G G' → W.H0 p = none → Post ds xs G' → C (.ref p) G' ((p, .lst xs) :: M)) : Sw W (tCall (spO K Pre Post) [] E ta) σ G M C := fun H w Q q =>
  ha G H (Ex.refl G) w.gh _ fun vs G1 H1 g1 d1 => by
    rw [List.append_nil]
    have w1 := w.grow g1
    refine ⟨G1, ds, w1.gh, d1, hp, fun p xs G' H' g n n2 h po => ?_⟩
    exact q _ G' _ H' (w1.newEx g n n2 h) (c p xs G' (g1.gg.trans g.gg) (w1.new0 n) po)
theorem own_in {Pre : List PyData → Prop} {Post : List PyData → List V → Hp → Prop} {N : List Str} (h : ∀ vs ds (W : Ent) G D, DaL K G vs ds → Pre ds → Ret W D (fun v G' M' => ∃ p xs, v = .ref p ∧ W.H0 p = none ∧ (p, HO.lst xs) ∈ M' ∧ Post ds xs G') → Sx W t D (L2.start N vs) G []) :
    ∀ vs H Q E, spO K Pre Post vs H Q E → t { nx := fun _ H' => Q .non H', rt := Q } (L2.start N vs) H := fun vs H Q E ⟨G, ds, e, da, hp, q⟩ =>
  h vs ds ⟨G, H, []⟩ G _ da hp (fun v G' M' H' w ⟨p, xs, ev, n0, hm, po⟩ => by subst ev; exact q p xs G' H' w.gr n0 (w.sep p _ hm) (w.own p _ hm) po) H (world0 e)
/-- xs[i] = e, the list owned -/
theorem sx_setM (k : Nat) (ho : σ[i]? = some (some (.ref p))) (h : Sw W te σ G M fun v G' M' => ∃ xs n j, M'[k]? = some (p, .lst xs) ∧ EvD K ti σ G' (.int n) ∧ ixN xs.length n = some j ∧ Nx W D σ G' (M'.set k (p, .lst (xs.set j v)))) : Sx W (tAsg te (gSub (tVar i) ti rSetL)) D σ G M := fun H w =>
  h H w _ fun v G' M' H' w' ⟨xs, n, j, hm, hi, hj, c⟩ => ⟨.ref p, ho, hi G' H' (Ex.refl G') w'.gh _ fun u G2 H2 g2 d2 => ⟨p, xs, n, j, rfl, d2.int_eq, (w'.ext g2.hh).own p _ (List.mem_of_getElem? hm), hj, c _ ((w'.ext g2.hh).set hm)⟩⟩
theorem q_setM (k : Nat) (ho : σ[i]? = some (some (.ref p))) (h : Sw W te σ G M fun v G' M' => ∃ xs n j, M'[k]? = some (p, .lst xs) ∧ EvD K ti σ G' (.int n) ∧ ixN xs.length n = some j ∧ Sx W tz D σ G' (M'.set k (p, .lst (xs.set j v)))) : Sx W (tSeq (tAsg te (gSub (tVar i) ti rSetL)) tz) D σ G M := sx_setM (D := { D with nx := tz D }) k ho h
/-! # dicts that may be written -/
theorem q_dict (c : ∀ p, W.H0 p = none → Sx W tz D (σ.set i (some (.ref p))) G ((p, .dK []) :: M)) : Sx W (tSeq (tAsg tDNewK (gName i)) tz) D σ G M := fun H w => fun p hp => c p (w.new0 hp) _ (w.new hp)
/-- d[k] = e, a text for a key, in a turn of a loop; e plain, the key reckoned with deeds -/
theorem sx_dput {tk tv : TE} {kvs : List (Key × V)} {v : V} (hv : ∀ H, tv σ H = fun Q => Q v H) (k : Nat) (ho : σ[i]? = some (some (.ref p))) (hm0 : ∃ o, (p, HO.dK o) ∈ M) (h : Sw W tk σ G M fun x G' M' => ∃ key kvs, x = .str key ∧ M'[k]? = some (p, .dK kvs) ∧ kvs.length < 100000 ∧ Nx W D σ G' (M'.set k (p, .dK (putK kvs (Sum.inr key) v)))) : Sx W (sDPut (tVar i) tk tv) D σ G M := fun H w => by
  show tv σ H _
  rw [hv H]
  refine ⟨.ref p, ho, h H w _ fun x G' M' H' w' ⟨key, kvs, ex, hm, hl, c⟩ => ?_⟩
  subst ex
  exact ⟨p, _, rfl, DPut.k (k := Sum.inr key) (w'.own p _ (List.mem_of_getElem? hm)) (sz_lt hl), c _ (w'.set hm)⟩
end
/-! # texts in order -/
theorem ltCps_eq : ∀ a b : List Nat, PySem.Spec.ltCps a b = decide (a < b)
  | [], [] => rfl
  | [], _ :: _ => rfl
  | _ :: _, [] => rfl
  | a :: r, b :: t => by
    show (decide (a < b) || (a == b && PySem.Spec.ltCps r t)) = decide (a :: r < b :: t)
    rw [ltCps_eq r t, Bool.eq_iff_iff]
    simp only [Bool.or_eq_true, Bool.and_eq_true, decide_eq_true_eq, beq_iff_eq, List.cons_lt_cons_iff]
theorem Str.of_toList {x y : Str} (h : x.cps.toList = y.cps.toList) : x = y := by
  obtain ⟨⟨a⟩⟩ := x
  obtain ⟨⟨b⟩⟩ := y
  cases h; rfl
abbrev ltS (x y : Str) : Bool := decide (x.cps.toList < y.cps.toList)
def risesS (ss : List Str) : Bool := (ss.zip (ss.drop 1)).all fun p => ltS p.1 p.2
theorem rises_cons (x y : Str) (r : List Str) : risesS (x :: y :: r) = (ltS x y && risesS (y :: r)) := rfl
theorem rises_of_sorted : ∀ {ss : List Str}, PyProof.Rows.sortedS ss = true → ss.Nodup → risesS ss = true
  | [], _, _ => rfl
  | [_], _, _ => rfl
  | x :: y :: r, h, hn => by
    have h2 : (!PySem.Spec.ltCps y.cps.toList x.cps.toList && PyProof.Rows.risingS y r) = true := h
    rw [Bool.and_eq_true, Bool.not_eq_true', ltCps_eq, decide_eq_false_iff_not] at h2
    rw [rises_cons, Bool.and_eq_true]
    refine ⟨decide_eq_true ?_, rises_of_sorted (ss := y :: r) h2.2 (List.nodup_cons.mp hn).2⟩
    have hne : x.cps.toList ≠ y.cps.toList := fun e => (List.nodup_cons.mp hn).1 (by rw [Str.of_toList e]; exact List.mem_cons_self)
    exact (List.le_iff_lt_or_eq.mp (List.not_lt.mp h2.1)).resolve_right hne
theorem join_empty : ∀ cs : List Nat, (Txt.join (Str.ofString "") (cs.map fun c => (⟨#[c]⟩ : Str))).cps.toList = cs := fun cs => by
  rw [TL.join_eq]
  have e := TL.tl_join (Str.ofString "") (cs.map fun c => (⟨#[c]⟩ : Str))
  unfold TL.tl at e
  rw [e, List.map_map]
  have e0 : (Str.ofString "").cps.toList = [] := by decide +kernel
  rw [e0]
  have k : ∀ l : List Nat, TL.joinL [] (l.map (TL.tl ∘ fun c => (⟨#[c]⟩ : Str))) = l := by
    intro l
    induction l with
    | nil => rfl
    | cons c r ih =>
      cases r with
      | nil => rfl
      | cons c2 r2 =>
        show [c] ++ ([] ++ TL.joinL [] ((c2 :: r2).map _)) = c :: c2 :: r2
        rw [ih]; rfl
  exact k cs
section
variable {K : PySem.W.Frag} {W : Ent} {σ : L2.St} {G : Hp} {M : Mem} {te : TE} {C : V → Hp → Mem → Prop} {i : Nat} {p : Addr}
theorem sw_join {a : Str} (h : Sw W te σ G M fun v G' M' => ∃ q ys, ∃ k : Nat, v = .ref q ∧ M'[k]? = some (q, .lst (ys.map V.str)) ∧ (ys.map (·.length)).sum + ys.length * a.length ≤ 16777216 ∧ C (.str (Txt.join a ys)) G' M') : Sw W (tM1 (kJoin K) (tC (.str a)) te) σ G M C := fun H w Q q =>
  ⟨⟨a, rfl⟩, h H w _ fun v G' M' H' w' ⟨r, ys, k, ev, hm, hl, c⟩ => ⟨a, r, ys, rfl, by rw [ev], .inl (SqL.of (w'.own r _ (List.mem_of_getElem? hm))), hl, q _ G' M' H' w' c⟩⟩
/-- sorted(d), the keys texts -/
theorem sw_sortedD {kvs : List (Key × V)} {ks : List Str} (k : Nat) (ho : σ[i]? = some (some (.ref p))) (hm : M[k]? = some (p, .dK kvs)) (hk : kvs.map (·.1) = ks.map Sum.inr) (hl : ks.length < 64) (c : ∀ ys v G', ys.Perm ks → PyProof.Rows.sortedS ys = true → Ex G G' → Da K G' v (.list (ys.map .str)) → C v G' M) :
    Sw W (tCB (kSorted K) (tCons (tVar i) tNil)) σ G M C := fun H w Q q =>
  ⟨.ref p, ho, .inl ⟨p, kvs, ks, rfl, .inl (w.own p _ (List.mem_of_getElem? hm)), hk, hl, fun ys r hp hs hr => q _ _ M _ (w.grow (Grow.new w.gh hr)) (c ys _ _ hp hs (Ex.new (fresh_back w.gh hr)) (.lst upd_same (DaL.ofStrs ys)))⟩⟩
end
/-! # the end: the script -/
def sp_script (K : PySem.W.Frag) (n : Nat) : Sp := fun vs H Q _ => ∃ (a : Addr) (ns : List Int), vs = [.ref a] ∧ SqL K H a (ns.map V.int) ∧ ns.length ≤ n ∧ ∀ H', Q (.bl true) H'
open PySem L2 Evl PyProof.Rows
/-! # xs[a:c] = ys, the end perhaps beyond -/
theorem bounds_any {a c n : Nat} (h : a ≤ n) : sliceBounds (some (a : Int)) (some (c : Int)) none n = ((a : Int), ((min c n : Nat) : Int), 1) := by
  have n1 : ¬ ((a : Int) < 0) := by omega
  have n2 : ¬ ((c : Int) < 0) := by omega
  simp only [sliceBounds, Option.getD_none, n1, n2, if_false, show (1 : Int) > 0 from by decide, if_true]
  refine Prod.ext ?_ (Prod.ext ?_ rfl)
  · show max 0 (min (a : Int) (n : Int)) = (a : Int); omega
  · show max 0 (min (c : Int) (n : Int)) = ((min c n : Nat) : Int); omega
section
variable {prog : Program} {w : PySem.World} {A : Around} {E : Value → Shared → Prop} {s : Shared}
theorem set_cut {l b sl : Addr} {its new : Array Value} {n m : Nat} {vl vu : Value} {a c : Nat} {Q : Unit → Shared → Prop} (e : s.heap.get? l = some { cls := .type "list", data := .seq its n }) (e2 : s.heap.get? b = some { cls := .type "list", data := .seq new m }) (ne : l ≠ b)
    (hs : s.heap.IsSliceOf sl vl vu .none) (pl : IsPart vl (some (a : Int))) (pu : IsPart vu (some (c : Int))) (hac : a ≤ c) (ha : a ≤ its.size) (hz : its.size + new.size ≤ sizeLine)
    (q : Q () { s with heap := s.heap.update l (Obj.mapSeq fun xs => xs.extract 0 a ++ new ++ xs.extract (min c its.size) xs.size) }) : wpAny (model prog w) A (setItem (.ref l) (.ref sl) (.ref b)) Q E s := by
  have kl := PySem.IsL.isList e
  have kb := PySem.IsL.isList e2
  obtain ⟨os, hos, hcs, hds⟩ := id hs
  have kt : s.TypeIs (.ref sl) "slice" := ⟨os, hos, hcs⟩
  have other : Builtin.List.listSameRef (.ref l) (.ref b) = false := (show ((l : Addr) == b) = false from beq_eq_false_iff_ne.mpr ne)
  have mx : (max (a : Int) ((min c its.size : Nat) : Int)).toNat = min c its.size := by omega
  have z2 : ((fun xs : Array Value => xs.extract 0 a ++ new ++ xs.extract (min c its.size) xs.size) its).size ≤ sizeLine + 1 := by
    simp only [Array.size_append, Array.size_extract]; omega
  unfold setItem
  (try with_reducible refine wpAny_holding ?_); (first | refine wpAny_bind (wpAny_pure ?_) | skip)
  refine wpAny_bind (wpAny_sequenceKey kl.typeIs (by decide) (wpAny_bind (wpAny_callSpecial?_slot (name := Str.ofString "__setitem__") kl.typeIs slot_list_setitem (wpAny_call_entry slot_list_setitem kl.typeIs entry_list_setitem ?_ (args_list_setitem _ _ _)))))
  show wpAny _ _ (Builtin.List.listSubscript? (.ref sl) >>= _) _ _ s
  unfold Builtin.List.listSubscript?
  refine wpAny_bind (wpAny_bind (wpAny_specialOf kt slice_no_index ?_))
  simp only [Option.isNone_none, if_true]
  refine wpAny_pure (show wpAny _ _ (typeOf (.ref sl) >>= _) _ _ s from wpAny_bind (wpAny_typeOf kt ?_))
  (first | rw [if_neg (by decide)] | refine PySem.W.KFB.if_not (by decide) ?_)
  rw [listSliceParts_eq]
  refine wpAny_bind (wpAny_bind (wpAny_field hos hds (x := .none) rfl (wpAny_bind (wpAny_listPart .none ?_))))
  rw [if_neg (show ¬ ((rawPart none == rawInt 0) = true) from Bool.false_ne_true)]
  refine wpAny_bind (wpAny_field hos hds (x := vl) rfl (wpAny_bind (wpAny_listPart pl (wpAny_bind (wpAny_field hos hds (x := vu) rfl (wpAny_bind (wpAny_listPart pu (wpAny_pure ?_))))))))
  (first | simp only [other, Bool.false_eq_true, if_false] | refine PySem.W.KFB.if_not other ?_ | (dsimp only; rw [if_neg (by rw [other]; exact Bool.false_ne_true)]))
  refine wpAny_bind (m := Builtin.List.listAllItems (.ref b) "must assign iterable to extended slice") ?_
  unfold Builtin.List.listAllItems
  refine wpAny_bind (wpAny_typeOf kb.typeIs ?_)
  (first | refine PySem.W.KFB.if_so (by decide) ?_ | rw [if_pos (by decide)] | simp only [beq_self_eq_true, Bool.true_or, if_true])
  unfold Builtin.List.listItems
  refine wpAny_bind (wpAny_seqItems e2 rfl (wpAny_pure (wpAny_bind (wpAny_bind (wpAny_seqItems e rfl (wpAny_pure ?_))))))
  refine wpAny_bind (wpAny_of_eq ((sliceIndices_raw (some (a : Int)) (some (c : Int)) none its.size (by simp)).trans (congrArg (pure : Int × Int × Int → Sem (Int × Int × Int)) (bounds_any ha))) ?_)
  show wpAny _ _ (if ((1 : Int) == 1) = true then _ else _) _ _ s
  rw [if_pos (by decide)]
  refine wpAny_bind (wpAny_rule ?_)
  (first | simp only [notLongL hz, Bool.false_eq_true, if_false] | refine PySem.W.KFB.if_not (notLongL hz) ?_)
  (first | refine wpAny_bind (wpAny_pure ?_) | skip)
  show wpAny _ _ (updateSeq l (fun xs => xs.extract 0 ((a : Int)).toNat ++ new ++ xs.extract (max (a : Int) ((min c its.size : Nat) : Int)).toNat xs.size) >>= _) _ _ s
  rw [mx, Int.toNat_natCast]
  refine wpAny_bind (wpAny_updateSeq (hz := Nat.le_trans (Nat.le_add_right _ _) hz) (_hz' := z2) e rfl (wpAny_bind (wpAny_letGo ?_)))
  (first | exact wpAny_bind (wpAny_pure (wpAny_pure ⟨.none, rfl, wpAny_pure q⟩)) | exact wpAny_pure ⟨.none, rfl, wpAny_pure q⟩)
end
/-- the reading -/
def sCut (to : TE) (tl th : TO) (tv : TE) : TS := fun D σ H => tv σ H fun v H1 => to σ H1 fun o H2 => tl σ H2 fun lo H3 => th σ H3 fun hi H4 => ∃ l b xs ys a c, o = .ref l ∧ v = .ref b ∧ lo = some ((a : Nat) : Int) ∧ hi = some ((c : Nat) : Int) ∧ H4 l = some (.lst xs) ∧ H4 b = some (.lst ys) ∧ l ≠ b ∧ a ≤ c ∧ a ≤ xs.length ∧ xs.length + ys.length ≤ sizeLine ∧
  D.nx σ (upd H4 l (.lst (xs.take a ++ ys ++ xs.drop (min c xs.length))))
section
variable {X : Cx}
theorem ps_cut {o v : Expr} {lo hi : Option Expr} {to tv : TE} {tl th : TO} {p2 pos' pos : Pos} (ho : PE X o to) (hl : PO X lo tl) (hh : PO X hi th) (hv : PE X v tv) (hs : swapsWith v (some (.Subscript o (.Slice lo hi none p2) pos')) pos.line X.env = pure false := by rfl) : PS X (.Assign [.Subscript o (.Slice lo hi none p2) pos'] v pos) (sCut to tl th tv) := by
  refine ⟨fun pins s σ H D I h => wpAny_Assign_Subscript (thn (hv.run pins s σ H _ I h) fun vv s1 ⟨x, H1, I1, r1, q1⟩ => thn (ho.run pins s1 σ H1 _ I1 q1) fun ov s2 ⟨y, H2, I2, r2, q2⟩ => ?_) hs⟩
  refine wpAny_Slice (thn (hl.run pins s2 σ H2 _ I2 q2) fun vl s3 ⟨lo', H3, I3, pl, q3⟩ => thn (hh.run pins s3 σ H3 _ I3 q3) fun vu s4 ⟨hi', H4, I4, pu, q4⟩ => ?_)
  rw [evalPart_none]
  refine wpAny_pure ?_
  obtain ⟨l, b, xs, ys, a, c, rfl, rfl, rfl, rfl, hx, hy, ne, hac, ha, hz, q⟩ := q4
  cases r1
  cases r2
  have I5 : Inv X pins σ H4 { s4 with heap := s4.heap.push { cls := .type "slice", data := .fields #[vl, vu, .none] } } := I4.kept (t' := s4.toks) (fun b o z => Heap.get?_push_of_some _ z)
  obtain ⟨_, its, n, rx, ex, hgx⟩ := I5.lstM hx
  obtain ⟨_, its2, n2, ry, ey, hgy⟩ := I5.lstM hy
  refine set_cut (a := a) (c := c) hgx hgy ne (Heap.IsSliceOf.new ..) pl pu hac (by rw [List.size_toArray]; omega) (by rw [List.size_toArray, List.size_toArray]; omega) ?_
  refine ⟨σ, _, I5.lset (its' := its.take a ++ its2 ++ its.drop (min c xs.length)) (t' := s4.toks) hx hgx ?_ (Vals.append (Vals.append (rx.take _) ry) (rx.drop _)) ?_, q⟩
  · rw [show min c its.toArray.size = min c xs.length by rw [List.size_toArray, ex]]
    exact splice_eq its its2 a (min c xs.length)
  · rw [List.length_append, List.length_append, List.length_take, List.length_drop]; omega
end
/-! # t[::-1], a tuple -/
section
variable {prog : Program} {w : PySem.World} {A : Around} {E : Value → Shared → Prop} {s : Shared}
theorem applied_back {sl : Addr} {vl vu vs : Value} {n : Nat} {Q : Int × Int × Nat → Shared → Prop} (hs : s.heap.IsSliceOf sl vl vu vs) (pl : IsPart vl none) (pu : IsPart vu none) (ps : IsPart vs (some (-1))) (h : Q ((n : Int) - 1, -1, n) s) : wpAny (model prog w) A (Builtin.Slice.sliceApplied (.ref sl) (pure (n : Int))) Q E s := by
  obtain ⟨os, hos, hcs, hds⟩ := id hs
  unfold Builtin.Slice.sliceApplied Builtin.Slice.sliceFields
  refine wpAny_bind (wpAny_bind (wpAny_field hos hds (x := vl) rfl (wpAny_bind (wpAny_field hos hds (x := vu) rfl (wpAny_bind (wpAny_field hos hds (x := vs) rfl (wpAny_pure (wpAny_bind (HT.slicePart_ ps ?_)))))))))
  show wpAny _ _ (if ((-1 : Int) == 0) = true then _ else _) _ _ s
  rw [if_neg (by decide)]
  refine wpAny_bind (HT.slicePart_ pl (wpAny_bind (HT.slicePart_ pu (wpAny_bind (wpAny_pure ?_)))))
  show wpAny _ _ (match Builtin.Slice.sliceAdjust none none (-1) (n : Int) with | (lo, hi) => pure (lo, (-1 : Int), Builtin.Slice.slicePlaces lo hi (-1))) _ _ s
  have e1 : Builtin.Slice.sliceAdjust none none (-1) (n : Int) = ((n : Int) - 1, -1) := by
    unfold Builtin.Slice.sliceAdjust
    simp
  rw [e1]
  show wpAny _ _ (pure ((n : Int) - 1, (-1 : Int), Builtin.Slice.slicePlaces ((n : Int) - 1) (-1) (-1))) _ _ s
  have e2 : Builtin.Slice.slicePlaces ((n : Int) - 1) (-1) (-1) = n := by
    unfold Builtin.Slice.slicePlaces
    simp
    omega
  rw [e2]
  exact wpAny_pure h
end
open PySem L2 Evl PyProof.Rows
/-! # e[::-1], a list or a tuple that is not empty -/
theorem fm_congr {α β : Type} {f g : α → Option β} : ∀ {l : List α}, (∀ x ∈ l, f x = g x) → l.filterMap f = l.filterMap g
  | [], _ => rfl
  | a :: r, h => by
    rw [List.filterMap_cons, List.filterMap_cons, h a List.mem_cons_self, fm_congr fun x hx => h x (List.mem_cons_of_mem _ hx)]
theorem pick_back (xs : Array Value) : ((List.range xs.size).filterMap fun (m : Nat) => xs[(((xs.size : Int) - 1) + (m : Int) * (-1)).toNat]?).toArray = xs.toList.reverse.toArray := by
  congr 1
  refine List.ext_getElem? fun i => ?_
  have e : (List.range xs.size).filterMap (fun (m : Nat) => xs[(((xs.size : Int) - 1) + (m : Int) * (-1)).toNat]?) = (List.range xs.size).map fun m => xs.toList.reverse.getD m .none := by
    rw [← List.filterMap_eq_map]
    refine fm_congr fun m hm => ?_
    have hm := List.mem_range.mp hm
    have e2 : (((xs.size : Int) - 1) + (m : Int) * (-1)).toNat = xs.size - 1 - m := by omega
    rw [e2]
    have h1 : xs.size - 1 - m < xs.size := by omega
    rw [Array.getElem?_eq_getElem h1]
    show _ = some (xs.toList.reverse.getD m .none)
    have h2 : m < xs.toList.reverse.length := by rw [List.length_reverse, Array.length_toList]; exact hm
    rw [List.getD_eq_getElem?_getD, List.getElem?_eq_getElem h2]
    show some _ = some _
    congr 1
    rw [List.getElem_reverse, Array.getElem_toList]
    congr 1
  rw [e, List.getElem?_map]
  by_cases hi : i < xs.size
  · rw [List.getElem?_range hi]
    have h2 : i < xs.toList.reverse.length := by rw [List.length_reverse, Array.length_toList]; exact hi
    rw [List.getElem?_eq_getElem h2]
    show some (xs.toList.reverse.getD i .none) = some _
    rw [List.getD_eq_getElem?_getD, List.getElem?_eq_getElem h2]; rfl
  · rw [List.getElem?_eq_none (by rw [List.length_range]; omega), List.getElem?_eq_none (by rw [List.length_reverse, Array.length_toList]; omega)]
    rfl
section
variable {prog : Program} {w : PySem.World} {A : Around} {E : Value → Shared → Prop} {s : Shared}
theorem getItem_tuple_back {t sl : Addr} {items : Array Value} {vl vu vs : Value} {Q : Value → Shared → Prop} (ht : IsTup s.heap t items) (hs : s.heap.IsSliceOf sl vl vu vs) (pl : IsPart vl none) (pu : IsPart vu none) (ps : IsPart vs (some (-1)))
    (h : Q (.ref s.heap.objs.size) { s with heap := s.heap.push { cls := .type "tuple", data := .seq items.toList.reverse.toArray } })
    (hsz : items.size ≤ sizeLine) : wpAny (model prog w) A (getItem (.ref t) (.ref sl)) Q E s := by
  have htake : sizeOk (.seq items.toList.reverse.toArray) := by
    show (items.toList.reverse).toArray.size ≤ sizeLine
    rw [List.size_toArray, List.length_reverse, Array.length_toList]
    omega
  obtain ⟨os, hos, hcs, hds⟩ := id hs
  have hTs : s.TypeIs (.ref sl) "slice" := ⟨os, hos, hcs⟩
  unfold getItem
  try with_reducible refine wpAny_holding ?_
  first | refine wpAny_bind (wpAny_pure ?_) | skip
  refine wpAny_bind (wpAny_sequenceKey ht.typeIs (by decide) ?_)
  refine wpAny_bind (wpAny_callSpecial?_slot (name := Str.ofString "__getitem__") ht.typeIs PyProof.Rows.slot_tuple_getitem
    (wpAny_call_entry PyProof.Rows.slot_tuple_getitem ht.typeIs entry_tuple_getitem ?_ (args_tuple_getitem _ _)))
  show wpAny _ _ (Builtin.Tuple.tupleItemsOf (.ref t) >>= _) _ _ s
  refine wpAny_bind (tupleItemsOf_ ht ?_)
  refine wpAny_bind (wpAny_typeOf hTs ?_)
  rw [if_pos (by decide)]
  refine wpAny_bind (applied_back hs pl pu ps ?_)
  have hno : ¬ ((((items.size : Int) - 1) == 0 && (-1 : Int) == 1 && items.size == items.size) = true) := by
    intro q
    rw [Bool.and_eq_true, Bool.and_eq_true] at q
    exact absurd q.1.2 (by decide)
  show wpAny _ _ (if (((items.size : Int) - 1) == 0 && (-1 : Int) == 1 && items.size == items.size) = true then _ else _) _ _ s
  rw [if_neg hno, pick_back]
  first
    | exact wpAny_bind (m := Builtin.Tuple.tupleExact _) (wpAny_newObj_type (wpAny_pure ⟨_, rfl, wpAny_pure h⟩) htake)
    | exact wpAny_bind (m := Builtin.Tuple.tupleExact _) (wpAny_newObj_type (wpAny_bind (wpAny_pure (wpAny_pure ⟨_, rfl, wpAny_pure h⟩))) htake)
    | exact wpAny_bind (wpAny_bind (m := Builtin.Tuple.tupleExact _) (wpAny_newObj_type (wpAny_pure (wpAny_pure ⟨_, rfl, wpAny_pure h⟩)) htake))
    | exact wpAny_bind (wpAny_bind (m := Builtin.Tuple.tupleExact _) (wpAny_newObj_type (wpAny_pure ⟨_, rfl, wpAny_pure h⟩) htake))
end
def tRevT (K : PySem.W.Frag) (te : TE) : TE := fun σ H Q => te σ H fun x H1 => ∃ a xs, x = .ref a ∧ SqT K H1 a xs ∧ ∀ p, H1 p = none → Q (.ref p) (upd H1 p (.tup xs.reverse))
section
variable {X : Cx}
theorem pe_revT {e : Expr} {te : TE} {k : Nat} {p1 p2 p3 pos : Pos} (he : PE X e te) : PE X (.Subscript e (.Slice none none (some (.UnaryOp .USub (.Constant (.int 1) k p1) p2)) p3) pos) (tRevT X.K te) := by
  refine ⟨fun pins s σ H Q I h => ?_⟩
  refine Subscript_ (thn (he.run pins s σ H _ I h) fun v s1 ⟨x, H1, I1, r1, q1⟩ => ?_)
  obtain ⟨a, xs, ex, hx, q⟩ := q1
  subst ex
  cases r1
  have hst : PO X (some (.UnaryOp .USub (.Constant (.int 1) k p1) p2)) (tPart (tUn (rU fun i => .int (-i)) (tC (.int 1)))) := po_some (pe_un un_neg pe_int)
  refine wpAny_Slice (thn (po_none.run pins s1 σ H1 (fun o H2 => o = none ∧ H2 = H1) I1 ⟨rfl, rfl⟩) fun vl s2 ⟨l, H2, I2, pl, el, e2⟩ => ?_)
  subst el e2
  refine thn (po_none.run pins s2 σ H2 (fun o H3 => o = none ∧ H3 = H2) I2 ⟨rfl, rfl⟩) fun vu s3 ⟨u, H3, I3, pu, eu, e3⟩ => ?_
  subst eu e3
  refine thn (hst.run pins s3 σ H3 (fun o H4 => o = some (-1) ∧ H4 = H3) I3 ⟨1, rfl, -1, rfl, rfl, rfl⟩) fun vs s4 ⟨o, H4, I4, ps, eo, e4⟩ => ?_
  subst eo e4
  have I5 : Inv X pins σ H4 { s4 with heap := s4.heap.push { cls := .type "slice", data := .fields #[vl, vu, vs] } } := I4.kept (t' := s4.toks) fun b ob q => Heap.get?_push_of_some _ q
  obtain ⟨its, r, ht, hz⟩ := I5.tuple hx
  have hlen := r.length
  show wpAny (model X.prog X.w) X.A (subscriptTail e (.Slice none none (some (.UnaryOp .USub (.Constant (.int 1) k p1) p2)) p3) (.ref a) (.ref s4.heap.objs.size)) (EP X pins σ Q) X.xe { s4 with heap := s4.heap.push { cls := .type "slice", data := .fields #[vl, vu, vs] } }
  refine tail_any (ops := [.ref a, .ref s4.heap.objs.size]) ht.typeIs (PyProof.Rows.slot_tuple_getitem.lookup) ?_ (by with_unfolding_all rfl)
  refine getItem_tuple_back ht (Heap.IsSliceOf.new _ vl vu vs) pl pu ps ?_ (by rw [List.size_toArray]; omega)
  refine ⟨.ref _, _, I5.laid (t' := s4.toks) (o := .tup xs.reverse) (fun b ob q => Heap.get?_push_of_some _ q) (Nat.le_refl _) ?_, rfl, q _ (I5.hok.fresh (Nat.le_refl _))⟩
  exact ⟨by rw [List.length_reverse]; exact hz, _, r.reverse, IsTup.new _ _⟩
end
/-! # by data -/
section
variable {K : PySem.W.Frag} {W : Ent} {D : Ends} {σ : L2.St} {G : Hp} {M : Mem} {te ta tb : TE} {ds : List PyData} {C : V → Hp → Mem → Prop} {i j k : Nat} {p : Addr} {xs : List V}
theorem DaL.rev {H : Hp} : ∀ {vs : List V} {ds : List PyData}, DaL K H vs ds → DaL K H vs.reverse ds.reverse
  | _, _, .nil => .nil
  | _, _, .cons h r => by
    rw [List.reverse_cons, List.reverse_cons]
    exact (DaL.rev r).app (.one h)
theorem ev_revT (h : EvD K te σ G (.tuple ds)) : EvD K (tRevT K te) σ G (.tuple ds.reverse) := fun G1 H e e2 Q q =>
  h G1 H e e2 _ fun v G2 H2 g2 d2 => by
    cases d2 with
    | tup h r => exact ⟨_, _, rfl, ex_t g2.gh h, fun p hp => q _ _ _ (g2.trans (Grow.new g2.gh hp)) (.tup (SqT.of upd_same) (r.rev.mono (Ex.new (fresh_back g2.gh hp))))⟩
theorem ev_slT {tl th : TO} {lo hi : Option Int} (h : EvD K te σ G (.tuple ds)) (hl : EvP tl σ G lo) (hh : EvP th σ G hi) : EvD K (tSl (kSl K) te tl th) σ G (.tuple (cutG ds lo hi)) := fun G1 H e e2 Q q =>
  h G1 H e e2 _ fun v G2 H2 g2 d2 => hl H2 ((e.trans g2.gg).trans g2.gh) _ fun H3 e3 => hh H3 (((e.trans g2.gg).trans g2.gh).trans e3) _ fun H4 e4 => by
    cases d2 with
    | tup h r =>
      have g4 : Grow [] G1 H G2 H4 := g2.trans (Grow.of_ex g2.gh (e3.trans e4))
      refine .inr ⟨_, _, rfl, ex_t g4.gh h, fun hw => ?_, fun hw p hp => q _ _ _ (g4.trans (Grow.new g4.gh hp)) (.tup (SqT.of upd_same) ((r.cut lo hi).mono (Ex.new (fresh_back g4.gh hp))))⟩
      refine q _ _ _ g4 ?_
      have e5 : cutG ds lo hi = ds := by
        unfold cutG
        rw [r.len] at hw
        rw [hw.1, hw.2, List.drop_zero, Nat.sub_zero, List.take_length]
      rw [e5]
      exact .tup h r
/-! # lists that may be written -/
/-- list(e), e a tuple or a list -/
theorem sw_listT (h : EvD K te σ G (.tuple ds)) (c : ∀ p vs G', W.H0 p = none → Ex G G' → DaL K G' vs ds → C (.ref p) G' ((p, .lst vs) :: M)) : Sw W (tCB (kList K) (tCons te tNil)) σ G M C := fun H w Q q =>
  h G H (Ex.refl G) w.gh _ fun v G' H' g dv => by
    have w' := w.grow g
    cases dv with
    | tup h r => exact ⟨_, _, rfl, .inr (ex_t g.gh h), fun p hp => q _ _ _ _ (w'.new hp) (c p _ G' (w'.new0 hp) g.gg r)⟩
theorem atI_natV {α : Type} {xs : List α} {j : Nat} {v : α} (h : xs[j]? = some v) : atI xs (j : Int) = some v := atI_nat h
/-- parts[e] -/
theorem sw_ixO {v : V} (k : Nat) (ho : σ[i]? = some (some (.ref p))) (hm : M[k]? = some (p, .lst xs)) (hi : EvD K te σ G (.int (j : Int))) (hj : xs[j]? = some v) (c : C v G M) : Sw W (tOp (rIx K) (tVar i) te) σ G M C := fun H w Q q =>
  ⟨.ref p, ho, hi G H (Ex.refl G) w.gh _ fun u G' H' g du => by
    have w' := w.ext g.hh
    exact .inl ⟨p, xs, (j : Int), v, rfl, du.int_eq, SqL.of (w'.own p _ (List.mem_of_getElem? hm)), atI_natV hj, q v G M H' w' c⟩⟩
theorem seqIx {j n : Nat} (h : j < n) : seqIndex? (j : Int) n = some j := by
  unfold seqIndex?
  have h0 : ¬ ((j : Int) < 0) := by omega
  simp only [h0, if_false]
  rw [if_pos (by rw [Bool.and_eq_true, decide_eq_true_eq, decide_eq_true_eq]; omega), Int.toNat_natCast]
theorem sx_pop (k : Nat) (ho : σ[i]? = some (some (.ref p))) (hm : M[k]? = some (p, .lst xs)) (hi : EvD K te σ G (.int (j : Int))) (hj : j < xs.length) (hl : xs.length ≤ 100000) (c : Nx W D σ G (M.set k (p, .lst (xs.eraseIdx j)))) :
    Sx W (tDrop (tBM K "list" rPopAt (tVar i) (tCons te tNil))) D σ G M := fun H w =>
  ⟨.ref p, ho, .inl ⟨rfl, _, SqL.of (w.own p _ (List.mem_of_getElem? hm))⟩, hi G H (Ex.refl G) w.gh _ fun v G' H' g dv => by
    have w' := w.ext g.hh
    exact ⟨p, xs, (j : Int), j, xs[j], rfl, by rw [dv.int_eq], w'.own p _ (List.mem_of_getElem? hm), by omega, by omega, seqIx hj, List.getElem?_eq_getElem hj, c _ (w'.set hm)⟩⟩
def rInsert : V → List V → Hp → VK → Prop := fun x vs H Q => ∃ (l : Addr) (xs : List V) (i : Int) (y : V), x = .ref l ∧ vs = [.int i, y] ∧ H l = some (.lst xs) ∧ xs.length < sizeLine ∧ 0 ≤ i ∧ i < 2 ^ 63 ∧
    Q .non (upd H l (.lst (xs.take i.toNat ++ [y] ++ xs.drop i.toNat)))
theorem mt_rInsert {X : Cx} : MtR X "list.insert" rInsert := mt_insert
theorem sx_insert {ta : TA} (k : Nat) (ho : σ[i]? = some (some (.ref p))) (hm : M[k]? = some (p, .lst xs)) (hl : xs.length < 100000) (h : Swa W ta σ G M fun vs G' M' => ∃ (j : Nat) (y : V), vs = [.int (j : Int), y] ∧ j ≤ xs.length ∧ M'[k]? = some (p, .lst xs) ∧ Nx W D σ G' (M'.set k (p, .lst (xs.take j ++ [y] ++ xs.drop j)))) :
    Sx W (tDrop (tBM K "list" rInsert (tVar i) ta)) D σ G M := fun H w =>
  ⟨.ref p, ho, .inl ⟨rfl, _, SqL.of (w.own p _ (List.mem_of_getElem? hm))⟩, h H w _ fun vs G' M' H' w' ⟨j, y, ev, hj, hm', c⟩ => by
    exact ⟨p, xs, (j : Int), y, rfl, ev, w'.own p _ (List.mem_of_getElem? hm'), sz_lt hl, by omega, by omega, by rw [Int.toNat_natCast]; exact c _ (w'.set hm')⟩⟩
/-- parts[a:c] = parts[a:c][::-1] -/
theorem sx_swap {a c : Nat} {te' : TE} (k : Nat) (ho : σ[i]? = some (some (.ref p))) (hm : M[k]? = some (p, .lst xs)) (hl : xs.length ≤ 40000) (h1 : EvD K te σ G (.int (a : Int))) (h2 : EvD K te' σ G (.int (c : Int))) (hac : a ≤ c) (ha : a ≤ xs.length)
    (cn : Nx W D σ G (M.set k (p, .lst (xs.take a ++ (cutV xs (some (a : Int)) (some (c : Int))).reverse ++ xs.drop (min c xs.length))))) :
    Sx W (sCut (tVar i) (tPart te) (tPart te') (tRevL K (tSl (kSl K) (tVar i) (tPart te) (tPart te')))) D σ G M := fun H w => by
  have step : ∀ (H1 : Hp), World W G M H1 → ∀ Q : Option Int → Hp → Prop, (∀ H2, World W G M H2 → Ex H1 H2 → Q (some (a : Int)) H2) → tPart te σ H1 Q := fun H1 w1 Q q =>
    h1 G H1 (Ex.refl G) w1.gh _ fun v G' H' g dv => ⟨(a : Int), dv.int_eq, q H' (w1.ext g.hh) g.hh⟩
  have step2 : ∀ (H1 : Hp), World W G M H1 → ∀ Q : Option Int → Hp → Prop, (∀ H2, World W G M H2 → Ex H1 H2 → Q (some (c : Int)) H2) → tPart te' σ H1 Q := fun H1 w1 Q q =>
    h2 G H1 (Ex.refl G) w1.gh _ fun v G' H' g dv => ⟨(c : Int), dv.int_eq, q H' (w1.ext g.hh) g.hh⟩
  have hp := List.mem_of_getElem? hm
  refine ⟨.ref p, ho, step H w _ fun H1 w1 e1 => step2 H1 w1 _ fun H2 w2 e2 => .inl ⟨p, xs, rfl, SqL.of (w2.own p _ hp), fun q1 n1 => ?_⟩⟩
  have w3 := w2.ext (Ex.new (o := HO.lst (cutV xs (some (a : Int)) (some (c : Int)))) n1)
  refine ⟨q1, _, rfl, SqL.of upd_same, fun q2 n2 => ?_⟩
  have w4 := w3.ext (Ex.new (o := HO.lst (cutV xs (some (a : Int)) (some (c : Int))).reverse) n2)
  refine ⟨.ref p, ho, step _ w4 _ fun H5 w5 e5 => step2 H5 w5 _ fun H6 w6 e6 => ?_⟩
  have hlen : (cutV xs (some (a : Int)) (some (c : Int))).length ≤ xs.length := by
    unfold cutV
    rw [List.length_take, List.length_drop]; omega
  refine ⟨p, q2, xs, _, a, c, rfl, rfl, rfl, rfl, w6.own p _ hp, e6 _ _ (e5 _ _ upd_same), fun z => ?_, hac, ha, ?_, cn _ (w6.set hm)⟩
  · subst z
    rw [w3.own p _ hp] at n2; cases n2
  · rw [List.length_reverse]
    exact sz_of (by omega)
theorem cutV_len (lo hi : Option Int) : (cutV xs lo hi).length ≤ xs.length := by
  unfold cutV
  rw [List.length_take, List.length_drop]; omega
theorem cutV_sub {lo hi : Option Int} {v : V} (h : v ∈ cutV xs lo hi) : v ∈ xs := by
  unfold cutV at h
  exact List.mem_of_mem_drop (List.mem_of_mem_take h)
/-- a call that takes the bag, its promise given by a wider one -/
theorem sw_callBi {cost n : Nat} {Pre : List PyData → Prop} {Post : List PyData → PyData → Prop} {sp : Sp} {ta : TA} {E : XK} {b : List V} (imp : ∀ vs H Q E, spB K cost Pre Post vs H Q E → sp vs H Q E) (k : Nat) (hv : σ[i]? = some (some (.ref p))) (ha : EvA K ta σ G ds) (hm : M[k]? = some (p, .lst b)) (hb : BagOk n b) (hn : n + cost ≤ bagMax) (hp : Pre ds)
    (c : ∀ v d b' G', Post ds d → BagOk (n + cost) b' → Ex G G' → Da K G' v d → C v G' (M.set k (p, .lst b'))) : Sw W (tCall sp [] E (tCons (tVar i) ta)) σ G M C := fun H w Q q =>
  ⟨.ref p, hv, ha G H (Ex.refl G) w.gh _ fun ws G1 H1 g1 d1 => by
    show sp ((.ref p :: ws) ++ []) H1 Q E
    rw [List.append_nil]
    have w1 := w.grow g1
    refine imp _ _ _ _ ⟨p, b, n, G1, ds, ws, rfl, w1.own p _ (List.mem_of_getElem? hm), hb, hn, w1.gh, w1.sep p _ (List.mem_of_getElem? hm), d1, hp, fun v d b' G' H' h1 h2 g h3 dv => ?_⟩
    exact q v G' _ H' (w1.call hm g h3) (c v d b' G' h1 h2 (g1.gg.trans g.gg) dv)⟩
end
def spNo : Sp := fun _ _ _ _ => False
theorem fn_no {P : Program} {w : PySem.World} {K : PySem.W.Frag} {mg : Str → Option Value} {base : Heap} {CX : CXT} {k : Nat} {f : Addr} {fd : FuncData} {ps : List Str} : FnOk P w K mg base CX k f fd ps spNo :=
  ⟨fun _ _ _ _ h => h.elim, fun _ _ _ _ _ _ _ _ _ _ _ _ _ h => h.elim⟩
theorem fn_any {P : Program} {w : PySem.World} {K : PySem.W.Frag} {mg : Str → Option Value} {base : Heap} {CX : CXT} {k m : Nat} {f : Addr} {fd : FuncData} {ps : List Str} {sp : Nat → Sp} (h : ∀ n, FnOk P w K mg base CX (n + k) f fd ps (sp n)) : FnOk P w K mg base CX (m + k) f fd ps (fun vs H Q E => ∃ n, n ≤ m ∧ sp n vs H Q E) :=
  ⟨fun vs H Q E ⟨n, hn, q⟩ => (h n).len vs H Q E q, fun A outer s H args us vs Q E hr he hb hv ⟨n, hn, q⟩ => (h n).run A outer s H args us vs Q E (hr.mono (by omega)) he hb hv q⟩
/-! # data of bounded size -/
def Flat (n : Nat) (d : PyData) : Prop := d = .none ∨ (∃ b, d = .bool b) ∨ (∃ i, d = .int i) ∨ ∃ x : Str, d = .str x ∧ x.length ≤ n ∧ PyData.canLay0 (.str x) = true
def Fit (n : Nat) : Nat → PyData → Prop
  | 0, d => Flat n d
  | k + 1, d => Flat n d ∨ ∃ xs, (d = .list xs ∨ d = .tuple xs) ∧ xs.length ≤ n ∧ ∀ x ∈ xs, Fit n k x
theorem Flat.fit {n : Nat} {d : PyData} (h : Flat n d) : ∀ k, Fit n k d
  | 0 => h
  | _ + 1 => .inl h
theorem Flat.mono {n m : Nat} {d : PyData} (h : Flat n d) (e : n ≤ m) : Flat m d := by
  rcases h with h | h | h | ⟨x, h1, h2, h3⟩
  · exact .inl h
  · exact .inr (.inl h)
  · exact .inr (.inr (.inl h))
  · exact .inr (.inr (.inr ⟨x, h1, by omega, h3⟩))
theorem Fit.mono {n m : Nat} (e : n ≤ m) : ∀ {k l : Nat} {d : PyData}, k ≤ l → Fit n k d → Fit m l d
  | 0, l, d, _, h => (Flat.mono h e).fit l
  | k + 1, 0, d, hl, h => absurd hl (by omega)
  | k + 1, l + 1, d, hl, h => by
    rcases h with h | ⟨xs, h1, h2, h3⟩
    · exact .inl (h.mono e)
    · exact .inr ⟨xs, h1, by omega, fun x hx => Fit.mono e (by omega) (h3 x hx)⟩
theorem fit_int {n k : Nat} {i : Int} : Fit n k (.int i) := Flat.fit (.inr (.inr (.inl ⟨i, rfl⟩))) k
theorem fit_bool {n k : Nat} {i : Bool} : Fit n k (.bool i) := Flat.fit (.inr (.inl ⟨i, rfl⟩)) k
theorem fit_none {n k : Nat} : Fit n k .none := Flat.fit (.inl rfl) k
theorem fit_str {n k : Nat} {x : Str} (h : x.length ≤ n) (h2 : PyData.canLay0 (.str x) = true) : Fit n k (.str x) := Flat.fit (.inr (.inr (.inr ⟨x, rfl, h, h2⟩))) k
theorem fit_list {n k : Nat} {xs : List PyData} (h : xs.length ≤ n) (h2 : ∀ x ∈ xs, Fit n k x) : Fit n (k + 1) (.list xs) := .inr ⟨xs, .inl rfl, h, h2⟩
theorem fit_tup {n k : Nat} {xs : List PyData} (h : xs.length ≤ n) (h2 : ∀ x ∈ xs, Fit n k x) : Fit n (k + 1) (.tuple xs) := .inr ⟨xs, .inr rfl, h, h2⟩
theorem not_flatL {n : Nat} {xs : List PyData} : ¬ Flat n (.list xs) := by
  rintro (h | ⟨b, h⟩ | ⟨b, h⟩ | ⟨x, h, _⟩) <;> cases h
theorem not_flatT {n : Nat} {xs : List PyData} : ¬ Flat n (.tuple xs) := by
  rintro (h | ⟨b, h⟩ | ⟨b, h⟩ | ⟨x, h, _⟩) <;> cases h
theorem Fit.tup {n k : Nat} {xs : List PyData} (h : Fit n (k + 1) (.tuple xs)) : xs.length ≤ n ∧ ∀ x ∈ xs, Fit n k x := by
  rcases h with h | ⟨ys, h | h, h1, h2⟩
  · exact absurd h not_flatT
  · cases h
  · cases h; exact ⟨h1, h2⟩
theorem Fit.str {n k : Nat} {x : Str} (h : Fit n k (.str x)) : x.length ≤ n ∧ PyData.canLay0 (.str x) = true := by
  have f : Flat n (.str x) := by
    cases k with
    | zero => exact h
    | succ k =>
      rcases h with h | ⟨ys, h | h, _⟩
      · exact h
      · cases h
      · cases h
  rcases f with h | ⟨b, h⟩ | ⟨b, h⟩ | ⟨y, h, h1, h2⟩
  · cases h
  · cases h
  · cases h
  · cases h; exact ⟨h1, h2⟩
theorem Fit.sh {n : Nat} : ∀ {k : Nat} {d : PyData}, Fit n k d → Sh k d
  | 0, d, h => by
    rcases h with rfl | ⟨b, rfl⟩ | ⟨b, rfl⟩ | ⟨x, rfl, h1, h2⟩
    · exact sh_none
    · exact sh_bool
    · exact sh_int
    · exact sh_str h2
  | k + 1, d, h => by
    rcases h with h | ⟨xs, h | h, h1, h2⟩
    · rcases h with rfl | ⟨b, rfl⟩ | ⟨b, rfl⟩ | ⟨x, rfl, h1, h2⟩
      · exact sh_none
      · exact sh_bool
      · exact sh_int
      · exact sh_str h2
    · subst h; exact sh_list fun x hx => (h2 x hx).sh
    · subst h; exact sh_tuple fun x hx => (h2 x hx).sh
theorem Flat.sm {n : Nat} (hn : n ≤ 50000) {d : PyData} (h : Flat n d) : sm d = true := by
  rcases h with rfl | ⟨b, rfl⟩ | ⟨b, rfl⟩ | ⟨x, rfl, h1, h2⟩
  · rfl
  · rfl
  · rfl
  · exact decide_eq_true (by omega)
theorem Fit.sm {n : Nat} (hn : n ≤ 50000) : ∀ {k : Nat} {d : PyData}, Fit n k d → LK.sm d = true
  | 0, d, h => Flat.sm hn h
  | k + 1, d, h => by
    rcases h with h | ⟨xs, h | h, h1, h2⟩
    · exact h.sm hn
    · subst h; exact sm_mkL (by omega) (smL_of fun x hx => (h2 x hx).sm hn)
    · subst h; exact sm_mkT (by omega) (smL_of fun x hx => (h2 x hx).sm hn)
theorem eqv_nil (ds : List PyData) : PyData.eqv (.list ds) (.list []) = ds.isEmpty := by
  cases ds with
  | nil => rfl
  | cons a r => rfl
section
variable {K : PySem.W.Frag} {W : Ent} {σ : L2.St} {G : Hp} {M : Mem} {C : V → Hp → Mem → Prop} {i : Nat} {p : Addr}
/-- .. its arguments reckoned with deeds -/
theorem sw_callBW {cost : Nat} {Pre : List PyData → Prop} {Post : List PyData → PyData → Prop} {sp : Sp} {ta : TA} {E : XK} (imp : ∀ vs H Q E, spB K cost Pre Post vs H Q E → sp vs H Q E) (k : Nat) (hv : σ[i]? = some (some (.ref p)))
    (h : Swa W ta σ G M fun ws G1 M1 => ∃ ds b n, DaL K G1 ws ds ∧ M1[k]? = some (p, .lst b) ∧ BagOk n b ∧ n + cost ≤ bagMax ∧ Pre ds ∧ ∀ v d b' G', Post ds d → BagOk (n + cost) b' → Ex G1 G' → Da K G' v d → C v G' (M1.set k (p, .lst b'))) : Sw W (tCall sp [] E (tCons (tVar i) ta)) σ G M C := fun H w Q q =>
  ⟨.ref p, hv, h H w _ fun ws G1 M1 H1 w1 ⟨ds, b, n, d1, hm, hb, hn, hp, c⟩ => by
    show sp ((.ref p :: ws) ++ []) H1 Q E
    rw [List.append_nil]
    refine imp _ _ _ _ ⟨p, b, n, G1, ds, ws, rfl, w1.own p _ (List.mem_of_getElem? hm), hb, hn, w1.gh, w1.sep p _ (List.mem_of_getElem? hm), d1, hp, fun v d b' G' H' h1 h2 g h3 dv => ?_⟩
    exact q v G' _ H' (w1.call hm g h3) (c v d b' G' h1 h2 g.gg dv)⟩
theorem DaL.set {H : Hp} : ∀ {vs : List V} {ds : List PyData} (j : Nat) {v : V} {d : PyData}, DaL K H vs ds → Da K H v d → DaL K H (vs.set j v) (ds.set j d)
  | _, _, _, _, _, .nil, _ => .nil
  | _, _, 0, _, _, .cons _ r, h => .cons h r
  | _, _, j + 1, _, _, .cons a r, h => .cons a (DaL.set j r h)
theorem DaL.erase {H : Hp} : ∀ {vs : List V} {ds : List PyData} (j : Nat), DaL K H vs ds → DaL K H (vs.eraseIdx j) (ds.eraseIdx j)
  | _, _, _, .nil => .nil
  | _, _, 0, .cons _ r => r
  | _, _, j + 1, .cons a r => .cons a (DaL.erase j r)
theorem ixN_nat {n j : Nat} (h : j < n) : ixN n (j : Int) = some j := by
  unfold ixN
  rw [if_pos (by omega), if_pos (by omega), Int.toNat_natCast]
end
open PySem L2 Evl PyProof.Rows
/-! # sets of ints or of texts: set(xs), sorted(set(xs)) -/
structure Kd (P : Program) (w : PySem.World) (κ : Type) [DecidableEq κ] where
  knd : PySem.KeyKind P w κ
  val : κ → Tok → Value
  key : Value → κ
  hk : ∀ k t, key (val k t) = k
  his : ∀ k k0 t, knd.is k (val k0 t) = true ↔ k0 = k
  hsc : ∀ k t, (val k t).scannable = true
def kdS (P : Program) (w : PySem.World) : Kd P w Str where
  knd := PySem.strKind P w
  val := fun k t => .str k t
  key := fun v => match v with | .str x _ => x | _ => Str.empty
  hk := fun _ _ => rfl
  his := fun k k0 t => by
    show ((k0 == k) = true) ↔ k0 = k
    exact beq_iff_eq
  hsc := fun _ _ => rfl
def kdI (P : Program) (w : PySem.World) : Kd P w Int where
  knd := PySem.intKind P w
  val := fun k t => .int k t
  key := fun v => match v with | .int x _ => x | _ => 0
  hk := fun _ _ => rfl
  his := fun k k0 t => by
    show ((k0 == k) = true) ↔ k0 = k
    exact beq_iff_eq
  hsc := fun _ _ => rfl
section
variable {P : Program} {w : PySem.World} {κ : Type} [DecidableEq κ] (D : Kd P w κ)
def Kd.keys (es : Array (Int × Value)) : List κ := es.toList.map fun e => D.key e.2
/-- the set at a holds ks -/
structure SetG (h : Heap) (a : Addr) (ks : List κ) (o : Obj) (es : Array (Int × Value)) (ep : Nat) (t : SetTable) : Prop where
  ob : h.get? a = some o
  ex : o.ExactSet
  dt : o.data = .set es ep t
  el : ∀ e ∈ es.toList, ∃ k tk, e.2 = D.val k tk ∧ e.1 = D.knd.hash k
  pm : (D.keys es).Perm ks
  nd : ks.Nodup
  lt : ks.length < scanBound
  ft : t.fits es.size = true
  rs : Ris t.place.toList
  ld : w.params.followText "set-order" = true ∨ t.led = true
def SetGx (h : Heap) (a : Addr) (ks : List κ) : Prop := ∃ o es ep t, SetG D h a ks o es ep t
variable {D} {h h' : Heap} {a : Addr} {ks : List κ} {o : Obj} {es : Array (Int × Value)} {ep : Nat} {t : SetTable}
theorem SetG.sz (R : SetG D h a ks o es ep t) : es.size = ks.length := by
  rw [← R.pm.length_eq]
  unfold Kd.keys
  rw [List.length_map, Array.length_toList]
theorem SetG.elems (R : SetG D h a ks o es ep t) : ElemsOf D.knd es.toList := fun e he => by
  obtain ⟨k, tk, h1, h2⟩ := R.el e he
  exact ⟨⟨k, by rw [h1]; exact (D.his k k tk).2 rfl, h2⟩, by rw [h1]; exact D.hsc k tk⟩
theorem SetG.mem (R : SetG D h a ks o es ep t) (k : κ) : k ∈ ks ↔ ∃ e ∈ es.toList, D.knd.is k e.2 = true := by
  rw [← R.pm.mem_iff]
  unfold Kd.keys
  rw [List.mem_map]
  constructor
  · rintro ⟨e, he, q⟩
    obtain ⟨k0, tk, h1, _⟩ := R.el e he
    refine ⟨e, he, ?_⟩
    rw [h1] at q ⊢
    rw [D.hk] at q
    exact (D.his _ _ _).2 q
  · rintro ⟨e, he, q⟩
    obtain ⟨k0, tk, h1, _⟩ := R.el e he
    refine ⟨e, he, ?_⟩
    rw [h1] at q ⊢
    rw [D.hk]
    exact (D.his _ _ _).1 q
theorem SetGx.at (R : SetGx D h a ks) (k : ∀ o, h.get? a = some o → h'.get? a = some o) : SetGx D h' a ks := by
  obtain ⟨o, es, ep, t, r⟩ := R
  exact ⟨o, es, ep, t, { r with ob := k o r.ob }⟩
variable {A : Around} {E : Value → Shared → Prop} {s : Shared}
def grownBy (ks : List κ) (k : κ) : List κ := if k ∈ ks then ks else k :: ks
theorem setG_tail {g : Bool → Sem Unit} (hg : ∀ (b : Bool) (s₁ : Shared) (Q' : Unit → Shared → Prop), Q' () s₁ → wpAny (model P w) A (g b) Q' E s₁)
    (ho : s.heap.get? a = some o) (hex : o.ExactSet) (hd : o.data = .set es ep t) {es1 : Array (Int × Value)} {t2 : SetTable} {js : List κ}
    (g1 : ∀ e ∈ es1.toList, ∃ k tk, e.2 = D.val k tk ∧ e.1 = D.knd.hash k) (p1 : (D.keys es1).Perm js) (nd1 : js.Nodup) (hb1 : js.length < scanBound) (hf2 : t2.fits es1.size = true) (hr : Ris t2.place.toList)
    (hl : w.params.followText "set-order" = true ∨ t2.led = true) {wasDummy : Bool} {R : Option Bool → Shared → Prop}
    (hR : ∀ h', Heap.SameBut a s.heap h' → SetGx D h' a js → R (some true) { s with heap := h' }) :
    wpAny (model P w) A (do
        storeSet a es1 t2
        if (!wasDummy && t2.tooFull) = true then do
            g (relayAll t2 es1 (SetTable.grown es1.size)).2.2
            storeSet a (relayAll t2 es1 (SetTable.grown es1.size)).1 (relayAll t2 es1 (SetTable.grown es1.size)).2.1
            pure (some true)
          else pure (some true)) R E s := by
  have z1 : es1.size = js.length := by
    rw [← p1.length_eq]; unfold Kd.keys; rw [List.length_map, Array.length_toList]
  have b1 : es1.size < scanBound := by omega
  refine wpAny_bind (wpAny_storeSet_of ho hd ?_ (fits_of_scanBound b1))
  have o1 := store_at (es' := es1) (t' := t2) ho hd
  have same := Heap.SameBut.update s.heap a (Obj.putSet es1 t2)
  split
  · have pm := relayAll_perm t2 es1 (SetTable.grown es1.size)
    have f3 := relayAll_fits t2 es1 (SetTable.grown es1.size)
    have r3 := relayAll_ris t2 es1 (SetTable.grown es1.size)
    have l3 := relayAll_led t2 es1 (SetTable.grown es1.size)
    generalize relayAll t2 es1 (SetTable.grown es1.size) = Z at pm f3 r3 l3 ⊢
    obtain ⟨es2, t3, gave⟩ := Z
    dsimp only at pm f3 r3 l3 ⊢
    have z2 : es2.size = es1.size := by rw [← Array.length_toList, pm.length_eq, Array.length_toList]
    refine wpAny_bind (hg _ _ _ (wpAny_bind (wpAny_storeSet_of o1 rfl ?_ (fits_of_scanBound (by omega)))))
    have o2 := store_at (es' := es2) (t' := t3) o1 rfl
    refine wpAny_pure (hR _ (same.trans (Heap.SameBut.update _ a _)) ⟨_, es2, _, t3, o2, hex, rfl, fun e he => g1 e (pm.mem_iff.mp he), (pm.map _).trans p1, nd1, hb1, f3, r3, ?_⟩)
    rcases hl with z | z
    · exact .inl z
    · exact .inr (by rw [l3]; exact z)
  · exact wpAny_pure (hR _ same ⟨_, es1, _, t2, o1, hex, rfl, g1, p1, nd1, hb1, hf2, hr, hl⟩)
theorem setG_add {k : κ} {tk : Tok} {Q : Bool → Shared → Prop} (R : SetGx D s.heap a ks) (room : ks.length + 1 < scanBound)
    (hQ : ∀ b h', Heap.SameBut a s.heap h' → SetGx D h' a (grownBy ks k) → Q b { s with heap := h' }) :
    wpAny (model P w) A (setAddHashed a (D.val k tk) (D.knd.hash k)) Q E s := by
  obtain ⟨o, es, ep, t, R⟩ := R
  have hkey : D.knd.is k (D.val k tk) = true := (D.his k k tk).2 rfl
  have hsc := D.hsc k tk
  have hel := R.elems
  have hb : es.size < scanBound := by rw [R.sz]; exact R.lt
  unfold setAddHashed setAddHashedIn
  refine wpAny_holding (wpAny_bind (wpAny_setState_of R.ob R.dt R.ft ?_))
  dsimp only
  rw [byScan_of hsc hb hel]
  simp only [↓reduceIte]
  unfold setAddByScan
  refine wpAny_bind (wpAny_bind (wpAny_rule (wpAny_bind (wpAny_setScan_of hkey R.ob R.dt R.ft hel ?_))))
  cases hfi : List.findIdx? (fun e => D.knd.is k e.2) es.toList with
  | some j =>
    dsimp only
    obtain ⟨hj, pj, _⟩ := List.findIdx?_eq_some_iff_getElem.mp hfi
    have hin : k ∈ ks := (R.mem k).2 ⟨es.toList[j], List.getElem_mem hj, pj⟩
    exact wpAny_pure (wpAny_pure (hQ _ s.heap (Heap.SameBut.refl a s.heap) (by unfold grownBy; rw [if_pos hin]; exact ⟨o, es, ep, t, R⟩)))
  | none =>
    dsimp only
    have hno : k ∉ ks := fun z => by
      obtain ⟨e, he, q⟩ := (R.mem k).1 z
      have c := List.findIdx?_eq_none_iff.mp hfi e he
      rw [q] at c
      cases c
    have gw : ∀ (b : Bool) {s₁ : Shared} {Q' : Unit → Shared → Prop}, Q' () s₁ → wpAny (model P w) A (match b with | true => rule "set.scan.the-table-gave-way" | false => pure ()) Q' E s₁ :=
      fun b s₁ Q' q => by cases b <;> first | exact wpAny_pure q | exact wpAny_rule q
    have pm := layNew_perm t es (D.knd.hash k) (D.val k tk)
    have f1 := layNew_fits t es (D.knd.hash k) (D.val k tk)
    have r1 := layNew_ris t es (D.knd.hash k) (D.val k tk) R.rs
    have l1 := layNew_led t es (D.knd.hash k) (D.val k tk)
    generalize layNew t es (D.knd.hash k) (D.val k tk) = Z at pm f1 r1 l1 ⊢
    obtain ⟨es1, t1, wasDummy, gave⟩ := Z
    dsimp only at pm f1 r1 l1 ⊢
    rw [Array.toList_push] at pm
    have pc : es1.toList.Perm ((D.knd.hash k, D.val k tk) :: es.toList) := pm.trans (List.perm_append_singleton _ _)
    have pk : (D.keys es1).Perm (k :: ks) := by
      refine (pc.map _).trans ?_
      rw [List.map_cons]
      show (D.key (D.val k tk) :: _).Perm _
      rw [D.hk]
      exact R.pm.cons k
    have g1 : ∀ e ∈ es1.toList, ∃ k tk, e.2 = D.val k tk ∧ e.1 = D.knd.hash k := fun e he => by
      rcases List.mem_cons.mp (pc.mem_iff.mp he) with z | z
      · rw [z]; exact ⟨k, tk, rfl, rfl⟩
      · exact R.el e z
    have led1 : w.params.followText "set-order" = true ∨ t1.led = true := R.ld.imp id fun z => by rw [l1]; exact z
    have fin : ∀ h', Heap.SameBut a s.heap h' → SetGx D h' a (k :: ks) → Q true { s with heap := h' } := fun h' sb r => hQ true h' sb (by unfold grownBy; rw [if_neg hno]; exact r)
    have nd1 : (k :: ks).Nodup := List.nodup_cons.mpr ⟨hno, R.nd⟩
    refine wpAny_bind (gw _ ?_)
    split
    · refine wpAny_bind ?_
      rw [hashByValue_scannable 8 hsc]
      refine wpAny_pure ?_
      refine setG_tail (D := D) ?_ R.ob R.ex R.dt g1 pk nd1 room ?_ ?_ ?_ ?_
      · intro b s₁ Q' q; cases b <;> first | exact wpAny_pure q | exact wpAny_rule q
      · first | (split <;> first | exact f1 | exact SetTable.fits_plain_off f1) | exact f1
      · first | (split <;> exact r1) | exact r1
      · first | (split <;> exact led1) | exact led1
      · intro h' sb r; dsimp only; exact wpAny_pure (fin h' sb r)
    · refine wpAny_bind (wpAny_pure ?_)
      simp only [↓reduceIte]
      refine setG_tail (D := D) ?_ R.ob R.ex R.dt g1 pk nd1 room f1 r1 led1 ?_
      · intro b s₁ Q' q; cases b <;> first | exact wpAny_pure q | exact wpAny_rule q
      · intro h' sb r; dsimp only; exact wpAny_pure (fin h' sb r)
end
open PySem L2 Evl PyProof.Rows
section
variable {P : Program} {w : PySem.World} {κ : Type} [DecidableEq κ] {D : Kd P w κ} {A : Around} {E : Value → Shared → Prop} {s : Shared} {a : Addr}
abbrev freshSet (w : PySem.World) : Obj := { cls := .type "set", dict := none, data := .set #[] 0 (.fresh 0 0 (!w.params.followText "set-order")) }
theorem set_new1 (x : Value) {Q₁ : Value → Shared → Prop} (h : Q₁ (.ref s.heap.objs.size) { s with heap := s.heap.push (freshSet w) }) :
    codeAny (model P w) A (.call (.builtin "set.__new__") ⟨[.type "set", x], []⟩) (wants Q₁ E) s := by
  refine codeAny_of_tree (show wpAny _ A.in1 (do checkBuiltinCall "set.__new__" ⟨[.type "set", x], []⟩; again (.builtin "set.__new__" ⟨[.type "set", x], []⟩)) _ _ s from ?_)
  refine wpAny_bind (wpAny_of_eq (PySem.F.newCall_set_1 x) (wpAny_pure ⟨plainId_quiet PySem.F.plain_set_new _, codeAny_builtin PySem.F.entry_set_new ?_⟩))
  rw [Around.under_plainId PySem.F.plain_set_new _]
  unfold Builtin.«set.__new__» Builtin.Frozenset.newClass
  have hsub := sub_set_self
  obtain ⟨hp, g, d, tk, os⟩ := s
  dsimp only
  wp_walk
  refine wpAny_askSetting (wpAny_pure ?_)
  dsimp only
  simp only [newObj]
  exact wpAny_bind (wpAny_alloc (wpAny_pure (wpAny_pure h)))
theorem setG_fresh {h h' : Heap} (k : ∀ o, (h.push (freshSet w)).get? h.objs.size = some o → h'.get? h.objs.size = some o) : SetGx D h' h.objs.size [] :=
  ⟨freshSet w, #[], 0, _, k _ (Heap.get?_push_size _ rfl), ⟨rfl, rfl, rfl⟩, rfl, (fun e he => by simp at he), .nil, List.nodup_nil, (show 0 < scanBound by decide), (by rfl), List.Pairwise.nil, by
    show _ ∨ (!w.params.followText "set-order") = true
    cases w.params.followText "set-order"
    · exact .inr rfl
    · exact .inl rfl⟩
theorem grown_len (ks : List κ) (k : κ) : (grownBy ks k).length ≤ ks.length + 1 := by
  unfold grownBy
  split
  · omega
  · exact Nat.le_refl _
theorem fold_len : ∀ (xs ks : List κ), (xs.foldl grownBy ks).length ≤ ks.length + xs.length
  | [], ks => Nat.le_refl _
  | x :: r, ks => by
    have h1 := fold_len r (grownBy ks x)
    have h2 := grown_len ks x
    show (r.foldl grownBy (grownBy ks x)).length ≤ ks.length + (r.length + 1)
    omega
theorem fold_mem : ∀ (xs ks : List κ) (k : κ), k ∈ xs.foldl grownBy ks ↔ k ∈ ks ∨ k ∈ xs
  | [], ks, k => by simp
  | x :: r, ks, k => by
    show k ∈ r.foldl grownBy (grownBy ks x) ↔ _
    rw [fold_mem r, List.mem_cons]
    unfold grownBy
    by_cases hx : x ∈ ks
    · rw [if_pos hx]
      constructor
      · rintro (h | h)
        · exact .inl h
        · exact .inr (.inr h)
      · rintro (h | h | h)
        · exact .inl h
        · exact .inl (h ▸ hx)
        · exact .inr h
    · rw [if_neg hx, List.mem_cons]
      constructor
      · rintro ((h | h) | h)
        · exact .inr (.inl h)
        · exact .inl h
        · exact .inr (.inr h)
      · rintro (h | h | h)
        · exact .inl (.inr h)
        · exact .inl (.inl h)
        · exact .inr h
section
variable {R : Result → Shared → Prop} {I : Addr} {fp wr : List Addr} {G : Array GenState → Array GenState → Prop} {n : Nat} {Pv : Nat → Value → Prop} {St : Nat → Shared → Prop}
theorem set_loop (W : WalksS P w A.in1 I fp wr G n Pv St) (S : Addr) (hSf : S ∉ fp) (xs : List κ) (hsz : xs.length = n) (hval : ∀ i v, Pv i v → ∃ k t, xs[i]? = some k ∧ v = D.val k t) :
    ∀ (m i : Nat) (s : Shared) (ks : List κ), n - i = m → i ≤ n → St i s → SetGx D s.heap S ks → ks.length + m + 1 < scanBound →
      (∀ s', Moved (S :: wr) G s s' → SetGx D s'.heap S ((xs.drop i).foldl grownBy ks) → R (.ok (.ret .none)) s') →
      codeAny (model P w) A (.builtin "set.update.loop" ⟨[.ref S, .ref I], []⟩) R s := by
  have hSw : S ∉ wr := fun h => hSf (W.sub _ h)
  have wider : ∀ b ∈ wr, b ∈ S :: wr := fun b hb => List.mem_cons_of_mem _ hb
  intro m
  induction m with
  | zero =>
    intro i s ks hk hi hst hS hb hR
    obtain rfl : i = n := by omega
    refine codeAny_builtin PyProof.Rows.F.entry_set_update_loop ?_
    rw [Around.under_plainId PyProof.Rows.F.plain_set_update_loop _]
    refine (show wpAny _ A.in1 (pyNext (.ref I) >>= _) _ _ s from wpAny_bind (W.done s _ _ hst fun s' hm => ?_))
    refine (show wpAny _ A.in1 (ret Value.none) _ _ s' from wpAny_pure (hR s' (hm.mono wider) ?_))
    rw [← hsz, List.drop_length]
    exact hS.at fun o e => hm.heap S o hSw e
  | succ m ih =>
    intro i s ks hk hi hst hS hb hR
    have hlt : i < n := by omega
    refine codeAny_builtin PyProof.Rows.F.entry_set_update_loop ?_
    rw [Around.under_plainId PyProof.Rows.F.plain_set_update_loop _]
    refine (show wpAny _ A.in1 (pyNext (.ref I) >>= _) _ _ s from wpAny_bind (W.item i s _ _ hlt hst fun v s' hP hst' hm => ?_))
    obtain ⟨k, t, hx, rfl⟩ := hval i v hP
    have hS' : SetGx D s'.heap S ks := hS.at fun o e => hm.heap S o hSw e
    show wpAny _ A.in1 (holding [D.val k t] (setAdd S (D.val k t)) >>= _) _ _ s'
    refine wpAny_bind (wpAny_holding ?_)
    unfold setAdd
    refine wpAny_holding (wpAny_bind (D.knd.pyHash (k := k) ((D.his k k t).2 rfl) ?_))
    refine setG_add (D := D) (s := { s' with toks := s'.toks + 1 }) hS' (by omega) fun b h' hsb hS2 => ?_
    have hgl := grown_len ks k
    refine wpAny_pure ⟨plainId_quiet PyProof.Rows.F.plain_set_update_loop _, ih (i + 1) _ (grownBy ks k) (by omega) hlt (W.frame _ s' _ _ hst' (Nat.le_succ _) fun b hb o e => ?_) hS2 (by omega) fun s'' hm'' hS'' => ?_⟩
    · rw [hsb.2 b (fun h : b = S => hSf (by rw [← h]; exact hb))]; exact e
    · refine hR s'' (Moved.trans W.gtrans ((hm.mono wider).then_heap (Nat.le_succ _) fun b o hb e => ?_) hm'') ?_
      · rw [hsb.2 b (fun h : b = S => hb (by rw [h]; exact List.mem_cons_self))]; exact e
      · have hi' : i < xs.length := by omega
        have ek : xs[i] = k := by
          rw [List.getElem?_eq_getElem hi'] at hx
          exact Option.some.inj hx
        rw [List.drop_eq_getElem_cons hi', ek]
        exact hS''
end
end
open PySem L2 Evl PyProof.Rows
section
variable {P : Program} {w : PySem.World} {κ : Type} [DecidableEq κ] {D : Kd P w κ} {A : Around} {E : Value → Shared → Prop} {s : Shared} {a : Addr}
theorem call_setG {l : Addr} {items : Array Value} {xs : List κ} {Q : Value → Shared → Prop} (hh : A.handled = none) (hl : s.heap.IsList l items) (hlen : xs.length = items.size)
    (hit : ∀ (i : Nat) (v : Value), items[i]? = some v → ∃ k t, xs[i]? = some k ∧ v = D.val k t) (hb : items.size + 1 < scanBound)
    (h : ∀ (h' : Heap) (tk : Nat), SetGx D h' s.heap.objs.size (xs.foldl grownBy []) → (∀ b o, b < s.heap.objs.size → s.heap.get? b = some o → h'.get? b = some o) → Q (.ref s.heap.objs.size) { s with heap := h', toks := tk }) :
    wpAny (model P w) A (call (.type "set") [.ref l]) Q E s := by
  obtain ⟨c, tl, hmro⟩ := PySem.F.called_set.mro
  have hmade := PySem.F.called_set.made
  have hsub := PySem.F.called_set.sub
  refine wpAny_call (codeAny_of_tree (show wpAny _ _ (callAny (.type "set") _) _ _ _ from wpAny_pure ⟨Code.quiet_builtin _ (by decide +kernel), codeAny_builtin PySem.F.entry_type_call ?_⟩))
  rw [Around.under_plain (weight_type_call_type "set" [.ref l] []) rfl]
  have h1 := PySem.F.called_set.notType
  have h2 := PySem.F.called_set.canCreate
  have hct := PySem.F.typeCall_set_1 (.ref l)
  repeat (any_goals (first | assumption | wp_step))
  refine codeAny_mono (set_new1 (.ref l) (E := E) (Q₁ := fun obj s₁ => obj = .ref s.heap.objs.size ∧ s₁ = { s with heap := s.heap.push (freshSet w) }) ⟨rfl, rfl⟩) fun r s₁ hr => ?_
  cases r with
  | error e => exact hr
  | ok fl =>
  cases fl with
  | next => exact hr.elim
  | brk => exact hr.elim
  | cont => exact hr.elim
  | ret obj =>
  obtain ⟨rfl, rfl⟩ := hr
  have hS : (s.heap.push (freshSet w)).get? s.heap.objs.size = some (freshSet w) := Heap.get?_push_size _ rfl
  have hT : Shared.TypeIs { s with heap := s.heap.push (freshSet w) } (.ref s.heap.objs.size) "set" := ⟨_, hS, rfl⟩
  have hli := PySem.F.called_set.init.lookup
  have hbi := PySem.F.called_set.init.bind (.ref s.heap.objs.size)
  repeat (any_goals (first | assumption | wp_step))
  refine codeAny_mono (codeAny_call_builtin (R := wants (fun r s₂ => r = .none ∧ ∃ h' tk, s₂ = { s with heap := h', toks := tk } ∧ SetGx D h' s.heap.objs.size (xs.foldl grownBy []) ∧ ∀ b o, b < s.heap.objs.size → s.heap.get? b = some o → h'.get? b = some o) E) PySem.F.called_set.init.plain PySem.F.entry_set_init (check_set_init_1 hT ?_)) fun r₂ s₂ hr₂ => ?_
  · obtain ⟨ol, hol, hcl, nl, hdl⟩ := hl
    obtain ⟨ocls, odict, odata, oslots⟩ := ol
    simp only at hcl hdl
    subst hcl; subst hdl
    have hol' : (s.heap.push (freshSet w)).get? l = some { cls := .type "list", dict := odict, data := .seq items nl, slots := oslots } := Heap.get?_push_of_some _ hol
    have hsls := PySem.F.sub_list_set
    have hslf := PySem.F.sub_list_frozenset
    have hne : (Value.type "list" == Value.type "dict") = false := by decide
    have hl1 : (s.heap.push (freshSet w)).IsList l items := ⟨_, hol', rfl, nl, rfl⟩
    unfold Builtin.«set.__init__» noKeywords Builtin.Frozenset.updateFrom
    generalize hPI : pyIter = PI
    wp_walk
    subst hPI
    refine wpAny_pyIter_list hl1 (wpAny_bind (wpAny_runValue ?_))
    have low : l < s.heap.objs.size := Heap.lt_size hol
    have hh3 : A.in1.in1.in1.handled = none := by simp [hh]
    have apart : l ≠ (s.heap.push (freshSet w)).objs.size := by
      rw [Heap.size_push]; exact Nat.ne_of_lt (Nat.lt_succ_of_lt low)
    have out : s.heap.objs.size ∉ [(s.heap.push (freshSet w)).objs.size, l] := by
      rw [Heap.size_push]
      intro z
      rcases List.mem_cons.mp z with z | z
      · exact absurd z (Nat.ne_of_lt (Nat.lt_succ_self _))
      · exact absurd (List.mem_singleton.mp z) (Nat.ne_of_gt low)
    refine set_loop (D := D) ((Walks.list hh3 _ l apart items).toS) s.heap.objs.size out xs hlen hit (items.size - 0) 0 _ [] (by omega) (Nat.zero_le _) ⟨⟨_, Heap.get?_push_size _ rfl, rfl, rfl⟩, (hl1.push _)⟩ ?hS0 (by simp only [List.length_nil]; omega) ?hR
    case hS0 => exact setG_fresh fun o e => Heap.get?_push_of_some _ e
    case hR =>
      intro s' hm hS'
      obtain ⟨h', g', d', tk', os'⟩ := s'
      have eg : g' = s.gens := hm.gens
      have ed : d' = s.drawn := hm.drawn
      have eo : os' = s.os := hm.os
      subst eg; subst ed; subst eo
      refine wpAny_pure (show wpAny _ _ (ret Value.none) _ _ _ from wpAny_pure ⟨rfl, h', tk', rfl, hS', fun b o hb e => ?_⟩)
      refine hm.heap b o (fun z => ?_) (Heap.get?_push_of_some _ (Heap.get?_push_of_some _ e))
      rw [Heap.size_push] at z
      rcases List.mem_cons.mp z with z | z
      · exact absurd z (Nat.ne_of_lt hb)
      · exact absurd (List.mem_singleton.mp z) (Nat.ne_of_lt (Nat.lt_succ_of_lt hb))
  · cases r₂ with
    | error e => exact hr₂
    | ok fl₂ =>
      cases fl₂ with
      | ret r =>
        obtain ⟨rfl, h', tk, rfl, hS', hk'⟩ := hr₂
        repeat (any_goals (first | assumption | wp_step))
        exact h _ _ hS' hk'
      | _ => exact hr₂.elim
theorem strs_keys : ∀ (vs : List Value), (∀ v ∈ vs, ∃ k tk, v = Value.str k tk) → StrsAre vs (vs.map (kdS P w).key)
  | [], _ => .nil
  | v :: r, h => by
    obtain ⟨k, tk, rfl⟩ := h v List.mem_cons_self
    exact .cons _ _ (strs_keys r fun u hu => h u (List.mem_cons_of_mem _ hu))
theorem sorted_setS {ks : List Str} {Q : Value → Shared → Prop} (R : SetGx (kdS P w) s.heap a ks) (hh : A.handled = none)
    (hQ : ∀ s' p (out : Array Value) (c : Nat) (ys : List Str), (∀ b o, s.heap.get? b = some o → s'.heap.get? b = some o) → s'.gens = s.gens → s'.os = s.os → s.heap.objs.size ≤ p → s'.heap.get? p = some (seqObj "list" out c) → StrsAre out.toList ys → ys.Perm ks → sortedS ys = true → Q (.ref p) s') :
    wpAny (model P w) A (call (.builtin "sorted") [.ref a]) Q E s := by
  obtain ⟨o, es, ep, t, R⟩ := R
  have hb : es.size < scanBound := by rw [R.sz]; exact R.lt
  refine Calls.call_function_entry kind_sorted plain_sorted entry_sorted (args_sorted1 _) ?_
  unfold Builtin.«sorted»
  refine wpAny_bind (m := checkCount "sorted" 1 1 _) (wpAny_pure (wpAny_bind (collect_set (A := A.in1) hh ⟨o, R.ob, R.ex.1, R.dt⟩ R.ft hb R.rs R.ld fun s1 vs k1 hz g1 o1 pm => ?_)))
  have hvs : ∀ v ∈ vs, ∃ k tk, v = Value.str k tk := fun v hv => by
    obtain ⟨e, he, q⟩ := List.mem_map.mp (pm.mem_iff.mp hv)
    obtain ⟨k, tk, h1, _⟩ := R.el e he
    exact ⟨k, tk, by rw [← q]; exact h1⟩
  have hS := strs_keys (P := P) (w := w) vs hvs
  have pk : (vs.map (kdS P w).key).Perm ks := by
    refine (pm.map _).trans ?_
    rw [List.map_map]
    exact R.pm
  have hvl : vs.length ≤ sizeLine := by
    have e : vs.length = ks.length := by rw [← pk.length_eq, List.length_map]
    rw [e]
    exact fits_of_scanBound R.lt
  refine wpAny_bind (wpAny_newList ?_ hvl)
  have hoL : (s1.heap.push (seqObj "list" vs.toArray 0)).get? s1.heap.objs.size = some (seqObj "list" vs.toArray 0) := Heap.get?_push_size _ rfl
  refine wpAny_bind (wpAny_holding (wpAny_call_entry slot_list_sort ⟨_, hoL, rfl⟩ entry_list_sort (list_sort_treeKSt strKind_oneLt hoL hS.keysOf (fun v₁ v₂ rest e => keyKind_strs (by rw [← e]; exact hS)) hvl fun st' hp hs _ => ⟨_, rfl, ?_⟩) (args_list_sort _)))
  obtain ⟨ys, q1, q2, q3⟩ := sorted_out_str hS hp hs
  obtain ⟨c, hc⟩ := sortedHeap_at (vs := vs) (out := (arrOf st').map (·.2)) hoL
  refine wpAny_pure ⟨_, rfl, hQ _ s1.heap.objs.size _ c ys (fun b u e => ?_) g1 o1 hz hc q1 (q2.trans pk) q3⟩
  have q := k1 b u e
  have hlt := Heap.lt_size q
  show (sortedHeap (s1.heap.push (seqObj "list" vs.toArray 0)) s1.heap.objs.size vs _).get? b = some u
  rw [sortedHeap_old (Nat.ne_of_lt hlt) (by rw [Heap.size_push]; exact Nat.lt_succ_of_lt hlt)]
  exact Heap.get?_push_of_some _ q
end
open PySem L2 Evl PyProof.Rows
def SetSO (P : Program) (w : PySem.World) (a : Addr) (ks : List Str) : HO := .ext fun h => SetGx (kdS P w) h a ks
theorem setSO_new {P : Program} {w : PySem.World} {H : Hp} {h : Heap} {a : Addr} {ks : List Str} (R : SetGx (kdS P w) h a ks) : ObjOk P w H h a (SetSO P w a ks) := by
  have ⟨o, _, _, _, r⟩ := R
  exact ⟨R, ⟨o, r.ob⟩, fun h1 h2 p k => SetGx.at p k⟩
def rSetS (K : PySem.W.Frag) (P : Program) (w : PySem.World) : List V → Hp → VK → Prop := fun xs H Q => ∃ (l : Addr) (ks : List Str), xs = [V.ref l] ∧ SqL K H l (ks.map V.str) ∧ ks.length + 1 < scanBound ∧ ∀ p, H p = none → Q (.ref p) (upd H p (SetSO P w p (ks.foldl grownBy [])))
def rSortSetS (P : Program) (w : PySem.World) : List V → Hp → VK → Prop := fun vs H Q => ∃ (a : Addr) (ks : List Str), vs = [V.ref a] ∧ H a = some (SetSO P w a ks) ∧ ∀ (ys : List Str) (p : Addr), ks.Nodup → ks.length < scanBound → ys.Perm ks → sortedS ys = true → H p = none → Q (.ref p) (upd H p (.lst (ys.map V.str)))
section
variable {X : Cx}
theorem cr_setS (hc : X.calm = true) : CallR X (.type "set") (rSetS X.K X.prog X.w) := by
  intro pins s σ H xs us Q I r h
  obtain ⟨l, ks, rfl, hs, hb, q⟩ := h
  obtain ⟨its, rv, hl, hz⟩ := I.list hs
  rw [Vals.ref1 r]
  have hlen := rv.length
  rw [List.length_map] at hlen
  have hS := rv.strs
  refine call_setG (D := kdS X.prog X.w) (xs := ks) (I.ok.hd hc) hl.isList (by rw [List.size_toArray]; exact hlen) (fun i v hv => ?_) (by rw [List.size_toArray]; omega) fun h' tk R kp => ?_
  · rw [List.getElem?_toArray] at hv
    obtain ⟨t, e⟩ := SS.strs_at hS i v hv
    have hi : i < ks.length := by
      have := (List.getElem?_eq_some_iff.mp hv).1
      omega
    refine ⟨ks[i], t, List.getElem?_eq_getElem hi, ?_⟩
    rw [e, List.getD_eq_getElem?_getD, List.getElem?_eq_getElem hi]; rfl
  · exact ⟨.ref _, _, I.laid (t' := tk) (fun b o e => kp b o (Heap.lt_size e) e) (Nat.le_refl _) (setSO_new R), rfl, q _ (I.hok.fresh (Nat.le_refl _))⟩
theorem cr_sortSetS (hc : X.calm = true) : CallR X (.builtin "sorted") (rSortSetS X.prog X.w) := by
  intro pins s σ H vs us Q I r h
  obtain ⟨a, ks, rfl, ha, q⟩ := h
  have R : SetGx (kdS X.prog X.w) s.heap a ks := (I.hok a _ ha).1
  have ⟨o, es, ep, t, r1⟩ := R
  rw [Vals.ref1 r]
  refine sorted_setS R (I.ok.hd hc) fun s' p out c ys k g o hp hg hi pm hs => ?_
  have hlen : (ys.map V.str).length ≤ sizeLine := by rw [List.length_map, pm.length_eq]; exact fits_of_scanBound r1.lt
  have hn : H p = none := I.hok.fresh hp
  have J : Inv X pins σ (upd H p (.lst (ys.map V.str))) { s with heap := s'.heap, gens := s'.gens, drawn := s'.drawn, toks := s'.toks } :=
    I.call (ch := []) (Un.laid k hp hn) (I.hok.laid k hp ⟨hlen, out.toList, c, vals_of_strs hi, hg⟩) (by rw [g]; exact I.bare) (fun _ z => nomatch z)
  have e : s' = { s with heap := s'.heap, gens := s'.gens, drawn := s'.drawn, toks := s'.toks } := by
    cases s'
    cases s
    cases o
    rfl
  rw [e]
  exact ⟨.ref p, _, J, rfl, q ys p r1.nd r1.lt pm hs hn⟩
/-! # a reading's closure, and sorted(set(e)) as one -/
def tMono (te : TE) : TE := fun σ H Q => ∃ B : VK, te σ H B ∧ ∀ x H1, B x H1 → Q x H1
theorem pe_mono {e : Expr} {te : TE} (he : PE X e te) : PE X e (tMono te) := ⟨fun pins s σ H Q I ⟨B, h, imp⟩ => thn (he.run pins s σ H B I h) fun v s1 ⟨x, H1, I1, r1, q1⟩ => ⟨x, H1, I1, r1, imp x H1 q1⟩⟩
theorem PE.imp {e : Expr} {te tf : TE} (he : PE X e te) (h : ∀ σ H Q, tf σ H Q → te σ H Q) : PE X e tf := ⟨fun pins s σ H Q I q => he.run pins s σ H Q I (h σ H Q q)⟩
def tSortS (K : PySem.W.Frag) (te : TE) : TE := fun σ H Q => te σ H fun x H1 => ∃ (l : Addr) (xs : List Str), x = .ref l ∧ SqL K H1 l (xs.map V.str) ∧ xs.length + 1 < scanBound ∧ ∀ (ys : List Str) (q p : Addr) (o : HO), ys.Nodup → ys.length ≤ xs.length → (∀ y, y ∈ ys ↔ y ∈ xs) → sortedS ys = true → H1 q = none → upd H1 q o p = none → Q (.ref p) (upd (upd H1 q o) p (.lst (ys.map V.str)))
theorem pe_sortS {e : Expr} {te : TE} {p p2 pos pos2 : Pos} (hc : X.calm = true) (hg : Gl X "sorted") (hm : X.mg "sorted" = none) (hg2 : Gl X "set") (hm2 : X.mg "set" = none) (hb : bootBuiltins "set" = some (.type "set")) (hb1 : bootBuiltins "sorted" = some (.builtin "sorted")) (he : PE X e te)
    (s1 : starEach [Expr.Call (.Name "set" p2) [e] [] pos2] X.env = (false, eval (Expr.Call (.Name "set" p2) [e] [] pos2) X.env) :: starEach [] X.env := by rfl) (s2 : (backTo pos (starEach [] X.env)).any (·.1) = false := by rfl)
    (s3 : starEach [e] X.env = (false, eval e X.env) :: starEach [] X.env := by rfl) (s4 : (backTo pos2 (starEach [] X.env)).any (·.1) = false := by rfl) :
    PE X (.Call (.Name "sorted" p) [.Call (.Name "set" p2) [e] [] pos2] [] pos) (tSortS X.K te) := by
  refine PE.imp (pe_callB (cr_sortSetS hc) hg hm hb1 (pa_cons (pe_callTy (cr_setS hc) hg2 hm2 hb (pa_cons (pe_mono he) pa_nil (hs := s3)) (by decide) (by decide) s3 s4) pa_nil) (by decide) (by decide) s1 s2) fun σ H Q h => ?_
  refine ⟨_, h, fun x H1 ⟨l, xs, ex, hx, hl, q⟩ => ⟨l, xs, by rw [ex], hx, hl, fun a ha => ⟨a, _, rfl, upd_same, fun ys p hn hlt pm hs hp => ?_⟩⟩⟩
  refine q ys a p _ (pm.nodup_iff.mpr hn) (by rw [pm.length_eq]; have := fold_len xs []; simpa using this) (fun y => ?_) hs ha hp
  rw [pm.mem_iff, fold_mem]
  simp
end
section
variable {K : PySem.W.Frag} {W : Ent} {σ : L2.St} {G : Hp} {M : Mem} {te : TE} {C : V → Hp → Mem → Prop}
theorem sw_sortS {xs : List Str} (h : EvD K te σ G (.list (xs.map .str))) (hl : xs.length + 1 < scanBound) (c : ∀ ys v G', risesS ys = true → ys.length ≤ xs.length → (∀ y, y ∈ ys ↔ y ∈ xs) → Ex G G' → Da K G' v (.list (ys.map .str)) → C v G' M) : Sw W (tSortS K te) σ G M C := fun H w Q q =>
  h G H (Ex.refl G) w.gh _ fun v G' H' g dv => by
    have w' := w.grow g
    cases dv with
    | lst h r =>
      have e := r.strs
      subst e
      refine ⟨_, xs, rfl, SqL.of (g.gh _ _ h), hl, fun ys a p o hn hyl hm hs ha hp => ?_⟩
      have w2 := w'.ext (Ex.new (o := o) ha)
      exact q _ _ M _ (w2.grow (Grow.new w2.gh hp)) (c ys _ _ (rises_of_sorted hs hn) hyl hm (g.gg.trans (Ex.new (fresh_back w2.gh hp))) (.lst upd_same (DaL.ofStrs ys)))
end
section
variable {K : PySem.W.Frag} {W : Ent} {σ : L2.St} {G : Hp} {M : Mem} {ta tb : TE} {ds es : List PyData} {a b : Addr} {xs ys : List V}
/-! # zip of lists or of tuples -/
theorem steps_zipT (h : SqT K G a xs) (r : DaL K G xs ds) (h' : SqT K G b ys) (r' : DaL K G ys es) : Steps K (RZ.ItzT K a b) G (zipD ds es) where
  go := fun i H e hi => by
    rw [zipD_len] at hi
    have hx : i < xs.length := by rw [r.len]; omega
    have hy : i < ys.length := by rw [r'.len]; omega
    exact ⟨xs, ys, xs[i], ys[i], ex_t e h, ex_t e h', List.getElem?_eq_getElem hx, List.getElem?_eq_getElem hy⟩
  yld := fun i d G2 H v H' hd e e2 hy => by
    obtain ⟨T, x, y, rfl, hT, rfl, h1, h2⟩ := hy
    obtain ⟨dx, dy, g1, g2, rfl⟩ := zip_get hd
    obtain ⟨d1, z1, q1⟩ := r.getV (h1 xs (ex_t e2 (ex_t e h)))
    obtain ⟨d2, z2, q2⟩ := r'.getV (h2 ys (ex_t e2 (ex_t e h')))
    rw [g1] at z1; cases z1
    rw [g2] at z2; cases z2
    have en := Ex.new (o := HO.tup [x, y]) (fresh_back e2 hT)
    exact ⟨_, Grow.new e2 hT, .tup (SqT.of upd_same) (.cons ((q1.mono e).mono en) (.cons ((q2.mono e).mono en) .nil))⟩
  stop := fun i H e hi => by
    rw [zipD_len] at hi
    refine ⟨xs, ys, ex_t e h, ex_t e h', ?_⟩
    rw [r.len, r'.len]; omega
theorem it_zipA {ta : TA} {as bs : List PyData} (h : EvA K ta σ G [.list as, .list bs]) : IterD K (RZ.iZipA K ta) σ G (zipD as bs) := fun G1 H e e2 R q =>
  h G1 H e e2 _ fun vs G' H' g dv => by
    obtain ⟨v, w, rfl, hv, hw⟩ := dv.two_inv
    cases hv with
    | lst h r =>
      cases hw with
      | lst h' r' => exact ⟨_, _, _, _, rfl, .inl ⟨SqL.of (g.gh _ _ h), SqL.of (g.gh _ _ h'), q _ G' H' g (steps_zip h r h' r')⟩⟩
theorem it_zipT {ta : TA} {as bs : List PyData} (h : EvA K ta σ G [.tuple as, .tuple bs]) : IterD K (RZ.iZipA K ta) σ G (zipD as bs) := fun G1 H e e2 R q =>
  h G1 H e e2 _ fun vs G' H' g dv => by
    obtain ⟨v, w, rfl, hv, hw⟩ := dv.two_inv
    cases hv with
    | tup h r =>
      cases hw with
      | tup h' r' => exact ⟨_, _, _, _, rfl, .inr ⟨ex_t g.gh h, ex_t g.gh h', q _ G' H' g (steps_zipT h r h' r')⟩⟩
/-! # xs * 0, xs * 1 -/
theorem rd_rep (c : Bool) (hl : ds.length ≤ 50000) : RD2 K kMul G (.list ds) (.int (if c = true then 1 else 0)) (.list (if c = true then ds else [])) := rd_or2 fun G1 H e e' v w hv hw Q q => by
  obtain rfl := hw.int_eq
  cases hv with
  | lst h r =>
    have hx := r.len
    cases c with
    | true => exact ⟨_, 1, _, rfl, rfl, e' _ _ h, by decide, by decide, sz_of (by show _ * 1 ≤ _; omega), fun p hp => q _ _ _ (Grow.new e' hp) (.lst upd_same (by
        show DaL K _ (List.flatten [_]) ds
        rw [List.flatten_singleton]
        exact r.mono (Ex.new (fresh_back e' hp))))⟩
    | false => exact ⟨_, 0, _, rfl, rfl, e' _ _ h, by decide, by decide, sz_of (by show _ * 0 ≤ _; omega), fun p hp => q _ _ _ (Grow.new e' hp) (.lst upd_same .nil)⟩
/-! # x or y by truth: None or a number -/
theorem ev_orN {y : PyData} (h1 : EvD K ta σ G .none) (h2 : EvD K tb σ G y) : EvD K (tOrT K ta tb) σ G y := fun G1 H e e' Q q =>
  h1 G1 H e e' _ fun v G2 H2 g2 d2 => by
    obtain rfl := d2.non_eq
    exact ⟨false, by first | exact rfl | trivial | simp [TruV], h2 G2 H2 (e.trans g2.gg) g2.gh Q fun v G3 H3 g3 d3 => q v G3 H3 (g2.trans g3) d3⟩
theorem ev_orI {i : Int} (h1 : EvD K ta σ G (.int i)) (h0 : i ≠ 0) : EvD K (tOrT K ta tb) σ G (.int i) := fun G1 H e e' Q q =>
  h1 G1 H e e' _ fun v G2 H2 g2 d2 => by
    obtain rfl := d2.int_eq
    exact ⟨true, by first | exact decide_eq_true h0 | simp [TruV, h0], q _ G2 H2 g2 (.int _)⟩
end
local macro_rules | `(tactic| walk_at "ex") => `(tactic| first | assumption | exact Ex.refl _ | (refine Ex.trans ?_ (by assumption); walk_at "ex"))
local macro_rules | `(tactic| walk_at "da") => `(tactic| first | assumption | exact Da.int _ | exact Da.bl _ | exact Da.str _ | exact Da.non | (refine Da.mono (by assumption) ?_; walk_at "da"))
local macro_rules | `(tactic| walk_at "rd") => `(tactic| first | (with_reducible exact rd_add) | (with_reducible exact rd_sub) | (with_reducible exact rd_lt) | (with_reducible exact rd_le) | (with_reducible exact rd_gt) | (with_reducible exact rd_ge) | (with_reducible exact rd_eqI) | (with_reducible exact rd_neI) | (with_reducible exact rd_eqS) | (with_reducible exact rd_neS) | (with_reducible exact rd_eqB) | (with_reducible exact rd_neB) | (with_reducible exact rd_ltS) | (with_reducible exact rd_isN) | (with_reducible exact rd_notN) | (with_reducible exact rd_inC) | (with_reducible exact rd_notInC) | exact rd_mod (by omega) | exact rd_ixT rfl | exact rd_ixL rfl)
local macro_rules | `(tactic| walk_at "ra") => `(tactic| first | (with_reducible exact ra_lenT) | (with_reducible exact ra_lenL) | (with_reducible exact ra_max2) | (with_reducible exact ra_min2) | (with_reducible exact ra_intI) | (with_reducible exact ra_intB) | (with_reducible exact ra_tupleL) | (with_reducible exact ra_tupleT) | (with_reducible exact ra_listL) | (with_reducible exact ra_listT))
local macro_rules | `(tactic| walk_at "ea") => `(tactic| first | exact ea_nil | (apply ea_cons; (walk_at "ev"); (walk_at "ea")))
local macro_rules | `(tactic| walk_at "ev") => `(tactic| first | (with_reducible exact ev_int) | (with_reducible exact ev_bl) | (with_reducible exact ev_str) | (with_reducible exact ev_non) | ((with_reducible apply ev_var); (exact rfl); walk_at "da") | ((with_reducible apply ev_op); (walk_at "ev"); (walk_at "ev"); (walk_at "rd")) | ((with_reducible apply ev_isiI); walk_at "ev") | ((with_reducible apply ev_isiB); walk_at "ev") | ((with_reducible apply ev_isiS); walk_at "ev") | ((with_reducible apply ev_isiT); walk_at "ev") | ((with_reducible apply ev_isiL); walk_at "ev") | ((with_reducible apply ev_not); walk_at "ev") | ((with_reducible apply ev_cb); (walk_at "ea"); (walk_at "ra")) | ((with_reducible apply ev_un); (walk_at "ev"); (exact r1_neg)) | ((with_reducible apply ev_tup); (walk_at "ea"); (exact Nat.le_of_ble_eq_true rfl)) | ((with_reducible apply ev_lst); (walk_at "ea"); (exact Nat.le_of_ble_eq_true rfl)))
theorem nf {b : Bool} (h : (!b) = false) : b = true := by cases b <;> first | rfl | cases h
/-! # is_within -/
def withinD (x : PyData) (lo hi : Int) : Bool := isInt x && (!isBool x && (decide (lo ≤ intOf x) && decide (intOf x ≤ hi)))
def sp_is_within (K : PySem.W.Frag) : Sp := spR K fun ds d => ∃ x lo hi, ds = [x, .int lo, .int hi] ∧ d = .bool (withinD x lo hi)
abbrev ns_is_within : List Str := ["thing", "low", "high"]
abbrev ps_is_within : List Str := ["thing", "low", "high"]
def t_is_within (K : PySem.W.Frag) : TS :=
  (tRet (tAndV (tIsi K (tVar 0) "int") (tAndV (tNotV (tIsi K (tVar 0) "bool")) (tChain kLe kLe (tVar 1) (tVar 0) (tVar 2)))))
theorem len_is_within {K : PySem.W.Frag} : ∀ vs H Q E, sp_is_within K vs H Q E → vs.length = 3 := spR_len fun ds d ⟨x, lo, hi, h, _⟩ => by rw [h]; rfl
theorem int_of {x : PyData} (h : isInt x = true) (h2 : (!isBool x) = true) : x = .int (intOf x) := by
  cases x with
  | bool b => cases h2
  | int i => rfl
  | none => cases h
  | str _ => cases h
  | list _ => cases h
  | tuple _ => cases h
  | dict _ => cases h
theorem str_of {x : PyData} (h : isStr x = true) : x = .str (strOf x) := by
  cases x with
  | str s => rfl
  | bool b => cases h
  | int i => cases h
  | none => cases h
  | list _ => cases h
  | tuple _ => cases h
  | dict _ => cases h
theorem tup_of {x : PyData} (h : isTup x = true) : x = .tuple (itemsOf x) := by
  cases x with
  | tuple s => rfl
  | bool b => cases h
  | int i => cases h
  | none => cases h
  | list _ => cases h
  | str _ => cases h
  | dict _ => cases h
theorem lst_of {x : PyData} (h : isLst x = true) : x = .list (itemsOf x) := by
  cases x with
  | list s => rfl
  | bool b => cases h
  | int i => cases h
  | none => cases h
  | tuple _ => cases h
  | str _ => cases h
  | dict _ => cases h
theorem pure_is_within {K : PySem.W.Frag} : ∀ vs H Q E, sp_is_within K vs H Q E → t_is_within K { nx := fun _ H' => Q .non H', rt := Q } (L2.start ns_is_within vs) H := pure_in fun vs ds d W G D da hr hret hn => by
  obtain ⟨x, lo, hi, rfl, rfl⟩ := hr
  obtain ⟨v0, v1, v2, rfl, h0, h1, h2⟩ := da.three_inv
  refine sx_ret hret (ev_and (by walk_at "ev") fun a1 => ev_and (by walk_at "ev") fun a2 => ?_) (fun v G' e dv => dv)
  have ex := int_of a1 a2
  rw [ex] at h0
  apply ev_chain
  · walk_at "ev"
  · walk_at "ev"
  · walk_at "rd"
  · intro _; walk_at "ev"
  · intro _; walk_at "rd"
/-! # is_name -/
def lettersS : Str := "abcdefghijklmnopqrstuvwxyz"
def isLetter (c : Nat) : Bool := decide (c ∈ lettersS.cps.toList)
def nameS (x : Str) : Bool := (decide ((1 : Int) ≤ (x.length : Int)) && decide ((x.length : Int) ≤ 8)) && x.cps.toList.all isLetter
def nameD (d : PyData) : Bool := isStr d && nameS (strOf d)
def sp_is_name (K : PySem.W.Frag) : Sp := spR K fun ds d => ∃ x, ds = [x] ∧ sm x = true ∧ d = .bool (nameD x)
abbrev ns_is_name : List Str := ["thing", "sign"]
abbrev ps_is_name : List Str := ["thing"]
def t_is_name (K : PySem.W.Frag) : TS :=
  (tRet (tAndV (tIsi K (tVar 0) "str") (tAndV (tChain kLe kLe (tC (.int 1)) (tCB (kLen K) (tCons (tVar 0) tNil)) (tC (.int 8))) (tCB (rAll K) (tCons (tLc (iSeq K (tVar 0)) (gName 1) tYes (tOp (kIn K) (tVar 1) (tC (.str "abcdefghijklmnopqrstuvwxyz"))) [1]) tNil)))))
theorem len_is_name {K : PySem.W.Frag} : ∀ vs H Q E, sp_is_name K vs H Q E → vs.length = 1 := spR_len fun ds d ⟨x, h, _⟩ => by rw [h]; rfl
theorem pure_is_name {K : PySem.W.Frag} : ∀ vs H Q E, sp_is_name K vs H Q E → t_is_name K { nx := fun _ H' => Q .non H', rt := Q } (L2.start ns_is_name vs) H := pure_in fun vs ds d W G D da hr hret hn => by
  obtain ⟨x, rfl, hs, rfl⟩ := hr
  obtain ⟨v0, rfl, h0⟩ := da.one_inv
  refine sx_ret hret (ev_and (by walk_at "ev") fun a1 => ?_) (fun v G' e dv => dv)
  have ex := str_of a1
  rw [ex] at h0 hs
  have hl := sm_str hs
  refine ev_and ?_ fun a2 => ?_
  · apply ev_chain
    · walk_at "ev"
    · exact ev_cb (by walk_at "ea") (ra_lenS hl)
    · walk_at "rd"
    · intro _; walk_at "ev"
    · intro _; walk_at "rd"
  · refine ev_cb (ea_cons (ev_lcN (strOf x).cps.toList (fun c => .str ⟨#[c]⟩) (fun c => .bool (isLetter c)) (it_str (by walk_at "ev")) ?_ (fun _ => rfl) ?_) ea_nil) ra_allF
    · rw [Bool.and_eq_true, decide_eq_true_eq, decide_eq_true_eq] at a2
      have h8 := a2.2
      have e : (strOf x).cps.toList.length = (strOf x).length := by rw [Array.length_toList]; rfl
      omega
    · intro c _ v G' e dv
      refine ev_op (a := .str ⟨#[c]⟩) (b := .str lettersS) ?_ ?_ ?_
      · walk_at "ev"
      · exact ev_str
      · exact rd_inC
/-! # rises -/
def sp_rises (K : PySem.W.Frag) : Sp := spR K fun ds d => ∃ ss : List Str, (ds = [.list (ss.map .str)] ∨ ds = [.tuple (ss.map .str)]) ∧ ss.length ≤ 50000 ∧ d = .bool (risesS ss)
abbrev ns_rises : List Str := ["some", "one", "other"]
abbrev ps_rises : List Str := ["some"]
def t_rises (K : PySem.W.Frag) : TS :=
  (tRet (tCB (rAll K) (tCons (tLc (RZ.iZipA K (tCons (tVar 0) (tCons (tSl (kSl K) (tVar 0) (tPart (tC (.int 1))) tNoPart) tNil))) (gTup K 2 (gCons (gName 1) (gCons (gName 2) gNil))) tYes (tOp (kLt K) (tVar 1) (tVar 2)) [1, 2]) tNil)))
theorem len_rises {K : PySem.W.Frag} : ∀ vs H Q E, sp_rises K vs H Q E → vs.length = 1 := spR_len fun ds d ⟨x, h, _⟩ => by rcases h with h | h <;> (rw [h]; rfl)
theorem zipD_strs (as bs : List Str) : zipD (as.map .str) (bs.map .str) = (as.zip bs).map fun p => PyData.tuple [.str p.1, .str p.2] := by
  unfold zipD
  rw [List.zip_map, List.map_map]
  rfl
theorem pure_rises {K : PySem.W.Frag} : ∀ vs H Q E, sp_rises K vs H Q E → t_rises K { nx := fun _ H' => Q .non H', rt := Q } (L2.start ns_rises vs) H := pure_in fun vs ds d W G D da hr hret hn => by
  obtain ⟨ss, hss, hs, rfl⟩ := hr
  have hc : cutG (ss.map PyData.str) (some ((1 : Nat) : Int)) none = (ss.drop 1).map .str := by rw [cutG_from, List.map_drop]
  have hz : ∃ v0, vs = [v0] ∧ IterD K (RZ.iZipA K (tCons (tVar 0) (tCons (tSl (kSl K) (tVar 0) (tPart (tC (.int 1))) tNoPart) tNil))) (L2.start ns_rises [v0]) G ((ss.zip (ss.drop 1)).map fun p => PyData.tuple [.str p.1, .str p.2]) := by
    rw [← zipD_strs, ← hc]
    rcases hss with rfl | rfl
    · obtain ⟨v0, rfl, h0⟩ := da.one_inv
      exact ⟨v0, rfl, it_zipA (ea_cons (by walk_at "ev") (ea_cons (ev_slL (by walk_at "ev") (ep_some (K := K) ev_int) ep_none) ea_nil))⟩
    · obtain ⟨v0, rfl, h0⟩ := da.one_inv
      exact ⟨v0, rfl, it_zipT (ea_cons (by walk_at "ev") (ea_cons (ev_slT (by walk_at "ev") (ep_some (K := K) ev_int) ep_none) ea_nil))⟩
  obtain ⟨v0, rfl, hz⟩ := hz
  refine sx_ret hret ?_ (fun v G' e dv => dv)
  refine ev_cb (ea_cons ?_ ea_nil) (ra_allF (xs := ss.zip (ss.drop 1)) (f := fun p => ltS p.1 p.2))
  have q := ev_lcG (K := K) (g := gTup K 2 (gCons (gName 1) (gCons (gName 2) gNil))) (tt := tYes) (te := tOp (kLt K) (tVar 1) (tVar 2)) (vs := [1, 2]) _ _ (fun _ => true) (fun p : Str × Str => PyData.bool (ltS p.1 p.2)) hz (by rw [List.length_zip]; omega) fun p hp v G' e dv H eh Q q => by
    cases dv with
    | tup h r =>
      obtain ⟨x, y, rfl, hx, hy⟩ := r.two_inv
      refine ⟨_, [x, y], rfl, ex_t eh h, rfl, x, [y], rfl, y, [], rfl, rfl, q _ rfl (fun H e Q q => q H (Ex.refl H)) fun _ => ?_⟩
      walk_at "ev"
  rwa [List.filter_eq_self.mpr (fun _ _ => rfl)] at q
/-! # is_gate, is_town -/
def gateBad (d : PyData) : Bool := !isTup d || (!decide (((itemsOf d).length : Int) = 4) || (!nameD ((itemsOf d).getD 0 .none) || !isBool ((itemsOf d).getD 3 .none)))
def gateD (d : PyData) : Bool := !gateBad d && (withinD ((itemsOf d).getD 1 .none) 0 23 && withinD ((itemsOf d).getD 2 .none) 0 23)
def sp_is_gate (K : PySem.W.Frag) : Sp := spR K fun ds d => ∃ x, ds = [x] ∧ sm x = true ∧ d = .bool (gateD x)
abbrev ns_is_gate : List Str := ["thing"]
abbrev ps_is_gate : List Str := ["thing"]
def t_is_gate (K : PySem.W.Frag) : TS :=
  (tSeq (tIfS (tOr (tNot (tB (tIsi K (tVar 0) "tuple"))) (tOr (tTest (tOp (kNe K) (tCB (kLen K) (tCons (tVar 0) tNil)) (tC (.int 4)))) (tOr (tNot (tB (tCall (sp_is_name K) [] E0 (tCons (tOp (rIx K) (tVar 0) (tC (.int 0))) tNil)))) (tNot (tB (tIsi K (tOp (rIx K) (tVar 0) (tC (.int 3))) "bool")))))) (tRet (tC (.bl false))) tNext) (tRet (tAndV (tCall (sp_is_within K) [] E0 (tCons (tOp (rIx K) (tVar 0) (tC (.int 1))) (tCons (tC (.int 0)) (tCons (tOp kSub (tC (.int 24)) (tC (.int 1))) tNil)))) (tCall (sp_is_within K) [] E0 (tCons (tOp (rIx K) (tVar 0) (tC (.int 2))) (tCons (tC (.int 0)) (tCons (tOp kSub (tC (.int 24)) (tC (.int 1))) tNil)))))))
theorem len_is_gate {K : PySem.W.Frag} : ∀ vs H Q E, sp_is_gate K vs H Q E → vs.length = 1 := spR_len fun ds d ⟨x, h, _⟩ => by rw [h]; rfl
theorem smL_getD {ds : List PyData} (h : smL ds = true) (n : Nat) : sm (ds.getD n .none) = true := by
  rw [List.getD_eq_getElem?_getD]
  cases e : ds[n]? with
  | none => rfl
  | some x => exact smL_mem h (List.mem_of_getElem? e)
theorem pure_is_gate {K : PySem.W.Frag} : ∀ vs H Q E, sp_is_gate K vs H Q E → t_is_gate K { nx := fun _ H' => Q .non H', rt := Q } (L2.start ns_is_gate vs) H := pure_in fun vs ds d W G D da hr hret hn => by
  obtain ⟨x, rfl, hs, rfl⟩ := hr
  obtain ⟨v0, rfl, h0⟩ := da.one_inv
  have key : EvT (tOr (tNot (tB (tIsi K (tVar 0) "tuple"))) (tOr (tTest (tOp (kNe K) (tCB (kLen K) (tCons (tVar 0) tNil)) (tC (.int 4)))) (tOr (tNot (tB (tCall (sp_is_name K) [] E0 (tCons (tOp (rIx K) (tVar 0) (tC (.int 0))) tNil)))) (tNot (tB (tIsi K (tOp (rIx K) (tVar 0) (tC (.int 3))) "bool")))))) (L2.start ns_is_gate [v0]) G (gateBad x) := by
    refine et_or (et_not (et_B (K := K) (by walk_at "ev"))) fun a1 => ?_
    have ex := tup_of (nf a1)
    rw [ex] at h0 hs
    obtain ⟨_, hm⟩ := sm_tup hs
    refine et_or (et_test (K := K) (by walk_at "ev")) fun a2 => ?_
    have hl : (itemsOf x).length = 4 := by
      have := of_decide_eq_true (nf a2)
      omega
    refine et_or (et_not (et_B (K := K) (ev_call (ea_cons (ev_op (by walk_at "ev") ev_int (rd_ixTg (n := 0) (by omega))) ea_nil) ⟨_, rfl, smL_getD hm 0, rfl⟩))) fun a3 => ?_
    refine et_not (et_B (K := K) (ev_isiB (ev_op (by walk_at "ev") ev_int (rd_ixTg (n := 3) (by omega)))))
  refine q_when key (fun hb => ?_) (fun hb => ?_)
  · refine sx_ret (K := K) hret ev_bl (fun v G' e dv => ?_)
    have e0 : gateD x = false := by unfold gateD; rw [hb]; rfl
    rw [e0]; exact dv
  · have hb2 := hb
    unfold gateBad at hb2
    simp only [Bool.or_eq_false_iff] at hb2
    obtain ⟨b1, b2, _⟩ := hb2
    have ex := tup_of (nf b1)
    have hl : (itemsOf x).length = 4 := by
      have := of_decide_eq_true (nf b2)
      omega
    have e0 : gateD x = (withinD ((itemsOf x).getD 1 .none) 0 23 && withinD ((itemsOf x).getD 2 .none) 0 23) := by unfold gateD; rw [hb]; rfl
    rw [e0] at hret
    rw [ex] at h0
    refine sx_ret hret (ev_and ?_ fun _ => ?_) (fun v G' e dv => dv)
    · exact ev_call (ea_cons (ev_op (by walk_at "ev") ev_int (rd_ixTg (n := 1) (by omega))) (ea_cons ev_int (ea_cons (ev_op ev_int ev_int rd_sub) ea_nil))) ⟨_, 0, 23, rfl, rfl⟩
    · exact ev_call (ea_cons (ev_op (by walk_at "ev") ev_int (rd_ixTg (n := 2) (by omega))) (ea_cons ev_int (ea_cons (ev_op ev_int ev_int rd_sub) ea_nil))) ⟨_, 0, 23, rfl, rfl⟩
def name0 (d : PyData) : Str := strOf ((itemsOf d).getD 0 .none)
def townBad (d : PyData) : Bool := !isTup d || (!(decide ((1 : Int) ≤ ((itemsOf d).length : Int)) && decide (((itemsOf d).length : Int) ≤ 8)) || !((itemsOf d).all gateD))
def townD (d : PyData) : Bool := !townBad d && risesS ((itemsOf d).map name0)
def sp_is_town (K : PySem.W.Frag) : Sp := spR K fun ds d => ∃ x, ds = [x] ∧ sm x = true ∧ d = .bool (townD x)
abbrev ns_is_town : List Str := ["thing", "part"]
abbrev ps_is_town : List Str := ["thing"]
def t_is_town (K : PySem.W.Frag) : TS :=
  (tSeq (tIfS (tOr (tNot (tB (tIsi K (tVar 0) "tuple"))) (tOr (tNot (tTest (tChain kLe kLe (tC (.int 1)) (tCB (kLen K) (tCons (tVar 0) tNil)) (tC (.int 8))))) (tNot (tB (tCB (rAll K) (tCons (tLc (iSeq K (tVar 0)) (gName 1) tYes (tCall (sp_is_gate K) [] E0 (tCons (tVar 1) tNil)) [1]) tNil)))))) (tRet (tC (.bl false))) tNext) (tRet (tCall (sp_rises K) [] E0 (tCons (tLc (iSeq K (tVar 0)) (gName 1) tYes (tOp (rIx K) (tVar 1) (tC (.int 0))) [1]) tNil))))
theorem len_is_town {K : PySem.W.Frag} : ∀ vs H Q E, sp_is_town K vs H Q E → vs.length = 1 := spR_len fun ds d ⟨x, h, _⟩ => by rw [h]; rfl
theorem gate_shape {d : PyData} (h : gateD d = true) : ∃ ds, d = .tuple ds ∧ ds.length = 4 ∧ nameD (ds.getD 0 .none) = true ∧ isBool (ds.getD 3 .none) = true ∧ withinD (ds.getD 1 .none) 0 23 = true ∧ withinD (ds.getD 2 .none) 0 23 = true := by
  unfold gateD at h
  rw [Bool.and_eq_true, Bool.not_eq_true', Bool.and_eq_true] at h
  obtain ⟨hb, h1, h2⟩ := h
  unfold gateBad at hb
  simp only [Bool.or_eq_false_iff] at hb
  obtain ⟨b1, b2, b3, b4⟩ := hb
  have ex := tup_of (nf b1)
  refine ⟨itemsOf d, ex, ?_, nf b3, nf b4, h1, h2⟩
  have := of_decide_eq_true (nf b2)
  omega
theorem gate_name0 {d : PyData} (h : gateD d = true) : ∃ ds, d = .tuple ds ∧ ds.length = 4 ∧ ds.getD 0 .none = .str (name0 d) := by
  obtain ⟨ds, e, hl, h1, _⟩ := gate_shape h
  refine ⟨ds, e, hl, ?_⟩
  unfold nameD at h1
  rw [Bool.and_eq_true] at h1
  rw [str_of h1.1]
  subst e
  rfl
theorem pure_is_town {K : PySem.W.Frag} : ∀ vs H Q E, sp_is_town K vs H Q E → t_is_town K { nx := fun _ H' => Q .non H', rt := Q } (L2.start ns_is_town vs) H := pure_in fun vs ds d W G D da hr hret hn => by
  obtain ⟨x, rfl, hs, rfl⟩ := hr
  obtain ⟨v0, rfl, h0⟩ := da.one_inv
  refine q_when (b := townBad x) ?_ (fun hb => ?_) (fun hb => ?_)
  · refine et_or (et_not (et_B (K := K) (by walk_at "ev"))) fun a1 => ?_
    have ex := tup_of (nf a1)
    rw [ex] at h0 hs
    obtain ⟨hlen, hm⟩ := sm_tup hs
    refine et_or (et_not (et_test (K := K) (ev_chain ev_int (by walk_at "ev") rd_le (fun _ => ev_int) (fun _ => rd_le)))) fun a2 => ?_
    refine et_not (et_B (K := K) (ev_cb (ea_cons ?_ ea_nil) ra_allF))
    have ei : (itemsOf x) = (itemsOf x).map id := (List.map_id _).symm
    refine ev_lcN (itemsOf x) id (fun p => .bool (gateD p)) (by rw [← ei]; exact it_tup (by walk_at "ev")) hlen (fun _ => rfl) fun p hp v G' e dv => ?_
    exact ev_call (ea_cons (ev_var rfl dv) ea_nil) ⟨_, rfl, smL_mem hm hp, rfl⟩
  · refine sx_ret (K := K) hret ev_bl (fun v G' e dv => ?_)
    have e0 : townD x = false := by unfold townD; rw [hb]; rfl
    rw [e0]; exact dv
  · have hb2 := hb
    unfold townBad at hb2
    simp only [Bool.or_eq_false_iff] at hb2
    obtain ⟨b1, b2, b3⟩ := hb2
    have ex := tup_of (nf b1)
    have hg := List.all_eq_true.mp (nf b3)
    have e0 : townD x = risesS ((itemsOf x).map name0) := by unfold townD; rw [hb]; rfl
    rw [e0] at hret
    rw [ex] at h0 hs
    obtain ⟨hlen, hm⟩ := sm_tup hs
    refine sx_ret hret (ev_call (ea_cons ?_ ea_nil) ⟨(itemsOf x).map name0, .inl rfl, by rw [List.length_map]; exact hlen, rfl⟩) (fun v G' e dv => dv)
    have ei : (itemsOf x) = (itemsOf x).map id := (List.map_id _).symm
    rw [List.map_map]
    refine ev_lcN (itemsOf x) id (PyData.str ∘ name0) (by rw [← ei]; exact it_tup (by walk_at "ev")) hlen (fun _ => rfl) fun p hp v G' e dv => ?_
    obtain ⟨es, rfl, hl, h4⟩ := gate_name0 (hg p hp)
    show EvD K _ _ _ (.str (name0 (.tuple es)))
    rw [← h4]
    exact ev_op (ev_var rfl dv) ev_int (rd_ixTg (n := 0) (by omega))
/-! # gates, towns, by kind -/
structure Gate where
  name : Str
  opens : Int
  shuts : Int
  small : Bool
def Gate.enc (g : Gate) : PyData := .tuple [.str g.name, .int g.opens, .int g.shuts, .bool g.small]
structure Gate.Ok (g : Gate) : Prop where
  nm : nameS g.name = true
  o0 : 0 ≤ g.opens
  o1 : g.opens ≤ 23
  s0 : 0 ≤ g.shuts
  s1 : g.shuts ≤ 23
def townEnc (t : List Gate) : PyData := .tuple (t.map Gate.enc)
structure TownOk (t : List Gate) : Prop where
  l1 : 1 ≤ t.length
  l8 : t.length ≤ 8
  gs : ∀ g ∈ t, g.Ok
  ri : risesS (t.map Gate.name) = true
def boolOf : PyData → Bool
  | .bool b => b
  | _ => false
def gateOf (d : PyData) : Gate := ⟨name0 d, intOf ((itemsOf d).getD 1 .none), intOf ((itemsOf d).getD 2 .none), boolOf ((itemsOf d).getD 3 .none)⟩
def townOf (d : PyData) : List Gate := (itemsOf d).map gateOf
theorem withinD_int (i lo hi : Int) : withinD (.int i) lo hi = (decide (lo ≤ i) && decide (i ≤ hi)) := rfl
theorem withinD_out {d : PyData} {lo hi : Int} (h : withinD d lo hi = true) : d = .int (intOf d) ∧ lo ≤ intOf d ∧ intOf d ≤ hi := by
  unfold withinD at h
  simp only [Bool.and_eq_true, decide_eq_true_eq] at h
  exact ⟨int_of h.1 h.2.1, h.2.2.1, h.2.2.2⟩
theorem bool_of {x : PyData} (h : isBool x = true) : x = .bool (boolOf x) := by
  cases x with
  | bool b => rfl
  | int i => cases h
  | none => cases h
  | str _ => cases h
  | list _ => cases h
  | tuple _ => cases h
  | dict _ => cases h
theorem nameD_out {d : PyData} (h : nameD d = true) : d = .str (strOf d) ∧ nameS (strOf d) = true := by
  unfold nameD at h
  rw [Bool.and_eq_true] at h
  exact ⟨str_of h.1, h.2⟩
theorem four_of {ds : List PyData} (h : ds.length = 4) : ds = [ds.getD 0 .none, ds.getD 1 .none, ds.getD 2 .none, ds.getD 3 .none] := by
  match ds, h with
  | [_, _, _, _], _ => rfl
theorem gateD_out {d : PyData} (h : gateD d = true) : d = (gateOf d).enc ∧ (gateOf d).Ok := by
  obtain ⟨ds, rfl, hl, h0, h3, h1, h2⟩ := gate_shape h
  obtain ⟨e0, n0⟩ := nameD_out h0
  obtain ⟨e1, a1, b1⟩ := withinD_out h1
  obtain ⟨e2, a2, b2⟩ := withinD_out h2
  have e3 := bool_of h3
  refine ⟨?_, n0, a1, b1, a2, b2⟩
  show PyData.tuple ds = .tuple [.str (strOf (ds.getD 0 .none)), .int (intOf (ds.getD 1 .none)), .int (intOf (ds.getD 2 .none)), .bool (boolOf (ds.getD 3 .none))]
  rw [← e0, ← e1, ← e2, ← e3, ← four_of hl]
theorem gateD_enc {g : Gate} (h : g.Ok) : gateD g.enc = true := by
  show (!(false || (false || (!(nameS g.name) || !true))) && (withinD (.int g.opens) 0 23 && withinD (.int g.shuts) 0 23)) = true
  rw [withinD_int, withinD_int, h.nm, decide_eq_true h.o0, decide_eq_true h.o1, decide_eq_true h.s0, decide_eq_true h.s1]
  rfl
theorem gateOf_enc (g : Gate) : gateOf g.enc = g := rfl
theorem townOf_enc (t : List Gate) : townOf (townEnc t) = t := by
  unfold townOf townEnc itemsOf
  rw [List.map_map]
  exact List.map_id _
theorem townD_out {d : PyData} (h : townD d = true) : d = townEnc (townOf d) ∧ TownOk (townOf d) := by
  unfold townD at h
  rw [Bool.and_eq_true, Bool.not_eq_true'] at h
  obtain ⟨hb, hr⟩ := h
  unfold townBad at hb
  simp only [Bool.or_eq_false_iff] at hb
  obtain ⟨b1, b2, b3⟩ := hb
  have ex := tup_of (nf b1)
  have hg := List.all_eq_true.mp (nf b3)
  have hl := nf b2
  rw [Bool.and_eq_true, decide_eq_true_eq, decide_eq_true_eq] at hl
  refine ⟨?_, ?_, ?_, ?_, ?_⟩
  · unfold townEnc townOf
    rw [List.map_map]
    have e : (itemsOf d).map (Gate.enc ∘ gateOf) = itemsOf d := by
      conv => rhs; rw [← List.map_id (itemsOf d)]
      exact List.map_congr_left fun x hx => (gateD_out (hg x hx)).1.symm
    rw [e]; exact ex
  · unfold townOf; rw [List.length_map]; omega
  · unfold townOf; rw [List.length_map]; omega
  · intro g h
    unfold townOf at h
    obtain ⟨x, hx, rfl⟩ := List.mem_map.mp h
    exact (gateD_out (hg x hx)).2
  · unfold townOf; rw [List.map_map]; exact hr
theorem townD_enc {t : List Gate} (h : TownOk t) : townD (townEnc t) = true := by
  unfold townD
  have e1 : townBad (townEnc t) = false := by
    show (false || (!(decide ((1 : Int) ≤ ((t.map Gate.enc).length : Int)) && decide (((t.map Gate.enc).length : Int) ≤ 8)) || !((t.map Gate.enc).all gateD))) = false
    have a1 : ((1 : Int) ≤ ((t.map Gate.enc).length : Int)) := by rw [List.length_map]; have := h.l1; omega
    have a2 : (((t.map Gate.enc).length : Int) ≤ 8) := by rw [List.length_map]; have := h.l8; omega
    have a3 : (t.map Gate.enc).all gateD = true := List.all_eq_true.mpr fun x hx => by
      obtain ⟨g, hg, rfl⟩ := List.mem_map.mp hx
      exact gateD_enc (h.gs g hg)
    rw [decide_eq_true a1, decide_eq_true a2, a3]; rfl
  rw [e1]
  show (true && risesS ((t.map Gate.enc).map name0)) = true
  rw [List.map_map]
  exact h.ri
theorem nameS_len {x : Str} (h : nameS x = true) : x.length ≤ 8 := by
  unfold nameS at h
  simp only [Bool.and_eq_true, decide_eq_true_eq] at h
  omega
theorem sm_gate {g : Gate} (h : g.Ok) : sm g.enc = true := by
  refine sm_mkT (Nat.le_of_ble_eq_true rfl) ?_
  show (sm (.str g.name) && (true && (true && (true && true)))) = true
  rw [show sm (.str g.name) = true from decide_eq_true (Nat.le_trans (nameS_len h.nm) (by decide))]; rfl
theorem sm_town {t : List Gate} (h : TownOk t) : sm (townEnc t) = true := by
  refine sm_mkT (by rw [List.length_map]; have := h.l8; omega) (smL_of fun x hx => ?_)
  obtain ⟨g, hg, rfl⟩ := List.mem_map.mp hx
  exact sm_gate (h.gs g hg)
/-! # look_at_town, names_of, gate_called, look_at_hour -/
def sp_look_at_town (K : PySem.W.Frag) (Z : Er) : Sp := spX K fun ds r => ∃ x, ds = [x] ∧ sm x = true ∧ r = if townD x = true then .ok .none else .err Z.NoTown
abbrev ns_look_at_town : List Str := ["town"]
abbrev ps_look_at_town : List Str := ["town"]
def t_look_at_town (K : PySem.W.Frag) (Z : Er) (E : XK) : TS :=
  (tIfS (tNot (tB (tCall (sp_is_town K) [] E0 (tCons (tVar 0) tNil)))) (tRaise Z.NoTown E) tNext)
theorem len_look_at_town {K : PySem.W.Frag} {Z : Er} : ∀ vs H Q E, sp_look_at_town K Z vs H Q E → vs.length = 1 := spX_len fun ds r ⟨x, h, _⟩ => by rw [h]; rfl
theorem pure_look_at_town {K : PySem.W.Frag} {Z : Er} : ∀ vs H Q E, sp_look_at_town K Z vs H Q E → t_look_at_town K Z E { nx := fun _ H' => Q .non H', rt := Q } (L2.start ns_look_at_town vs) H := purX_in fun vs ds r W G D E da hr hret hn he => by
  obtain ⟨x, rfl, hs, rfl⟩ := hr
  obtain ⟨v0, rfl, h0⟩ := da.one_inv
  refine sx_if (b := !townD x) (et_not (et_B (K := K) (ev_call (by walk_at "ea") ⟨x, rfl, hs, rfl⟩))) (fun hb => ?_) (fun hb => ?_)
  · have e : ¬ townD x = true := by rw [Bool.not_eq_true'] at hb; rw [hb]; decide
    exact sx_raise fun H' w => he Z.NoTown (if_neg e) G [] H' w
  · exact sx_next (hn (if_pos (nf hb)) _ _ _)
def sp_names_of (K : PySem.W.Frag) : Sp := spR K fun ds d => ∃ t : List Gate, ds = [townEnc t] ∧ t.length ≤ 50000 ∧ d = .list (t.map fun g => .str g.name)
abbrev ns_names_of : List Str := ["town", "gate"]
abbrev ps_names_of : List Str := ["town"]
def t_names_of (K : PySem.W.Frag) : TS :=
  (tRet (tLc (iSeq K (tVar 0)) (gName 1) tYes (tOp (rIx K) (tVar 1) (tC (.int 0))) [1]))
theorem len_names_of {K : PySem.W.Frag} : ∀ vs H Q E, sp_names_of K vs H Q E → vs.length = 1 := spR_len fun ds d ⟨x, h, _⟩ => by rw [h]; rfl
theorem pure_names_of {K : PySem.W.Frag} : ∀ vs H Q E, sp_names_of K vs H Q E → t_names_of K { nx := fun _ H' => Q .non H', rt := Q } (L2.start ns_names_of vs) H := pure_in fun vs ds d W G D da hr hret hn => by
  obtain ⟨t, rfl, hl, rfl⟩ := hr
  obtain ⟨v0, rfl, h0⟩ := da.one_inv
  refine sx_ret hret (ev_lcN t Gate.enc (fun g => .str g.name) (it_tup (by walk_at "ev")) hl (fun _ => rfl) fun g hg v G' e dv => ?_) (fun v G' e dv => dv)
  exact ev_op (ev_var rfl dv) ev_int (rd_ixT rfl)
def findG (t : List Gate) (n : Str) : Option Gate := t.find? fun g => decide (g.name = n)
def sp_gate_called (K : PySem.W.Frag) (Z : Er) : Sp := spX K fun ds r => ∃ (t : List Gate) (n : Str), ds = [townEnc t, .str n] ∧ t.length ≤ 50000 ∧ r = match findG t n with
  | some g => .ok g.enc
  | none => .err Z.NoGate
abbrev ns_gate_called : List Str := ["town", "name"]
abbrev ps_gate_called : List Str := ["town", "name"]
def t_gate_called (K : PySem.W.Frag) (Z : Er) (E : XK) : TS :=
  (tSeq (tIfS (tTest (tOp (kNotIn K) (tVar 1) (tCall (sp_names_of K) [] E0 (tCons (tVar 0) tNil)))) (tRaise Z.NoGate E) tNext) (tRet (tOp (rIx K) (tVar 0) (tBM K "list" (rIndex K) (tCall (sp_names_of K) [] E0 (tCons (tVar 0) tNil)) (tCons (tVar 1) tNil)))))
theorem len_gate_called {K : PySem.W.Frag} {Z : Er} : ∀ vs H Q E, sp_gate_called K Z vs H Q E → vs.length = 2 := spX_len fun ds r ⟨x, n, h, _⟩ => by rw [h]; rfl
theorem find_first {t : List Gate} {n : Str} {g : Gate} (h : findG t n = some g) : ∃ j : Nat, t[j]? = some g ∧ g.name = n ∧ ∀ m y, m < j → (t.map Gate.name)[m]? = some y → y ≠ n := by
  induction t with
  | nil => cases h
  | cons a r ih =>
    unfold findG at h
    rw [List.find?_cons] at h
    by_cases e : a.name = n
    · rw [decide_eq_true e] at h
      cases h
      exact ⟨0, rfl, e, fun m y hm => absurd hm (by omega)⟩
    · rw [decide_eq_false e] at h
      obtain ⟨j, h1, h2, h3⟩ := ih h
      refine ⟨j + 1, h1, h2, fun m y hm hy => ?_⟩
      cases m with
      | zero => cases hy; exact e
      | succ m => exact h3 m y (by omega) hy
theorem find_none {t : List Gate} {n : Str} : findG t n = none ↔ n ∉ t.map Gate.name := by
  unfold findG
  rw [List.find?_eq_none]
  simp only [decide_eq_true_eq, List.mem_map, not_exists, not_and]
theorem pure_gate_called {K : PySem.W.Frag} {Z : Er} : ∀ vs H Q E, sp_gate_called K Z vs H Q E → t_gate_called K Z E { nx := fun _ H' => Q .non H', rt := Q } (L2.start ns_gate_called vs) H := purX_in fun vs ds r W G D E da hr hret hn he => by
  obtain ⟨t, n, rfl, hl, rfl⟩ := hr
  obtain ⟨v0, v1, rfl, h0, h1⟩ := da.two_inv
  have en : (t.map fun g => PyData.str g.name) = (t.map Gate.name).map .str := by rw [List.map_map]; rfl
  have hnm : EvD K (tCall (sp_names_of K) [] E0 (tCons (tVar 0) tNil)) (L2.start ns_gate_called [v0, v1]) G (.list ((t.map Gate.name).map .str)) := by
    rw [← en]
    exact ev_call (by walk_at "ea") ⟨t, rfl, hl, rfl⟩
  refine q_when (et_test (K := K) (ev_op (by walk_at "ev") hnm rd_notInLS)) (fun hb => ?_) (fun hb => ?_)
  · have e : findG t n = none := find_none.mpr (of_decide_eq_false (by rw [Bool.not_eq_true'] at hb; exact hb))
    exact sx_raise fun H' w => he Z.NoGate (by rw [e]) G [] H' w
  · have hin : n ∈ t.map Gate.name := of_decide_eq_true (nf hb)
    cases e : findG t n with
    | none => exact absurd hin (find_none.mp e)
    | some g =>
      obtain ⟨j, hj, hn2, hf⟩ := find_first e
      refine sx_ret (hret g.enc (by rw [e])) (ev_op (by walk_at "ev") (ev_indexS hnm (by walk_at "ev") (j := j) (by rw [List.getElem?_map, hj, ← hn2]; rfl) hf) (rd_ixT (atI_nat (by rw [List.getElem?_map, hj]; rfl)))) (fun v G' e dv => dv)
def sp_look_at_hour (K : PySem.W.Frag) (Z : Er) : Sp := spX K fun ds r => ∃ x, ds = [x] ∧ r = if withinD x 0 1000000000000 = true then .ok .none else .err Z.NoHour
abbrev ns_look_at_hour : List Str := ["hour"]
abbrev ps_look_at_hour : List Str := ["hour"]
def t_look_at_hour (K : PySem.W.Frag) (Z : Er) (E : XK) : TS :=
  (tIfS (tNot (tB (tCall (sp_is_within K) [] E0 (tCons (tVar 0) (tCons (tC (.int 0)) (tCons (tC (.int 1000000000000)) tNil)))))) (tRaise Z.NoHour E) tNext)
theorem len_look_at_hour {K : PySem.W.Frag} {Z : Er} : ∀ vs H Q E, sp_look_at_hour K Z vs H Q E → vs.length = 1 := spX_len fun ds r ⟨x, h, _⟩ => by rw [h]; rfl
theorem pure_look_at_hour {K : PySem.W.Frag} {Z : Er} : ∀ vs H Q E, sp_look_at_hour K Z vs H Q E → t_look_at_hour K Z E { nx := fun _ H' => Q .non H', rt := Q } (L2.start ns_look_at_hour vs) H := purX_in fun vs ds r W G D E da hr hret hn he => by
  obtain ⟨x, rfl, rfl⟩ := hr
  obtain ⟨v0, rfl, h0⟩ := da.one_inv
  refine sx_if (b := !withinD x 0 1000000000000) (et_not (et_B (K := K) (ev_call (by walk_at "ea") ⟨x, 0, 1000000000000, rfl, rfl⟩))) (fun hb => ?_) (fun hb => ?_)
  · have e : ¬ withinD x 0 1000000000000 = true := by rw [Bool.not_eq_true'] at hb; rw [hb]; decide
    exact sx_raise fun H' w => he Z.NoHour (if_neg e) G [] H' w
  · exact sx_next (hn (if_pos (nf hb)) _ _ _)
/-! # open_by, is_open, first_of .. -/
def openBy (g : Gate) (h : Int) : Bool := decide (g.opens = g.shuts) || decide ((h - g.opens) % 24 < (g.shuts - g.opens) % 24)
def sp_open_by (K : PySem.W.Frag) : Sp := spR K fun ds d => ∃ (g : Gate) (h : Int), ds = [g.enc, .int h] ∧ d = .bool (openBy g h)
abbrev ns_open_by : List Str := ["gate", "hour"]
abbrev ps_open_by : List Str := ["gate", "hour"]
def t_open_by (K : PySem.W.Frag) : TS :=
  (tSeq (tIfS (tTest (tOp (kEq K) (tOp (rIx K) (tVar 0) (tC (.int 1))) (tOp (rIx K) (tVar 0) (tC (.int 2))))) (tRet (tC (.bl true))) tNext) (tRet (tOp (kLt K) (tOp kMod (tOp kSub (tVar 1) (tOp (rIx K) (tVar 0) (tC (.int 1)))) (tC (.int 24))) (tOp kMod (tOp kSub (tOp (rIx K) (tVar 0) (tC (.int 2))) (tOp (rIx K) (tVar 0) (tC (.int 1)))) (tC (.int 24))))))
theorem len_open_by {K : PySem.W.Frag} : ∀ vs H Q E, sp_open_by K vs H Q E → vs.length = 2 := spR_len fun ds d ⟨x, n, h, _⟩ => by rw [h]; rfl
theorem pure_open_by {K : PySem.W.Frag} : ∀ vs H Q E, sp_open_by K vs H Q E → t_open_by K { nx := fun _ H' => Q .non H', rt := Q } (L2.start ns_open_by vs) H := pure_in fun vs ds d W G D da hr hret hn => by
  obtain ⟨g, h, rfl, rfl⟩ := hr
  obtain ⟨v0, v1, rfl, h0, h1⟩ := da.two_inv
  refine q_when (b := decide (g.opens = g.shuts)) (et_test (K := K) (ev_op (ev_op (by walk_at "ev") ev_int (rd_ixT rfl)) (ev_op (by walk_at "ev") ev_int (rd_ixT rfl)) rd_eqI)) (fun hb => ?_) (fun hb => ?_)
  · refine sx_ret (K := K) hret ev_bl (fun v G' e dv => ?_)
    have e0 : openBy g h = true := by unfold openBy; rw [hb]; rfl
    rw [e0]; exact dv
  · have e0 : openBy g h = decide ((h - g.opens) % 24 < (g.shuts - g.opens) % 24) := by unfold openBy; rw [hb]; rfl
    rw [e0] at hret
    refine sx_ret hret (ev_op (ev_op (ev_op (by walk_at "ev") (ev_op (by walk_at "ev") ev_int (rd_ixT rfl)) rd_sub) ev_int (rd_mod (by decide))) (ev_op (ev_op (ev_op (by walk_at "ev") ev_int (rd_ixT rfl)) (ev_op (by walk_at "ev") ev_int (rd_ixT rfl)) rd_sub) ev_int (rd_mod (by decide))) rd_lt) (fun v G' e dv => dv)
/-- the gate that is asked of, or the refusal -/
def askG (Z : Er) (x : PyData) (n : Str) : Sum Addr Gate := if townD x = true then (match findG (townOf x) n with | some g => .inr g | none => .inl Z.NoGate) else .inl Z.NoTown
def hourOk (h : Int) : Bool := decide (0 ≤ h) && decide (h ≤ 1000000000000)
def thenR (s : Sum Addr Gate) (k : Gate → Res) : Res := match s with
  | .inl C => .err C
  | .inr g => k g
theorem findG_mem {t : List Gate} {n : Str} {g : Gate} (h : findG t n = some g) : g ∈ t := List.mem_of_find?_eq_some h
section
variable {K : PySem.W.Frag} {Z : Er} {W : Ent} {D : Ends} {σ : L2.St} {G : Hp} {M : Mem} {tz : TS} {E : XK} {x : PyData} {n : Str} {i j k : Nat} {v0 v1 : V}
/-- look_at_town(town); gate = gate_called(town, name) -/
theorem q_ask (hs : sm x = true) (h0 : σ[0]? = some (some v0)) (d0 : Da K G v0 x) (h1 : σ[1]? = some (some v1)) (d1 : Da K G v1 (.str n)) (r : Gate → Res)
    (he : ∀ Cl, thenR (askG Z x n) r = .err Cl → ∀ G' M' H', World W G' M' H' → E (.ref Cl) none H')
    (c : ∀ g, askG Z x n = .inr g → (townD x = true → g ∈ townOf x) → ∀ v G', Ex G G' → Da K G' v g.enc → Sx W tz D (σ.set i (some v)) G' M) :
    Sx W (tSeq (tDrop (tCall (sp_look_at_town K Z) [] E (tCons (tVar 0) tNil))) (tSeq (tAsg (tCall (sp_gate_called K Z) [] E (tCons (tVar 0) (tCons (tVar 1) tNil))) (gName i)) tz)) D σ G M := by
  by_cases ht : townD x = true
  · refine q_drop (ev_callX (ea_cons (ev_var h0 d0) ea_nil) ⟨x, rfl, hs, (if_pos ht).symm⟩) ?_
    obtain ⟨ex, tk⟩ := townD_out ht
    rw [ex] at d0
    cases e : findG (townOf x) n with
    | none =>
      refine q_asgW (sw_fail (ea_cons (ev_var h0 d0) (ea_cons (ev_var h1 d1) ea_nil)) ⟨townOf x, n, rfl, by have := tk.l8; omega, by rw [e]⟩ fun H' w => ?_)
      exact he Z.NoGate (by unfold askG; rw [if_pos ht, e]; rfl) _ _ H' w
    | some g =>
      exact q_asg (ev_callX (ea_cons (ev_var h0 d0) (ea_cons (ev_var h1 d1) ea_nil)) ⟨townOf x, n, rfl, by have := tk.l8; omega, by rw [e]⟩) (c g (by unfold askG; rw [if_pos ht, e]) fun _ => findG_mem e)
  · refine q_dropW (sw_fail (ea_cons (ev_var h0 d0) ea_nil) ⟨x, rfl, hs, (if_neg ht).symm⟩ fun H' w => ?_)
    exact he Z.NoTown (by unfold askG; rw [if_neg ht]; rfl) _ _ H' w
/-- look_at_hour(hour) -/
theorem q_hour {h : Int} {v : V} (h0 : σ[i]? = some (some v)) (d0 : Da K G v (.int h)) (he : hourOk h = false → ∀ H', World W G M H' → E (.ref Z.NoHour) none H') (c : hourOk h = true → Sx W tz D σ G M) :
    Sx W (tSeq (tDrop (tCall (sp_look_at_hour K Z) [] E (tCons (tVar i) tNil))) tz) D σ G M := by
  cases e : hourOk h with
  | true => exact q_drop (ev_callX (ea_cons (ev_var h0 d0) ea_nil) ⟨.int h, rfl, (if_pos (show withinD (.int h) 0 1000000000000 = true from e)).symm⟩) (c e)
  | false => exact q_dropW (sw_fail (ea_cons (ev_var h0 d0) ea_nil) ⟨.int h, rfl, (if_neg (show ¬ withinD (.int h) 0 1000000000000 = true from fun z => by rw [show withinD (.int h) 0 1000000000000 = hourOk h from rfl, e] at z; cases z)).symm⟩ (he e))
end
/-! # is_open -/
def hourR (Z : Er) (h : Int) (r : Res) : Res := if hourOk h = true then r else .err Z.NoHour
def sp_is_open (K : PySem.W.Frag) (Z : Er) : Sp := spX K fun ds r => ∃ (x : PyData) (n : Str) (h : Int), ds = [x, .str n, .int h] ∧ sm x = true ∧ r = thenR (askG Z x n) fun g => hourR Z h (.ok (.bool (openBy g h)))
abbrev ns_is_open : List Str := ["town", "name", "hour", "gate"]
abbrev ps_is_open : List Str := ["town", "name", "hour"]
def t_is_open (K : PySem.W.Frag) (Z : Er) (E : XK) : TS :=
  (tSeq (tDrop (tCall (sp_look_at_town K Z) [] E (tCons (tVar 0) tNil))) (tSeq (tAsg (tCall (sp_gate_called K Z) [] E (tCons (tVar 0) (tCons (tVar 1) tNil))) (gName 3)) (tSeq (tDrop (tCall (sp_look_at_hour K Z) [] E (tCons (tVar 2) tNil))) (tRet (tCall (sp_open_by K) [] E0 (tCons (tVar 3) (tCons (tVar 2) tNil)))))))
theorem len_is_open {K : PySem.W.Frag} {Z : Er} : ∀ vs H Q E, sp_is_open K Z vs H Q E → vs.length = 3 := spX_len fun ds r ⟨x, n, h, e, _⟩ => by rw [e]; rfl
theorem pure_is_open {K : PySem.W.Frag} {Z : Er} : ∀ vs H Q E, sp_is_open K Z vs H Q E → t_is_open K Z E { nx := fun _ H' => Q .non H', rt := Q } (L2.start ns_is_open vs) H := purX_in fun vs ds r W G D E da hr hret hn he => by
  obtain ⟨x, n, h, rfl, hs, rfl⟩ := hr
  obtain ⟨v0, v1, v2, rfl, h0, h1, h2⟩ := da.three_inv
  refine q_ask hs rfl h0 rfl h1 _ he fun g eg _ v G' e dv => ?_
  rw [eg] at hret he
  refine q_hour (h := h) rfl (h2.mono e) (fun z H' w => he Z.NoHour (if_neg (by rw [z]; decide)) _ _ H' w) fun z => ?_
  exact sx_ret (hret _ (if_pos z)) (ev_call (ea_cons (ev_var rfl dv) (ea_cons (ev_var rfl (h2.mono e)) ea_nil)) ⟨g, h, rfl, rfl⟩) (fun v G' e dv => dv)
/-! # first_of -/
def firstOf (g : Gate) (h : Int) (w : Bool) : PyData := match (List.range 24).find? fun i : Nat => openBy g (h + (i : Int)) == w with
  | some i => .int (h + (i : Int))
  | none => .none
def sp_first_of (K : PySem.W.Frag) : Sp := spR K fun ds d => ∃ (g : Gate) (h : Int) (w : Bool), ds = [g.enc, .int h, .bool w] ∧ 0 ≤ h ∧ h ≤ 1000000000000 ∧ d = firstOf g h w
abbrev ns_first_of : List Str := ["gate", "hour", "wished", "later"]
abbrev ps_first_of : List Str := ["gate", "hour", "wished"]
def t_first_of (K : PySem.W.Frag) : TS :=
  (tSeq (tFor (iRng2 (tCons (tVar 1) (tCons (tOp (kAdd K) (tVar 1) (tC (.int 24))) tNil))) (gName 3) (tIfS (tTest (tOp (kEq K) (tCall (sp_open_by K) [] E0 (tCons (tVar 0) (tCons (tVar 3) tNil))) (tVar 2))) (tRet (tVar 3)) tNext)) (tRet (tC .non)))
theorem len_first_of {K : PySem.W.Frag} : ∀ vs H Q E, sp_first_of K vs H Q E → vs.length = 3 := spR_len fun ds d ⟨x, n, w, h, _⟩ => by rw [h]; rfl
theorem find_range {n : Nat} {p : Nat → Bool} {i : Nat} (hi : i < n) (h : p i = true) (h0 : ∀ j, j < i → p j = false) : (List.range n).find? p = some i := by
  rw [List.find?_range_eq_some]
  exact ⟨h, List.mem_range.mpr hi, fun j hj => by rw [h0 j hj]; rfl⟩
theorem pure_first_of {K : PySem.W.Frag} : ∀ vs H Q E, sp_first_of K vs H Q E → t_first_of K { nx := fun _ H' => Q .non H', rt := Q } (L2.start ns_first_of vs) H := pure_in fun vs ds d W G D da hr hret hn => by
  obtain ⟨g, h, w, rfl, h0, h1, rfl⟩ := hr
  obtain ⟨v0, v1, v2, rfl, d0, d1, d2⟩ := da.three_inv
  have e24 : ((h + 24) - h).toNat = 24 := by omega
  refine q_for (it_rng2 (ea_cons (by walk_at "ev") (ea_cons (by walk_at "ev") ea_nil)) (by omega) (by omega) (by omega) (by omega))
    (fun i σ _ M => M = [] ∧ (∃ y, σ = [some v0, some v1, some v2, y]) ∧ ∀ j : Nat, j < i → (openBy g (h + (j : Int)) == w) = false)
    (fun _ _ => ⟨rfl, ⟨none, rfl⟩, fun j hj => absurd hj (by omega)⟩) ?_ ?_
  · rintro i d v σ Ga G' M hd ea ⟨rfl, ⟨y, rfl⟩, hb⟩ e' dv
    obtain ⟨hi, rfl⟩ := rngD_get hd
    rw [e24] at hi
    have e0 : Ex G G' := ea.trans e'
    refine sx_if (b := openBy g (h + (i : Int)) == w) (et_test (K := K) (ev_op (ev_call (ea_cons (ev_var rfl (d0.mono e0)) (ea_cons (ev_var rfl dv) ea_nil)) ⟨g, _, rfl, rfl⟩) (ev_var rfl (d2.mono e0)) rd_eqB)) (fun hc => ?_) (fun hc => ?_)
    · refine sx_ret (R := fun v G' _ => Da K G' v (firstOf g h w)) hret (ev_var rfl dv) (fun v G' e dv => ?_)
      unfold firstOf
      rw [find_range hi hc hb]
      exact dv
    · exact sx_next (nx_turn e' ⟨rfl, ⟨_, rfl⟩, fun j hj => by
        by_cases ej : j = i
        · rw [ej]; exact hc
        · exact hb j (by omega)⟩)
  · rintro σ G' M e ⟨rfl, ⟨y, rfl⟩, hb⟩
    rw [rngD_len, e24] at hb
    have en : firstOf g h w = .none := by
      unfold firstOf
      rw [List.find?_eq_none.mpr fun j hj => by rw [hb j (List.mem_range.mp hj)]; decide]
    refine sx_ret (K := K) hret ev_non (fun v G' e dv => ?_)
    rw [en]; exact dv
/-! # first_open, first_shut -/
def sp_first_open (K : PySem.W.Frag) (Z : Er) : Sp := spX K fun ds r => ∃ (x : PyData) (n : Str) (h : Int), ds = [x, .str n, .int h] ∧ sm x = true ∧ r = thenR (askG Z x n) fun g => hourR Z h (.ok (firstOf g h true))
def sp_first_shut (K : PySem.W.Frag) (Z : Er) : Sp := spX K fun ds r => ∃ (x : PyData) (n : Str) (h : Int), ds = [x, .str n, .int h] ∧ sm x = true ∧ r = thenR (askG Z x n) fun g => hourR Z h (.ok (firstOf g h false))
abbrev ns_first_open : List Str := ["town", "name", "hour", "gate"]
abbrev ps_first_open : List Str := ["town", "name", "hour"]
def t_first_open (K : PySem.W.Frag) (Z : Er) (E : XK) : TS :=
  (tSeq (tDrop (tCall (sp_look_at_town K Z) [] E (tCons (tVar 0) tNil))) (tSeq (tAsg (tCall (sp_gate_called K Z) [] E (tCons (tVar 0) (tCons (tVar 1) tNil))) (gName 3)) (tSeq (tDrop (tCall (sp_look_at_hour K Z) [] E (tCons (tVar 2) tNil))) (tRet (tCall (sp_first_of K) [] E0 (tCons (tVar 3) (tCons (tVar 2) (tCons (tC (.bl true)) tNil))))))))
abbrev ns_first_shut : List Str := ["town", "name", "hour", "gate"]
abbrev ps_first_shut : List Str := ["town", "name", "hour"]
def t_first_shut (K : PySem.W.Frag) (Z : Er) (E : XK) : TS :=
  (tSeq (tDrop (tCall (sp_look_at_town K Z) [] E (tCons (tVar 0) tNil))) (tSeq (tAsg (tCall (sp_gate_called K Z) [] E (tCons (tVar 0) (tCons (tVar 1) tNil))) (gName 3)) (tSeq (tDrop (tCall (sp_look_at_hour K Z) [] E (tCons (tVar 2) tNil))) (tRet (tCall (sp_first_of K) [] E0 (tCons (tVar 3) (tCons (tVar 2) (tCons (tC (.bl false)) tNil))))))))
theorem len_first_open {K : PySem.W.Frag} {Z : Er} : ∀ vs H Q E, sp_first_open K Z vs H Q E → vs.length = 3 := spX_len fun ds r ⟨x, n, h, e, _⟩ => by rw [e]; rfl
theorem len_first_shut {K : PySem.W.Frag} {Z : Er} : ∀ vs H Q E, sp_first_shut K Z vs H Q E → vs.length = 3 := spX_len fun ds r ⟨x, n, h, e, _⟩ => by rw [e]; rfl
theorem hour_in {h : Int} (z : hourOk h = true) : 0 ≤ h ∧ h ≤ 1000000000000 := by
  unfold hourOk at z
  rw [Bool.and_eq_true, decide_eq_true_eq, decide_eq_true_eq] at z
  exact z
theorem pure_first_open {K : PySem.W.Frag} {Z : Er} : ∀ vs H Q E, sp_first_open K Z vs H Q E → t_first_open K Z E { nx := fun _ H' => Q .non H', rt := Q } (L2.start ns_first_open vs) H := purX_in fun vs ds r W G D E da hr hret hn he => by
  obtain ⟨x, n, h, rfl, hs, rfl⟩ := hr
  obtain ⟨v0, v1, v2, rfl, h0, h1, h2⟩ := da.three_inv
  refine q_ask hs rfl h0 rfl h1 _ he fun g eg _ v G' e dv => ?_
  rw [eg] at hret he
  refine q_hour (h := h) rfl (h2.mono e) (fun z H' w => he Z.NoHour (if_neg (by rw [z]; decide)) _ _ H' w) fun z => ?_
  exact sx_ret (hret _ (if_pos z)) (ev_call (ea_cons (ev_var rfl dv) (ea_cons (ev_var rfl (h2.mono e)) (ea_cons ev_bl ea_nil))) ⟨g, h, true, rfl, (hour_in z).1, (hour_in z).2, rfl⟩) (fun v G' e dv => dv)
theorem pure_first_shut {K : PySem.W.Frag} {Z : Er} : ∀ vs H Q E, sp_first_shut K Z vs H Q E → t_first_shut K Z E { nx := fun _ H' => Q .non H', rt := Q } (L2.start ns_first_shut vs) H := purX_in fun vs ds r W G D E da hr hret hn he => by
  obtain ⟨x, n, h, rfl, hs, rfl⟩ := hr
  obtain ⟨v0, v1, v2, rfl, h0, h1, h2⟩ := da.three_inv
  refine q_ask hs rfl h0 rfl h1 _ he fun g eg _ v G' e dv => ?_
  rw [eg] at hret he
  refine q_hour (h := h) rfl (h2.mono e) (fun z H' w => he Z.NoHour (if_neg (by rw [z]; decide)) _ _ H' w) fun z => ?_
  exact sx_ret (hret _ (if_pos z)) (ev_call (ea_cons (ev_var rfl dv) (ea_cons (ev_var rfl (h2.mono e)) (ea_cons ev_bl ea_nil))) ⟨g, h, false, rfl, (hour_in z).1, (hour_in z).2, rfl⟩) (fun v G' e dv => dv)
/-! # open_hours -/
/-- how many of lo, lo + 1, .. (n of them) are open -/
def cntOpen (g : Gate) (lo : Int) (n : Nat) : Nat := ((List.range n).filter fun i : Nat => openBy g (lo + (i : Int))).length
def openHours (g : Gate) (low high : Int) : Int := if high ≤ low then 0 else (high - low) / 24 * (cntOpen g 0 24 : Int) + (cntOpen g low ((high - low) % 24).toNat : Int)
def sp_open_hours (K : PySem.W.Frag) (Z : Er) : Sp := spX K fun ds r => ∃ (x : PyData) (n : Str) (l h : Int), ds = [x, .str n, .int l, .int h] ∧ sm x = true ∧ r = thenR (askG Z x n) fun g => hourR Z l (hourR Z h (.ok (.int (openHours g l h))))
abbrev ns_open_hours : List Str := ["town", "name", "low", "high", "gate", "days", "rest", "many", "hour"]
abbrev ps_open_hours : List Str := ["town", "name", "low", "high"]
def t_open_hours (K : PySem.W.Frag) (Z : Er) (E : XK) : TS :=
  (tSeq (tDrop (tCall (sp_look_at_town K Z) [] E (tCons (tVar 0) tNil))) (tSeq (tAsg (tCall (sp_gate_called K Z) [] E (tCons (tVar 0) (tCons (tVar 1) tNil))) (gName 4)) (tSeq (tDrop (tCall (sp_look_at_hour K Z) [] E (tCons (tVar 2) tNil))) (tSeq (tDrop (tCall (sp_look_at_hour K Z) [] E (tCons (tVar 3) tNil))) (tSeq (tIfS (tTest (tOp kLe (tVar 3) (tVar 2))) (tRet (tC (.int 0))) tNext) (tSeq (tAsg (tCB kDivmod (tCons (tOp kSub (tVar 3) (tVar 2)) (tCons (tC (.int 24)) tNil))) (gTup K 2 (gCons (gName 5) (gCons (gName 6) gNil)))) (tSeq (tAsg (tCB (kLen K) (tCons (tLc (iRng1 (tCons (tC (.int 24)) tNil)) (gName 8) (tB (tCall (sp_open_by K) [] E0 (tCons (tVar 4) (tCons (tVar 8) tNil)))) (tVar 8) [8]) tNil)) (gName 7)) (tRet (tOp (kAdd K) (tOp kMul (tVar 5) (tVar 7)) (tCB (kLen K) (tCons (tLc (iRng2 (tCons (tVar 2) (tCons (tOp (kAdd K) (tVar 2) (tVar 6)) tNil))) (gName 8) (tB (tCall (sp_open_by K) [] E0 (tCons (tVar 4) (tCons (tVar 8) tNil)))) (tVar 8) [8]) tNil)))))))))))
theorem len_open_hours {K : PySem.W.Frag} {Z : Er} : ∀ vs H Q E, sp_open_hours K Z vs H Q E → vs.length = 4 := spX_len fun ds r ⟨x, n, l, h, e, _⟩ => by rw [e]; rfl
theorem rngD_map (lo : Int) (n : Nat) : rngD lo n = (List.range n).map fun i : Nat => PyData.int (lo + (i : Int)) := rfl
theorem cnt_le (g : Gate) (lo : Int) (n : Nat) : cntOpen g lo n ≤ n := by
  unfold cntOpen
  have := List.length_filter_le (fun i : Nat => openBy g (lo + (i : Int))) (List.range n)
  rw [List.length_range] at this
  exact this
theorem pure_open_hours {K : PySem.W.Frag} {Z : Er} : ∀ vs H Q E, sp_open_hours K Z vs H Q E → t_open_hours K Z E { nx := fun _ H' => Q .non H', rt := Q } (L2.start ns_open_hours vs) H := purX_in fun vs ds r W G D E da hr hret hn he => by
  obtain ⟨x, n, l, h, rfl, hs, rfl⟩ := hr
  obtain ⟨v0, _, rfl, h0, da⟩ := da.cons_inv
  obtain ⟨v1, v2, v3, rfl, h1, h2, h3⟩ := da.three_inv
  obtain rfl := h2.int_eq
  obtain rfl := h3.int_eq
  refine q_ask hs rfl h0 rfl h1 _ he fun g eg _ v G' e dv => ?_
  rw [eg] at hret he
  refine q_hour (h := l) rfl (.int _) (fun z H' w => he Z.NoHour (if_neg (by rw [z]; decide)) _ _ H' w) fun zl => ?_
  have e1 : thenR (.inr g) (fun g => hourR Z l (hourR Z h (.ok (.int (openHours g l h))))) = hourR Z h (.ok (.int (openHours g l h))) := if_pos zl
  rw [e1] at hret he
  refine q_hour (h := h) rfl (.int _) (fun z H' w => he Z.NoHour (if_neg (by rw [z]; decide)) _ _ H' w) fun zh => ?_
  have hret' := hret _ (if_pos zh)
  obtain ⟨l0, l1⟩ := hour_in zl
  obtain ⟨k0, k1⟩ := hour_in zh
  refine q_when (b := decide (h ≤ l)) (et_test (K := K) (by walk_at "ev")) (fun hb => ?_) (fun hb => ?_)
  · have e0 : openHours g l h = 0 := if_pos (of_decide_eq_true hb)
    rw [e0] at hret'
    exact sx_ret (K := K) hret' ev_int (fun v G' e dv => dv)
  · have hlt : ¬ h ≤ l := of_decide_eq_false hb
    have e0 : openHours g l h = (h - l) / 24 * (cntOpen g 0 24 : Int) + (cntOpen g l ((h - l) % 24).toNat : Int) := if_neg hlt
    rw [e0] at hret'
    refine q_asgG (sw_ev (ev_cb (ea_cons (by walk_at "ev") (ea_cons (by walk_at "ev") ea_nil)) (ra_divmod (by decide) (by decide))) fun y G2 e2 dy => gx_tup2 dy fun a b ha hb2 => ?_)
    obtain rfl := ha.int_eq
    obtain rfl := hb2.int_eq
    have dv2 := dv.mono e2
    have hr0 : 0 ≤ (h - l) % 24 := Int.emod_nonneg _ (by decide)
    have hr1 : (h - l) % 24 < 24 := Int.emod_lt_of_pos _ (by decide)
    have er : ((l + (h - l) % 24) - l).toNat = ((h - l) % 24).toNat := by congr 1; omega
    have key : ∀ (lo : Int) (m : Nat) (σ : L2.St) (wi : TI), m ≤ 24 → σ[4]? = some (some v) → (∀ y, (wipe (List.set (wipe σ [8]) 8 (some y)) [8] = wipe σ [8])) → (∀ y, (List.set (wipe σ [8]) 8 (some y))[4]? = some (some v)) → (∀ y, (List.set (wipe σ [8]) 8 (some y))[8]? = some (some y)) → IterD K wi σ G2 (rngD lo m) →
        EvD K (tLc wi (gName 8) (tB (tCall (sp_open_by K) [] E0 (tCons (tVar 4) (tCons (tVar 8) tNil)))) (tVar 8) [8]) σ G2 (.list (((List.range m).filter fun i : Nat => openBy g (lo + (i : Int))).map fun i : Nat => PyData.int (lo + (i : Int)))) := by
      intro lo m σ wi hm h4 hw h4' h8 hi
      refine ev_lcF (List.range m) (fun i : Nat => PyData.int (lo + (i : Int))) _ _ hi (by rw [List.length_range]; omega) hw (fun i _ y G3 e3 dy => ?_) (fun i _ y G3 e3 dy _ => ev_var (h8 y) dy)
      exact et_B (K := K) (ev_call (ea_cons (ev_var (h4' y) (dv2.mono e3)) (ea_cons (ev_var (h8 y) dy) ea_nil)) ⟨g, _, rfl, rfl⟩)
    refine q_asgI (K := K) (n := (cntOpen g 0 24 : Int)) ?_ ?_
    · refine ev_is (ev_cb (ea_cons (key 0 24 _ _ (by decide) rfl (fun _ => rfl) (fun _ => rfl) (fun _ => rfl) (it_rng1 (n := 24) (ea_cons (by walk_at "ev") ea_nil) (by decide) (by decide))) ea_nil) ra_lenL) ?_
      rw [List.length_map]; rfl
    · have c1 := cnt_le g 0 24
      refine sx_ret hret' (ev_op (ev_op (by walk_at "ev") (by walk_at "ev") (rd_mul (wide_mul (a := 60) (b := 10) ?_ ?_ (by decide) (by decide) (by decide)))) ?_ rd_add) (fun v G' e dv => dv)
      · have : 0 ≤ (h - l) / 24 := Int.ediv_nonneg (by omega) (by decide)
        have : (h - l) / 24 ≤ h - l := Int.ediv_le_self _ (by omega)
        omega
      · omega
      · refine ev_is (ev_cb (ea_cons (key l ((h - l) % 24).toNat _ _ (by omega) rfl (fun _ => rfl) (fun _ => rfl) (fun _ => rfl) ?_) ea_nil) ra_lenL) (by rw [List.length_map]; rfl)
        rw [← er]
        exact it_rng2 (ea_cons (by walk_at "ev") (ea_cons (by walk_at "ev") ea_nil)) (by omega) (by omega) (by omega) (by omega)
/-! # the bag: _law_well, _law_take -/
def sp__law_well (K : PySem.W.Frag) : Sp := spO K (fun ds => ∃ c t : Int, ds = [.int c, .int t] ∧ 0 ≤ t) fun ds xs _ => ∃ c t : Int, ds = [.int c, .int t] ∧ BagOk t.toNat xs
abbrev ns__law_well : List Str := ["cell", "turn"]
abbrev ps__law_well : List Str := ["cell", "turn"]
def t__law_well (K : PySem.W.Frag) : TS :=
  (tSeq (tIfS (tTest (tOp kGe (tVar 0) (tOp kPow (tC (.int 10)) (tC (.int 18))))) (tRet (tLst (tCons (tOp kSub (tVar 0) (tOp kPow (tC (.int 10)) (tC (.int 18)))) (tCons (tOp kMod (tVar 0) (tC (.int 2305843009213693951))) (tCons (tVar 1) tNil))))) tNext) (tRet (tLst (tCons (tC (.int 0)) (tCons (tOp kMod (tVar 0) (tC (.int 2305843009213693951))) (tCons (tVar 1) tNil))))))
theorem len__law_well {K : PySem.W.Frag} : ∀ vs H Q E, sp__law_well K vs H Q E → vs.length = 2 := spO_len fun ds ⟨c, t, h, _⟩ => by rw [h]; rfl
theorem pure__law_well {K : PySem.W.Frag} : ∀ vs H Q E, sp__law_well K vs H Q E → t__law_well K { nx := fun _ H' => Q .non H', rt := Q } (L2.start ns__law_well vs) H := own_in fun vs ds W G D da hp hret => by
  obtain ⟨c, t, rfl, ht⟩ := hp
  obtain ⟨v0, v1, rfl, h0, h1⟩ := da.two_inv
  obtain rfl := h0.int_eq
  obtain rfl := h1.int_eq
  have hm0 : 0 ≤ c % 2305843009213693951 := Int.emod_nonneg _ (by decide)
  have hm1 : c % 2305843009213693951 < P61 := Int.emod_lt_of_pos _ (by decide)
  refine q_when (b := decide ((10 : Int) ^ 18 ≤ c)) (et_test (K := K) (ev_op (by walk_at "ev") (ev_op ev_int ev_int (rd_pow ⟨by decide, by decide, by decide⟩)) rd_ge)) (fun hb => ?_) (fun hb => ?_)
  · refine sx_retW hret (sw_lstO (swa_cons (sw_int (K := K) (ev_op (by walk_at "ev") (ev_op ev_int ev_int (rd_pow ⟨by decide, by decide, by decide⟩)) rd_sub) (swa_cons (sw_int (K := K) (ev_op (by walk_at "ev") ev_int (rd_mod (by decide))) (swa_cons (sw_int (K := K) (by walk_at "ev") (swa_nil ⟨by show 3 ≤ 100000; decide, fun p n0 => ?_⟩))))))))
    exact ⟨p, _, rfl, n0, List.mem_cons_self, c, t, rfl, _, _, _, rfl, hm0, hm1, ht, by omega⟩
  · refine sx_retW hret (sw_lstO (swa_cons (sw_int (K := K) ev_int (swa_cons (sw_int (K := K) (ev_op (by walk_at "ev") ev_int (rd_mod (by decide))) (swa_cons (sw_int (K := K) (by walk_at "ev") (swa_nil ⟨by show 3 ≤ 100000; decide, fun p n0 => ?_⟩))))))))
    exact ⟨p, _, rfl, n0, List.mem_cons_self, c, t, rfl, _, _, _, rfl, hm0, hm1, ht, by omega⟩
def takePre (ds : List PyData) : Prop := ∃ m : Int, ds = [.int m] ∧ 1 ≤ m ∧ m ≤ 4611686018427387904
def takePost (ds : List PyData) (d : PyData) : Prop := ∃ m r : Int, ds = [.int m] ∧ d = .int r ∧ 0 ≤ r ∧ r < m
def sp__law_take (K : PySem.W.Frag) : Sp := spB K 1 takePre takePost
abbrev ns__law_take : List Str := ["bag", "many", "found", "p", "n"]
abbrev ps__law_take : List Str := ["bag", "many"]
def t__law_take (K : PySem.W.Frag) : TS :=
  (tSeq (tIfS (tTest (tOp kGt (tOp (rIx K) (tVar 0) (tC (.int 0))) (tC (.int 0)))) (tSeq (tAsg (tOp kMod (tOp (rIx K) (tVar 0) (tC (.int 0))) (tVar 1)) (gName 2)) (tSeq (tAsg (tOp kDiv (tOp (rIx K) (tVar 0) (tC (.int 0))) (tVar 1)) (gSub (tVar 0) (tC (.int 0)) rSetL)) (tRet (tVar 2)))) tNext) (tSeq (tAsg (tOp (kAdd K) (tOp (rIx K) (tVar 0) (tC (.int 2))) (tC (.int 1))) (gSub (tVar 0) (tC (.int 2)) rSetL)) (tSeq (tAsg (tC (.int 2305843009213693951)) (gName 3)) (tSeq (tAsg (tOp kMod (tOp (kAdd K) (tOp (rIx K) (tVar 0) (tC (.int 1))) (tOp kMul (tC (.int 1000003)) (tOp (rIx K) (tVar 0) (tC (.int 2))))) (tVar 3)) (gName 4)) (tSeq (tAsg (tOp kMod (tOp (kAdd K) (tOp (kAdd K) (tOp kMul (tVar 4) (tVar 4)) (tOp kMul (tC (.int 7919)) (tOp kPow (tOp (rIx K) (tVar 0) (tC (.int 2))) (tC (.int 2))))) (tC (.int 5))) (tVar 3)) (gName 4)) (tRet (tOp kMod (tOp kDiv (tOp kMod (tOp kPow (tVar 4) (tC (.int 3))) (tVar 3)) (tC (.int 13))) (tVar 1))))))))
theorem len__law_take {K : PySem.W.Frag} : ∀ vs H Q E, sp__law_take K vs H Q E → vs.length = 2 := spB_len (n := 1) fun ds ⟨c, h, _⟩ => by rw [h]; rfl
theorem divW {i j : Int} (h : 0 < j) (h2 : j ≤ 4611686018427387904) : CDivW i j := wide_div (b := 63) h (by omega) (by decide) (by decide)
theorem pure__law_take {K : PySem.W.Frag} : ∀ vs H Q E, sp__law_take K vs H Q E → t__law_take K { nx := fun _ H' => Q .non H', rt := Q } (L2.start ns__law_take vs) H := bag_in fun p b n ws ds W G D hb hn da hp hret => by
  obtain ⟨m, rfl, m1, m2⟩ := hp
  obtain ⟨v1, rfl, h1⟩ := da.one_inv
  obtain rfl := h1.int_eq
  obtain ⟨a, x, c, rfl, x0, x1, c0, c1⟩ := hb
  have hbag : ∀ (a x c : Int) (G1 : Hp), Da K (upd G1 p (.lst [.int a, .int x, .int c])) (.ref p) (.list [.int a, .int x, .int c]) := fun a x c G1 => .lst upd_same (.cons (.int _) (.cons (.int _) (.cons (.int _) .nil)))
  refine q_whenW (swt_M 0 rfl (et_test (K := K) (ev_op (ev_op (ev_var rfl (hbag a x c G)) ev_int (rd_ixL rfl)) ev_int rd_gt)) ⟨fun ht => ?_, fun ht => ?_⟩)
  · -- found = bag[0] % many; bag[0] = bag[0] // many
    refine q_asgW (sw_intM (K := K) 0 rfl (ev_op (ev_op (ev_var rfl (hbag a x c G)) ev_int (rd_ixL rfl)) (ev_var rfl (.int m)) (rd_mod (by omega))) ?_)
    refine q_setM (K := K) 0 rfl (sw_intM (K := K) 0 rfl (ev_op (ev_op (ev_var rfl (hbag a x c G)) ev_int (rd_ixL rfl)) (ev_var rfl (.int m)) (rd_div (divW (by omega) m2))) ⟨_, 0, 0, rfl, ev_int, rfl, ?_⟩)
    refine sx_retW hret (sw_int (K := K) (ev_var rfl (.int _)) ⟨_, _, ⟨m, _, rfl, rfl, Int.emod_nonneg _ (by omega), Int.emod_lt_of_pos _ (by omega)⟩, ⟨_, x, c, rfl, x0, x1, c0, by omega⟩, List.mem_cons_self, .int _⟩)
  · -- bag[2] = bag[2] + 1
    refine q_setM (K := K) 0 rfl (sw_intM (K := K) 0 rfl (ev_op (ev_op (ev_var rfl (hbag a x c G)) ev_int (rd_ixL rfl)) ev_int rd_add) ⟨_, 2, 2, rfl, ev_int, rfl, ?_⟩)
    show Sx W _ D _ G [(p, .lst [.int a, .int x, .int (c + 1)])]
    have hc2 : c + 1 ≤ 1000000000000 := by unfold bagMax at hn; omega
    have hcw : (c + 1).natAbs < 2 ^ 40 := by omega
    have hsq : ((c + 1) ^ (2 : Int).toNat).natAbs < 2 ^ 80 := by
      have e2 : (c + 1) ^ (2 : Int).toNat = (c + 1) * (c + 1) := by show (c + 1) ^ 2 = _; rw [Int.pow_succ, Int.pow_succ, Int.pow_zero, Int.one_mul]
      rw [e2]; exact wide_lt hcw hcw
    refine q_asgI (K := K) ev_int ?_
    refine q_asgW (sw_intM (K := K) 0 rfl (ev_op (ev_op (ev_op (ev_var rfl (hbag a x (c + 1) G)) ev_int (rd_ixL rfl)) (ev_op ev_int (ev_op (ev_var rfl (hbag a x (c + 1) G)) ev_int (rd_ixL rfl)) (rd_mul (wide_mul (a := 30) (b := 40) (by decide) hcw (by decide) (by decide) (by decide)))) rd_add) (ev_var rfl (.int _)) (rd_mod (by decide))) ?_)
    generalize hn1 : (x + 1000003 * (c + 1)) % 2305843009213693951 = n1
    have n10 : 0 ≤ n1 := by rw [← hn1]; exact Int.emod_nonneg _ (by decide)
    have n11 : n1 < 2305843009213693951 := by rw [← hn1]; exact Int.emod_lt_of_pos _ (by decide)
    have n1w : n1.natAbs < 2 ^ 61 := by omega
    refine q_asgW (sw_intM (K := K) 0 rfl (ev_op (ev_op (ev_op (ev_op (ev_var rfl (.int n1)) (ev_var rfl (.int n1)) (rd_mul (wide_mul n1w n1w (by decide) (by decide) (by decide)))) (ev_op ev_int (ev_op (ev_op (ev_var rfl (hbag a x (c + 1) G)) ev_int (rd_ixL rfl)) ev_int (rd_pow ⟨by decide, by decide, by omega⟩)) (rd_mul (wide_mul (a := 13) (b := 80) (by decide) hsq (by decide) (by decide) (by decide)))) rd_add) ev_int rd_add) (ev_var rfl (.int _)) (rd_mod (by decide))) ?_)
    · generalize hn2 : (n1 * n1 + 7919 * (c + 1) ^ (2 : Int).toNat + 5) % 2305843009213693951 = n2
      have n20 : 0 ≤ n2 := by rw [← hn2]; exact Int.emod_nonneg _ (by decide)
      have n21 : n2 < 2305843009213693951 := by rw [← hn2]; exact Int.emod_lt_of_pos _ (by decide)
      refine sx_retW hret (sw_int (K := K) (ev_op (ev_op (ev_op (ev_op (ev_var rfl (.int n2)) ev_int (rd_pow ⟨by decide, by decide, by omega⟩)) (ev_var rfl (.int _)) (rd_mod (by decide))) ev_int (rd_div (divW (by decide) (by decide)))) (ev_var rfl (.int m)) (rd_mod (by omega))) ⟨_, _, ⟨m, _, rfl, rfl, Int.emod_nonneg _ (by omega), Int.emod_lt_of_pos _ (by omega)⟩, ⟨a, x, c + 1, rfl, x0, x1, by omega, by omega⟩, List.mem_cons_self, .int _⟩)
/-- one draw -/
theorem sw_take {K : PySem.W.Frag} {W : Ent} {σ : L2.St} {G : Hp} {M : Mem} {C : V → Hp → Mem → Prop} {i n : Nat} {p : Addr} {b : List V} {tm : TE} {m : Int} {E : XK} (k : Nat) (hv : σ[i]? = some (some (.ref p))) (ha : EvD K tm σ G (.int m)) (hm : M[k]? = some (p, .lst b)) (hb : BagOk n b) (hn : n + 1 ≤ bagMax) (m1 : 1 ≤ m) (m2 : m ≤ 4611686018427387904)
    (c : ∀ r b', 0 ≤ r → r < m → BagOk (n + 1) b' → C (.int r) G (M.set k (p, .lst b'))) : Sw W (tCall (sp__law_take K) [] E (tCons (tVar i) (tCons tm tNil))) σ G M C := fun H w Q q => by
  refine sw_callB (C := fun v G' M' => ∃ r b', v = .int r ∧ 0 ≤ r ∧ r < m ∧ BagOk (n + 1) b' ∧ M' = M.set k (p, .lst b') ∧ Ex G G') k hv (ea_cons ha ea_nil) hm hb hn ⟨m, rfl, m1, m2⟩ (fun v d b' G' hp hb' e dv => ?_) H w Q fun v G' M' H' w' ⟨r, b', ev, h1, h2, h3, eM, e⟩ => ?_
  · obtain ⟨m', r, e1, rfl, r0, r1⟩ := hp
    cases e1
    exact ⟨r, b', dv.int_eq, r0, r1, hb', rfl, e⟩
  · subst ev eM
    exact q _ G _ H' (w'.less e w) (c r b' h1 h2 h3)
section
variable {K : PySem.W.Frag} {W : Ent} {σ : L2.St} {G : Hp} {M : Mem} {C : V → Hp → Mem → Prop} {i : Nat} {p : Addr} {E : XK}
/-- [..][_law_take(bag, m)] -/
theorem sw_pick {ta : TA} {m : Nat} (k : Nat) (hv : σ[i]? = some (some (.ref p))) (hm0 : 0 < m) (hm1 : m ≤ 1000) (h : Swa W ta σ G M fun vs G1 M1 => ∃ ds b n, DaL K G1 vs ds ∧ ds.length = m ∧ M1[k]? = some (p, .lst b) ∧ BagOk n b ∧ n + 1 ≤ bagMax ∧
      ∀ (j : Nat) d v G2 b', ds[j]? = some d → Ex G1 G2 → Da K G2 v d → BagOk (n + 1) b' → C v G2 (M1.set k (p, .lst b'))) :
    Sw W (tOp (rIx K) (tLst ta) (tCall (sp__law_take K) [] E (tCons (tVar i) (tCons (tC (.int (m : Int))) tNil)))) σ G M C := by
  refine sw_op (sw_lst (K := K) fun H w Q q => h H w Q fun vs G1 M1 H1 w1 ⟨ds, b, n, d1, dl, hm, hb, hn, c⟩ => q vs G1 M1 H1 w1 ⟨ds, d1, by omega, fun v G2 e2 dv => ?_⟩)
  refine sw_take k hv ev_int hm hb hn (by omega) (by omega) fun r b' r0 r1 hb' => ?_
  obtain ⟨j, rfl⟩ := Int.eq_ofNat_of_zero_le r0
  have hj : j < ds.length := by omega
  exact rw_rd (rd_ixLg hj) dv (.int _) fun u G3 e3 du => c j _ u G3 b' (by rw [List.getD_eq_getElem?_getD, List.getElem?_eq_getElem hj]; rfl) (e2.trans e3) du hb'
end
/-! # _law_name -/
def sevenNames : List Str := ["ann", "bo", "cy", "dan", "eve", "flo", "gus"]
def drawnName (x : Str) : Prop := nameS x = true ∧ (x ∈ sevenNames ∨ x.length = 1 ∨ x.length = 2 ∨ x.length = 8)
theorem seven_drawn : ∀ x ∈ sevenNames, drawnName x := fun x h => ⟨(List.all_eq_true (p := nameS) (l := sevenNames)).mp (by decide +kernel) x h, .inl h⟩
def sp__law_name (K : PySem.W.Frag) : Sp := spB K 10 (fun ds => ds = []) fun _ d => ∃ x, d = .str x ∧ drawnName x
abbrev ns__law_name : List Str := ["bag", "way", "letters", "many", "k"]
abbrev ps__law_name : List Str := ["bag"]
def t__law_name (K : PySem.W.Frag) : TS :=
  (tSeq (tAsg (tCall (sp__law_take K) [] E0 (tCons (tVar 0) (tCons (tC (.int 9)) tNil))) (gName 1)) (tSeq (tIfS (tTest (tOp (kLt K) (tVar 1) (tC (.int 7)))) (tRet (tOp (rIx K) (tLst (tCons (tC (.str "ann")) (tCons (tC (.str "bo")) (tCons (tC (.str "cy")) (tCons (tC (.str "dan")) (tCons (tC (.str "eve")) (tCons (tC (.str "flo")) (tCons (tC (.str "gus")) tNil)))))))) (tVar 1))) tNext) (tSeq (tAsg (tC (.str "abcdefghijklmnopqrstuvwxyz")) (gName 2)) (tSeq (tAsg (tOp (rIx K) (tLst (tCons (tC (.int 1)) (tCons (tC (.int 2)) (tCons (tC (.int 8)) tNil)))) (tCall (sp__law_take K) [] E0 (tCons (tVar 0) (tCons (tC (.int 3)) tNil)))) (gName 3)) (tRet (tM1 (kJoin K) (tC (.str "")) (tLc (iRng1 (tCons (tVar 3) tNil)) (gName 4) tYes (tOp (rIx K) (tVar 2) (tCall (sp__law_take K) [] E0 (tCons (tVar 0) (tCons (tC (.int 26)) tNil)))) [4])))))))
theorem len__law_name {K : PySem.W.Frag} : ∀ vs H Q E, sp__law_name K vs H Q E → vs.length = 1 := spB_len (n := 0) fun ds h => by rw [h]; rfl
theorem letter_get {r : Int} (h0 : 0 ≤ r) (h1 : r < 26) : ∃ c, atI lettersS.cps.toList r = some c ∧ isLetter c = true := by
  obtain ⟨j, rfl⟩ := Int.eq_ofNat_of_zero_le h0
  have hl : lettersS.cps.toList.length = 26 := by decide +kernel
  have hj : j < lettersS.cps.toList.length := by omega
  exact ⟨lettersS.cps.toList[j], atI_nat (List.getElem?_eq_getElem hj), decide_eq_true (List.getElem_mem hj)⟩
theorem name_of_letters {cs : List Nat} (h : ∀ c ∈ cs, isLetter c = true) (hl : cs.length = 1 ∨ cs.length = 2 ∨ cs.length = 8) : drawnName (Txt.join (Str.ofString "") (cs.map fun c => (⟨#[c]⟩ : Str))) := by
  have e := join_empty cs
  have el : (Txt.join (Str.ofString "") (cs.map fun c => (⟨#[c]⟩ : Str))).length = cs.length := by
    conv => rhs; rw [← e, Array.length_toList]
    rfl
  refine ⟨?_, .inr (by rw [el]; exact hl)⟩
  unfold nameS
  rw [e, el, List.all_eq_true.mpr h, Bool.and_true, Bool.and_eq_true, decide_eq_true_eq, decide_eq_true_eq]
  omega
theorem pure__law_name {K : PySem.W.Frag} : ∀ vs H Q E, sp__law_name K vs H Q E → t__law_name K { nx := fun _ H' => Q .non H', rt := Q } (L2.start ns__law_name vs) H := bag_in fun p b n ws ds W G D hb hn da hp hret => by
  subst hp
  obtain rfl := da.nil_inv
  refine q_asgW (sw_take 0 rfl ev_int rfl hb (by omega) (by decide) (by decide) fun r b1 r0 r1 hb1 => ?_)
  refine q_when (b := decide (r < 7)) (et_test (K := K) (by walk_at "ev")) (fun hc => ?_) (fun hc => ?_)
  · have r7 := of_decide_eq_true hc
    obtain ⟨j, rfl⟩ := Int.eq_ofNat_of_zero_le r0
    have hj : j < (sevenNames.map PyData.str).length := by show j < 7; omega
    refine sx_retW hret (sw_ev (ev_op (a := .list (sevenNames.map .str)) (ev_lst (ea_cons ev_str (ea_cons ev_str (ea_cons ev_str (ea_cons ev_str (ea_cons ev_str (ea_cons ev_str (ea_cons ev_str ea_nil))))))) (by decide)) (ev_var rfl (.int _)) (rd_ixLg hj)) fun v G' e dv => ?_)
    have hj7 : j < sevenNames.length := by show j < 7; omega
    have ed : (sevenNames.map PyData.str).getD j .none = .str sevenNames[j] := by
      rw [List.getD_eq_getElem?_getD, List.getElem?_map, List.getElem?_eq_getElem hj7]; rfl
    rw [ed] at dv
    exact ⟨_, b1, ⟨_, rfl, seven_drawn _ (List.getElem_mem hj7)⟩, hb1.mono (by omega), List.mem_cons_self, dv⟩
  · refine q_asgS (K := K) (n := lettersS) ev_str ?_
    refine q_asgW (sw_pick (m := 3) 0 rfl (by decide) (by decide) (swa_cons (sw_int (K := K) ev_int (swa_cons (sw_int (K := K) ev_int (swa_cons (sw_int (K := K) ev_int (swa_nil ⟨[.int 1, .int 2, .int 8], _, _, .cons (.int _) (.cons (.int _) (.cons (.int _) .nil)), rfl, rfl, hb1, by omega, fun j d v G2 b2 hd e2 dv hb2 => ?_⟩))))))))
    have hmany : ∃ m : Nat, v = .int (m : Int) ∧ (m = 1 ∨ m = 2 ∨ m = 8) := by
      match j, hd with
      | 0, hd => cases hd; exact ⟨1, dv.int_eq, .inl rfl⟩
      | 1, hd => cases hd; exact ⟨2, dv.int_eq, .inr (.inl rfl)⟩
      | 2, hd => cases hd; exact ⟨8, dv.int_eq, .inr (.inr rfl)⟩
      | j + 3, hd => cases hd
    obtain ⟨m, rfl, hm⟩ := hmany
    refine sx_retW hret (sw_join (sw_lc (K := K) (fun ds _ M1 => ds = rngD 0 m ∧ M1 = [(p, .lst b2)]) (itw_d (it_rng1 (n := (m : Int)) (ea_cons (ev_var rfl (.int _)) ea_nil) (by omega) (by omega)) fun _ _ => ⟨by rw [Int.toNat_natCast], rfl⟩) fun ds G1 M1 hc => ?_))
    obtain ⟨rfl, rfl⟩ := hc
    refine ⟨fun i acc _ M => ∃ b3 cs, M = [(p, .lst b3)] ∧ BagOk (n + 2 + i) b3 ∧ acc = (cs.map fun c => (⟨#[c]⟩ : Str)).map V.str ∧ cs.length = i ∧ ∀ c ∈ cs, isLetter c = true, ⟨b2, [], rfl, hb2, rfl, rfl, fun _ h => nomatch h⟩, ?_, ?_⟩
    · rintro i d v acc Ga G' M Dl hd e1 ⟨b3, cs, rfl, hb3, rfl, hcl, hcs⟩ e2 dv n0
      obtain ⟨hi, rfl⟩ := rngD_get hd
      refine gx_name ⟨rfl, swt_ev (b := true) (fun H e Q q => q H (Ex.refl H)) ⟨fun _ => ?_, fun h => nomatch h⟩⟩
      refine sw_op (sw_str (K := K) (x := lettersS) (ev_var rfl (.str _)) (sw_take 1 rfl ev_int rfl hb3 (by omega) (by decide) (by decide) fun r b4 r0 r1 hb4 => ?_))
      obtain ⟨c, hc1, hc2⟩ := letter_get r0 r1
      refine rw_rd (rd_ixS (by decide +kernel) hc1) (.str _) (.int _) fun u G4 e4 du => ?_
      refine ⟨[(p, .lst b4)], rfl, by rw [List.length_map, List.length_map]; omega, e2.trans e4, b4, cs ++ [c], rfl, hb4.mono (by omega), ?_, by rw [List.length_append]; show _ + 1 = _; omega, fun x hx => ?_⟩
      · rw [List.map_append, List.map_append, du.str_eq]; rfl
      · rcases List.mem_append.mp hx with h | h
        · exact hcs x h
        · rw [List.mem_singleton.mp h]; exact hc2
    · rintro acc G' M q e1 ⟨b3, cs, rfl, hb3, rfl, hcl, hcs⟩ n0
      rw [rngD_len] at hcl hb3
      refine ⟨q, cs.map fun c => (⟨#[c]⟩ : Str), 0, rfl, rfl, ?_, _, b3, ⟨_, rfl, name_of_letters hcs (by omega)⟩, hb3.mono (by omega), List.mem_cons_of_mem _ List.mem_cons_self, .str _⟩
      have es : (Str.ofString "").length = 0 := by decide +kernel
      rw [es, Nat.mul_zero, Nat.add_zero, List.map_map]
      have : ∀ l : List Nat, (l.map ((fun x : Str => x.length) ∘ fun c => (⟨#[c]⟩ : Str))).sum = l.length := by
        intro l
        induction l with
        | nil => rfl
        | cons a r ih => rw [List.map_cons, List.sum_cons, ih, List.length_cons]; show 1 + _ = _; omega
      rw [this]; omega
/-! # _law_rising -/
def sp__law_rising (K : PySem.W.Frag) : Sp := spB K 401 (fun ds => ∃ m : Int, ds = [.int m] ∧ 1 ≤ m ∧ m ≤ 40) fun ds d => ∃ (m : Int) (ss : List Str), ds = [.int m] ∧ d = .list (ss.map .str) ∧ risesS ss = true ∧ 1 ≤ ss.length ∧ (ss.length : Int) ≤ m ∧ ∀ s ∈ ss, drawnName s
abbrev ns__law_rising : List Str := ["bag", "most", "found", "k"]
abbrev ps__law_rising : List Str := ["bag", "most"]
def t__law_rising (K : PySem.W.Frag) : TS :=
  (tSeq (tAsg tDNewK (gName 2)) (tSeq (tFor (iRng1 (tCons (tOp (kAdd K) (tC (.int 1)) (tCall (sp__law_take K) [] E0 (tCons (tVar 0) (tCons (tVar 1) tNil)))) tNil)) (gName 3) (sDPut (tVar 2) (tCall (sp__law_name K) [] E0 (tCons (tVar 0) tNil)) (tC (.bl true)))) (tRet (tCB (kSorted K) (tCons (tVar 2) tNil)))))
theorem len__law_rising {K : PySem.W.Frag} : ∀ vs H Q E, sp__law_rising K vs H Q E → vs.length = 2 := spB_len (n := 1) fun ds ⟨m, h, _⟩ => by rw [h]; rfl
theorem putK_keys {kvs : List (Key × V)} {k : Key} {v : V} (h : (valV kvs k).isSome = true) : (putK kvs k v).map (·.1) = kvs.map (·.1) := by
  unfold putK
  rw [if_pos (by rw [valV_any]; exact h), List.map_map]
  refine List.map_congr_left fun kv _ => ?_
  show (if kv.1 = k then (kv.1, v) else kv).1 = kv.1
  split <;> rfl
/-- what the dict of names looks like -/
theorem put_name {kvs : List (Key × V)} {ks : List Str} (h : kvs.map (·.1) = ks.map Sum.inr) (hn : ks.Nodup) (x : Str) : ∃ ks' : List Str, (putK kvs (Sum.inr x) (.bl true)).map (·.1) = ks'.map Sum.inr ∧ ks'.Nodup ∧ (∀ y ∈ ks', y ∈ ks ∨ y = x) ∧ ks'.length ≤ ks.length + 1 ∧ 1 ≤ ks'.length := by
  cases e : valV kvs (Sum.inr x : Key) with
  | none =>
    have hnot : x ∉ ks := fun hx => valV_not e (by rw [h]; exact List.mem_map_of_mem hx)
    refine ⟨ks ++ [x], by rw [putK_new _ e, List.map_append, h, List.map_append]; rfl, ?_, fun y hy => ?_, by rw [List.length_append]; exact Nat.le_refl _, by rw [List.length_append]; exact Nat.le_add_left _ _⟩
    · rw [List.nodup_append]
      exact ⟨hn, by simp, fun a ha b hb => by rw [List.mem_singleton.mp hb]; exact fun z => hnot (z ▸ ha)⟩
    · rcases List.mem_append.mp hy with z | z
      · exact .inl z
      · exact .inr (List.mem_singleton.mp z)
  | some v =>
    have hin : x ∈ ks := by
      have := valV_in e
      rw [h] at this
      obtain ⟨y, hy, ey⟩ := List.mem_map.mp this
      exact Sum.inr.inj ey ▸ hy
    refine ⟨ks, by rw [putK_keys (by rw [e]; rfl), h], hn, fun y hy => .inl hy, Nat.le_succ _, List.length_pos_of_mem hin⟩
theorem pure__law_rising {K : PySem.W.Frag} : ∀ vs H Q E, sp__law_rising K vs H Q E → t__law_rising K { nx := fun _ H' => Q .non H', rt := Q } (L2.start ns__law_rising vs) H := bag_in fun p b n ws ds W G D hb hn da hp hret => by
  obtain ⟨m, rfl, m1, m2⟩ := hp
  obtain ⟨v1, rfl, h1⟩ := da.one_inv
  obtain rfl := h1.int_eq
  refine q_dict fun q nq => ?_
  refine q_forW (K := K) (fun ds _ M1 => ∃ (r : Nat) (b1 : List V), ds = rngD 0 (r + 1) ∧ (r : Int) < m ∧ BagOk (n + 1) b1 ∧ M1 = [(q, .dK []), (p, .lst b1)]) (itw_rng1 (swa_cons (sw_op (sw_int (K := K) ev_int (sw_take 1 rfl (ev_var rfl (.int _)) rfl hb (by omega) (by omega) (by omega) fun r b1 r0 r1 hb1 => rw_int rd_add (.int _) (.int _) (swa_nil ?_)))))) fun ds G1 M1 hc => ?_
  · obtain ⟨j, rfl⟩ := Int.eq_ofNat_of_zero_le r0
    exact ⟨_, rfl, by omega, by omega, j, b1, by congr 1; omega, r1, hb1, rfl⟩
  · obtain ⟨r, b1, rfl, r1, hb1, rfl⟩ := hc
    refine ⟨fun i σ _ M => ∃ y b2 kvs ks, σ = [some (.ref p), some (.int m), some (.ref q), y] ∧ M = [(q, .dK kvs), (p, .lst b2)] ∧ BagOk (n + 1 + i * 10) b2 ∧ kvs.map (·.1) = ks.map Sum.inr ∧ ks.Nodup ∧ (∀ s ∈ ks, drawnName s) ∧ ks.length ≤ i ∧ (0 < i → 1 ≤ ks.length), ⟨none, b1, [], [], rfl, rfl, hb1.mono (by omega), rfl, List.nodup_nil, (fun _ h => nomatch h), Nat.le_refl _, (fun h => absurd h (by omega))⟩, ?_, ?_⟩
    · rintro i d v σ Ga G' M hd e1 ⟨y, b2, kvs, ks, rfl, rfl, hb2, hk, hnd, hdr, hle, hpos⟩ e2 dv
      obtain ⟨hi, rfl⟩ := rngD_get hd
      refine gx_name (sx_dput (kvs := kvs) (v := .bl true) (fun H => rfl) 0 rfl ⟨kvs, List.mem_cons_self⟩ (sw_callB 1 rfl ea_nil rfl hb2 (by omega) rfl fun w d b3 G3 hpost hb3 e3 dw => ?_))
      obtain ⟨x, rfl, hx⟩ := hpost
      obtain ⟨ks', k1, k2, k3, k4, k5⟩ := put_name hk hnd x
      have hkl : kvs.length = ks.length := by
        have := congrArg List.length hk
        rw [List.length_map, List.length_map] at this
        exact this
      refine ⟨x, kvs, dw.str_eq, rfl, by omega, nx_turn (e2.trans e3) ⟨_, b3, _, ks', rfl, rfl, hb3.mono (by omega), k1, k2, fun s hs => ?_, by omega, fun _ => k5⟩⟩
      rcases k3 s hs with z | z
      · exact hdr s z
      · rw [z]; exact hx
    · rintro σ G' M e1 ⟨y, b2, kvs, ks, rfl, rfl, hb2, hk, hnd, hdr, hle, hpos⟩
      rw [rngD_len] at hle hpos hb2
      refine sx_retW hret (sw_sortedD (K := K) 0 rfl rfl hk (by omega) fun ys v G2 hperm hs e2 dv => ?_)
      refine ⟨_, b2, ⟨m, ys, rfl, rfl, rises_of_sorted hs (hperm.nodup_iff.mpr hnd), ?_, ?_, fun s h => hdr s (hperm.mem_iff.mp h)⟩, hb2.mono (by omega), List.mem_cons_of_mem _ List.mem_cons_self, dv⟩
      · rw [hperm.length_eq]; exact hpos (by omega)
      · rw [hperm.length_eq]; omega
/-! # hours, by plain reckoning -/
def clocks (g : Gate) : List Int := (List.range (if g.opens = g.shuts then 24 else ((g.shuts - g.opens) % 24).toNat)).map fun i : Nat => (g.opens + (i : Int)) % 24
theorem open_per (g : Gate) (h : Int) : openBy g (h + 24) = openBy g h := by
  unfold openBy
  rw [show (h + 24 - g.opens) % 24 = (h - g.opens) % 24 by omega]
theorem clocks_open {g : Gate} (k : g.Ok) (h : Int) : decide (h % 24 ∈ clocks g) = openBy g h := by
  have o0 := k.o0; have o1 := k.o1; have s0 := k.s0; have s1 := k.s1
  unfold openBy clocks
  rw [Bool.eq_iff_iff]
  simp only [decide_eq_true_eq, List.mem_map, List.mem_range, Bool.or_eq_true]
  by_cases e : g.opens = g.shuts
  · rw [if_pos e]
    refine ⟨fun _ => .inl e, fun _ => ⟨((h - g.opens) % 24).toNat, by omega, by omega⟩⟩
  · rw [if_neg e]
    constructor
    · rintro ⟨i, hi, hx⟩
      right; omega
    · rintro (h1 | h1)
      · exact absurd h1 e
      · exact ⟨((h - g.opens) % 24).toNat, by omega, by omega⟩
theorem cnt_zero (g : Gate) (lo : Int) : cntOpen g lo 0 = 0 := rfl
theorem cnt_succ (g : Gate) (lo : Int) (n : Nat) : cntOpen g lo (n + 1) = cntOpen g lo n + (if openBy g (lo + (n : Int)) = true then 1 else 0) := by
  unfold cntOpen
  rw [List.range_succ, List.filter_append, List.length_append]
  congr 1
  by_cases h : openBy g (lo + (n : Int)) = true
  · rw [if_pos h, List.filter_cons, if_pos h]; rfl
  · rw [if_neg h, List.filter_cons, if_neg h]; rfl
theorem cnt_add (g : Gate) (lo : Int) (m : Nat) : ∀ n : Nat, cntOpen g lo (m + n) = cntOpen g lo m + cntOpen g (lo + (m : Int)) n
  | 0 => by rw [cnt_zero]; rfl
  | n + 1 => by
    rw [← Nat.add_assoc, cnt_succ, cnt_add g lo m n, cnt_succ, show lo + ((m + n : Nat) : Int) = lo + (m : Int) + (n : Int) by omega]
    omega
theorem cnt_per (g : Gate) (lo : Int) : ∀ n : Nat, cntOpen g (lo + 24) n = cntOpen g lo n
  | 0 => rfl
  | n + 1 => by rw [cnt_succ, cnt_succ, cnt_per g lo n, show lo + 24 + (n : Int) = lo + (n : Int) + 24 by omega, open_per]
theorem cnt_day1 (g : Gate) (lo : Int) : cntOpen g (lo + 1) 24 = cntOpen g lo 24 := by
  have h1 := cnt_add g lo 1 24
  have h2 := cnt_succ g lo 24
  have h3 := cnt_succ g lo 0
  rw [cnt_zero] at h3
  have e1 : lo + ((24 : Nat) : Int) = lo + 24 := rfl
  have e2 : lo + ((0 : Nat) : Int) = lo := by omega
  have e3 : lo + ((1 : Nat) : Int) = lo + 1 := rfl
  rw [e1, open_per] at h2
  rw [e2] at h3
  rw [e3] at h1
  have e4 : (1 + 24 : Nat) = 24 + 1 := rfl
  rw [e4, h2, h3] at h1
  omega
theorem cnt_day (g : Gate) : ∀ n : Nat, cntOpen g (n : Int) 24 = cntOpen g 0 24
  | 0 => rfl
  | n + 1 => by rw [show ((n + 1 : Nat) : Int) = (n : Int) + 1 by omega, cnt_day1, cnt_day g n]
theorem cnt_days (g : Gate) {lo : Int} (h : 0 ≤ lo) : ∀ q : Nat, cntOpen g lo (q * 24) = q * cntOpen g 0 24 ∧ ∀ n : Nat, cntOpen g (lo + ((q * 24 : Nat) : Int)) n = cntOpen g lo n
  | 0 => ⟨by rw [Nat.zero_mul, Nat.zero_mul]; rfl, fun n => by rw [Nat.zero_mul]; congr 1; omega⟩
  | q + 1 => by
    obtain ⟨h1, h2⟩ := cnt_days g h q
    have e : (q + 1) * 24 = q * 24 + 24 := by omega
    refine ⟨?_, fun n => ?_⟩
    · rw [e, cnt_add, h1, h2 24]
      obtain ⟨j, rfl⟩ := Int.eq_ofNat_of_zero_le h
      rw [cnt_day, Nat.add_mul, Nat.one_mul]
    · rw [e, show lo + ((q * 24 + 24 : Nat) : Int) = lo + ((q * 24 : Nat) : Int) + 24 by omega, cnt_per, h2]
/-- the reckoning by days is the count -/
theorem openHours_eq (g : Gate) {l h : Int} (hl : 0 ≤ l) : openHours g l h = (cntOpen g l (h - l).toNat : Int) := by
  unfold openHours
  by_cases e : h ≤ l
  · rw [if_pos e, show (h - l).toNat = 0 by omega]; rfl
  · rw [if_neg e]
    have hq : 0 ≤ (h - l) / 24 := Int.ediv_nonneg (by omega) (by decide)
    have hs : (h - l).toNat = ((h - l) / 24).toNat * 24 + ((h - l) % 24).toNat := by omega
    obtain ⟨k1, k2⟩ := cnt_days g hl ((h - l) / 24).toNat
    rw [hs, cnt_add, k1, k2, Int.natCast_add, Int.natCast_mul, Int.toNat_of_nonneg hq]
theorem openHours_add (g : Gate) {l m h : Int} (hl : 0 ≤ l) (h1 : l ≤ m) (h2 : m ≤ h) : openHours g l h = openHours g l m + openHours g m h := by
  rw [openHours_eq g hl, openHours_eq g hl, openHours_eq g (by omega : 0 ≤ m), show (h - l).toNat = (m - l).toNat + (h - m).toNat by omega, cnt_add, show l + (((m - l).toNat : Nat) : Int) = m by omega]
  omega
theorem cnt_clocks {g : Gate} (k : g.Ok) : cntOpen g 0 24 = (clocks g).length := by
  have o0 := k.o0; have o1 := k.o1; have s0 := k.s0; have s1 := k.s1
  have e1 : cntOpen g 0 24 = cntOpen g g.opens 24 := by
    obtain ⟨j, hj⟩ := Int.eq_ofNat_of_zero_le o0
    rw [hj, cnt_day]
  have e2 : ∀ n : Nat, n ≤ 24 → cntOpen g g.opens n = min n (clocks g).length := by
    intro n
    unfold clocks
    rw [List.length_map, List.length_range]
    induction n with
    | zero => intro _; rw [Nat.zero_min]; rfl
    | succ n ih =>
      intro hn
      rw [cnt_succ, ih (by omega)]
      unfold openBy
      by_cases e : g.opens = g.shuts
      · rw [if_pos e, decide_eq_true e, Bool.true_or, if_pos rfl]; omega
      · rw [if_neg e, decide_eq_false e, Bool.false_or]
        by_cases c : (g.opens + (n : Int) - g.opens) % 24 < (g.shuts - g.opens) % 24
        · rw [decide_eq_true c, if_pos rfl]; omega
        · rw [decide_eq_false c, if_neg (by decide)]; omega
  rw [e1, e2 24 (Nat.le_refl _)]
  have : (clocks g).length ≤ 24 := by
    unfold clocks
    rw [List.length_map, List.length_range]
    split <;> omega
  omega
/-! # _law_town, _law_far -/
structure TownL (t : List Gate) (m : Int) : Prop where
  l1 : 1 ≤ t.length
  lm : (t.length : Int) ≤ m
  gs : ∀ g ∈ t, g.Ok
  ri : risesS (t.map Gate.name) = true
  dr : ∀ g ∈ t, drawnName g.name
theorem TownL.ok {t : List Gate} {m : Int} (h : TownL t m) (hm : m ≤ 8) : TownOk t := ⟨h.l1, by have := h.lm; omega, h.gs, h.ri⟩
def sp__law_town (K : PySem.W.Frag) : Sp := spB K 600 (fun ds => ∃ m : Int, ds = [.int m] ∧ 1 ≤ m ∧ m ≤ 40) fun ds d => ∃ (m : Int) (t : List Gate), ds = [.int m] ∧ d = townEnc t ∧ TownL t m
abbrev ns__law_town : List Str := ["bag", "most", "found", "name", "opens", "wide"]
abbrev ps__law_town : List Str := ["bag", "most"]
def t__law_town (K : PySem.W.Frag) : TS :=
  (tSeq (tAsg (tLst tNil) (gName 2)) (tSeq (tFor (iSeq K (tCall (sp__law_rising K) [] E0 (tCons (tVar 0) (tCons (tVar 1) tNil)))) (gName 3) (tSeq (tAsg (tCall (sp__law_take K) [] E0 (tCons (tVar 0) (tCons (tC (.int 24)) tNil))) (gName 4)) (tSeq (tAsg (tOp (rIx K) (tLst (tCons (tCall (sp__law_take K) [] E0 (tCons (tVar 0) (tCons (tC (.int 24)) tNil))) (tCons (tC (.int 0)) (tCons (tC (.int 1)) (tCons (tC (.int 23)) tNil))))) (tOp kDiv (tOp kMul (tOp kDiv (tOp kMul (tCall (sp__law_take K) [] E0 (tCons (tVar 0) (tCons (tC (.int 8)) tNil))) (tC (.int 5))) (tC (.int 8))) (tC (.int 3))) (tC (.int 4)))) (gName 5)) (tDrop (tBM K "list" rAppend (tVar 2) (tCons (tTup (tCons (tVar 3) (tCons (tVar 4) (tCons (tOp kMod (tOp (kAdd K) (tVar 4) (tVar 5)) (tC (.int 24))) (tCons (tOp (kEq K) (tCall (sp__law_take K) [] E0 (tCons (tVar 0) (tCons (tC (.int 2)) tNil))) (tC (.int 1))) tNil))))) tNil)))))) (tRet (tCB (kTuple K) (tCons (tVar 2) tNil)))))
theorem len__law_town {K : PySem.W.Frag} : ∀ vs H Q E, sp__law_town K vs H Q E → vs.length = 2 := spB_len (n := 1) fun ds ⟨m, h, _⟩ => by rw [h]; rfl
theorem pure__law_town {K : PySem.W.Frag} : ∀ vs H Q E, sp__law_town K vs H Q E → t__law_town K { nx := fun _ H' => Q .non H', rt := Q } (L2.start ns__law_town vs) H := bag_in fun p b n ws ds W G D hb hn da hp hret => by
  obtain ⟨m, rfl, m1, m2⟩ := hp
  obtain ⟨v1, rfl, h1⟩ := da.one_inv
  obtain rfl := h1.int_eq
  refine q_lstO (K := K) ea_nil (by decide) fun q vs G1 nq e1 dvs => ?_
  obtain rfl := dvs.nil_inv
  refine q_forW (K := K) (fun ds _ M1 => ∃ (ss : List Str) (b1 : List V), ds = ss.map .str ∧ risesS ss = true ∧ 1 ≤ ss.length ∧ (ss.length : Int) ≤ m ∧ (∀ s ∈ ss, drawnName s) ∧ BagOk (n + 401) b1 ∧ M1 = [(q, .lst []), (p, .lst b1)])
    (itw_list (sw_callB 1 rfl (ea_cons (ev_var rfl (.int _)) ea_nil) rfl hb (by omega) ⟨m, rfl, m1, m2⟩ fun v d b1 G2 hpost hb1 e2 dv => ?_)) fun ds G2 M2 hc => ?_
  · obtain ⟨m', ss, e3, rfl, s1, s2, s3, s4⟩ := hpost
    cases e3
    exact ⟨_, dv, ss, b1, rfl, s1, s2, s3, s4, hb1, rfl⟩
  · obtain ⟨ss, b1, rfl, s1, s2, s3, s4, hb1, rfl⟩ := hc
    refine ⟨fun i σ G M => ∃ y3 y4 y5 b2 vs gs, σ = [some (.ref p), some (.int m), some (.ref q), y3, y4, y5] ∧ M = [(q, .lst vs), (p, .lst b2)] ∧ BagOk (n + 401 + 4 * i) b2 ∧ DaL K G vs (gs.map Gate.enc) ∧ gs.map Gate.name = ss.take i ∧ ∀ g ∈ gs, g.Ok, ⟨none, none, none, b1, [], [], rfl, rfl, hb1, .nil, rfl, fun _ h => nomatch h⟩, ?_, ?_⟩
    · rintro i d v σ Ga G' M hd e3 ⟨y3, y4, y5, b2, vs, gs, rfl, rfl, hb2, dvs, hnm, hok⟩ e4 dv
      rw [List.getElem?_map] at hd
      cases hi : ss[i]? with
      | none => rw [hi] at hd; cases hd
      | some s =>
        rw [hi] at hd
        cases hd
        obtain rfl := dv.str_eq
        have hil : i < ss.length := (List.getElem?_eq_some_iff.mp hi).1
        have hsm : s ∈ ss := List.mem_of_getElem? hi
        refine gx_name ?_
        refine q_asgW (sw_take 1 rfl ev_int rfl hb2 (by omega) (by decide) (by decide) fun r1 b3 r10 r11 hb3 => ?_)
        refine q_asgW (sw_op (sw_lst (K := K) (swa_cons (sw_take 1 rfl ev_int rfl hb3 (by omega) (by decide) (by decide) fun r2 b4 r20 r21 hb4 => swa_cons (sw_int (K := K) ev_int (swa_cons (sw_int (K := K) ev_int (swa_cons (sw_int (K := K) ev_int (swa_nil ⟨[.int r2, .int 0, .int 1, .int 23], .cons (.int _) (.cons (.int _) (.cons (.int _) (.cons (.int _) .nil))), Nat.le_of_ble_eq_true rfl, fun w G5 e5 dw => ?_⟩))))))))))
        have hb4' : BagOk (n + 401 + 4 * i + 1 + 1) b4 := hb4
        refine sw_op (sw_op (sw_op (sw_op (sw_take 1 rfl ev_int rfl hb4' (by omega) (by decide) (by decide) fun r3 b5 r30 r31 hb5 => sw_int (K := K) ev_int (rw_int (K := K) (rd_mul (wide_mul (a := 10) (b := 10) (by omega) (by decide) (by decide) (by decide) (by decide))) (.int _) (.int _) (sw_int (K := K) ev_int (rw_int (K := K) (rd_div (divW (by decide) (by decide))) (.int _) (.int _) (sw_int (K := K) ev_int (rw_int (K := K) (rd_mul (wide_mul (a := 10) (b := 10) (by omega) (by decide) (by decide) (by decide) (by decide))) (.int _) (.int _) (sw_int (K := K) ev_int (rw_int (K := K) (rd_div (divW (by decide) (by decide))) (.int _) (.int _) ?_)))))))))))
        have hj : r3 * 5 / 8 * 3 / 4 = ((r3 * 5 / 8 * 3 / 4).toNat : Int) := by omega
        have hj4 : (r3 * 5 / 8 * 3 / 4).toNat < 4 := by omega
        rw [hj]
        refine rw_rd (rd_ixLg (ds := [.int r2, .int 0, .int 1, .int 23]) hj4) dw (.int _) fun w2 G6 e6 dw2 => ?_
        have hwide : ∃ z : Int, w2 = .int z ∧ 0 ≤ z ∧ z ≤ 23 := by
          generalize hjj : (r3 * 5 / 8 * 3 / 4).toNat = jj at dw2 hj4
          match jj, hj4 with
          | 0, _ => exact ⟨r2, dw2.int_eq, r20, by omega⟩
          | 1, _ => exact ⟨0, dw2.int_eq, by decide, by decide⟩
          | 2, _ => exact ⟨1, dw2.int_eq, by decide, by decide⟩
          | 3, _ => exact ⟨23, dw2.int_eq, by decide, by decide⟩
        obtain ⟨z, rfl, z0, z1⟩ := hwide
        have hvl : vs.length = gs.length := by rw [dvs.len, List.length_map]
        have hgl : gs.length = i := by
          have := congrArg List.length hnm
          rw [List.length_map, List.length_take] at this
          omega
        refine sx_app (K := K) (xs := vs) (p := q) rfl ?_ ⟨vs, List.mem_cons_self⟩ (C := fun v G7 M7 => ∃ b6 bb, M7 = [(q, .lst vs), (p, .lst b6)] ∧ BagOk (n + 401 + 4 * i + 4) b6 ∧ Ex G6 G7 ∧ Da K G7 v (Gate.enc ⟨s, r1, (r1 + z) % 24, bb⟩)) (sw_tup (K := K) (swa_cons (sw_str (K := K) (ev_var rfl (.str _)) (swa_cons (sw_int (K := K) (ev_var rfl (.int _)) (swa_cons (sw_int (K := K) (ev_op (ev_op (ev_var rfl (.int _)) (ev_var rfl (.int _)) rd_add) ev_int (rd_mod (by decide))) (swa_cons (sw_op (sw_take 1 rfl ev_int rfl hb5 (by omega) (by decide) (by decide) fun r4 b6 r40 r41 hb6 => sw_int (K := K) ev_int (rw_bool rd_eqI (.int _) (.int _) (swa_nil ⟨[.str s, .int r1, .int ((r1 + z) % 24), .bool (decide (r4 = 1))], .cons (.str _) (.cons (.int _) (.cons (.int _) (.cons (.bl _) .nil))), Nat.le_of_ble_eq_true rfl, fun v G7 e7 dv7 => ⟨b6, _, rfl, hb6, e7, dv7⟩⟩))))))))))))
        rintro G7 M7 v ⟨b6, bb, rfl, hb6, e7, dv7⟩
        refine ⟨0, rfl, by omega, nx_turn (((e4.trans e5).trans e6).trans e7) ⟨_, _, _, b6, vs ++ [v], gs ++ [⟨s, r1, (r1 + z) % 24, bb⟩], rfl, rfl, hb6.mono (by omega), ?_, ?_, fun g hg => ?_⟩⟩
        · rw [List.map_append]
          exact (dvs.mono (((e4.trans e5).trans e6).trans e7)).app (.cons dv7 .nil)
        · rw [List.map_append, hnm, List.take_add_one, hi]; rfl
        · rcases List.mem_append.mp hg with hg | hg
          · exact hok g hg
          · rw [List.mem_singleton.mp hg]
            have q1 : 0 ≤ (r1 + z) % 24 := by omega
            have q2 : (r1 + z) % 24 ≤ 23 := by omega
            have q3 : r1 ≤ 23 := by omega
            exact ⟨(s4 s hsm).1, r10, q3, q1, q2⟩
    · rintro σ G' M e3 ⟨y3, y4, y5, b2, vs, gs, rfl, rfl, hb2, dvs, hnm, hok⟩
      rw [List.length_map] at hb2 hnm
      rw [List.take_length] at hnm
      have hgl : gs.length = ss.length := by rw [← hnm, List.length_map]
      refine sx_fresh (p := q) 0 rfl fun gq => sx_settle (p := q) 0 rfl nq ?_
      refine sx_retW hret (sw_ev (ev_cb (ea_cons (ev_var rfl (.lst upd_same (dvs.mono (Ex.new gq)))) ea_nil) ra_tupleL) fun v G5 e5 dv => ?_)
      exact ⟨_, b2, ⟨m, gs, rfl, rfl, by omega, by omega, hok, by rw [hnm]; exact s1, fun g hg => s4 _ (by rw [← hnm]; exact List.mem_map_of_mem hg)⟩, hb2.mono (by omega), List.mem_cons_self, dv⟩
def sp__law_far (K : PySem.W.Frag) : Sp := spB K 3 (fun ds => ds = []) fun _ d => ∃ h : Int, d = .int h ∧ 0 ≤ h ∧ h ≤ 1000000000000
abbrev ns__law_far : List Str := ["bag", "near"]
abbrev ps__law_far : List Str := ["bag"]
def t__law_far (K : PySem.W.Frag) : TS :=
  (tSeq (tAsg (tCall (sp__law_take K) [] E0 (tCons (tVar 0) (tCons (tC (.int 200)) tNil))) (gName 1)) (tRet (tOp (rIx K) (tLst (tCons (tVar 1) (tCons (tOp kSub (tOp kPow (tC (.int 10)) (tC (.int 12))) (tVar 1)) (tCons (tCall (sp__law_take K) [] E0 (tCons (tVar 0) (tCons (tOp (kAdd K) (tOp kPow (tC (.int 10)) (tC (.int 12))) (tC (.int 1))) tNil))) tNil)))) (tCall (sp__law_take K) [] E0 (tCons (tVar 0) (tCons (tC (.int 3)) tNil))))))
theorem len__law_far {K : PySem.W.Frag} : ∀ vs H Q E, sp__law_far K vs H Q E → vs.length = 1 := spB_len (n := 0) fun ds h => by rw [h]; rfl
theorem pow12 : (10 : Int) ^ (12 : Int).toNat = 1000000000000 := by decide
theorem pure__law_far {K : PySem.W.Frag} : ∀ vs H Q E, sp__law_far K vs H Q E → t__law_far K { nx := fun _ H' => Q .non H', rt := Q } (L2.start ns__law_far vs) H := bag_in fun p b n ws ds W G D hb hn da hp hret => by
  subst hp
  obtain rfl := da.nil_inv
  refine q_asgW (sw_take 0 rfl ev_int rfl hb (by omega) (by decide) (by decide) fun r b1 r0 r1 hb1 => ?_)
  refine sx_retW hret (sw_pick (m := 3) 0 rfl (by decide) (by decide) (swa_cons (sw_int (K := K) (ev_var rfl (.int _)) (swa_cons (sw_int (K := K) (ev_op (ev_op ev_int ev_int (rd_pow ⟨by decide, by decide, by decide⟩)) (ev_var rfl (.int _)) rd_sub) (swa_cons (sw_take 0 rfl (ev_op (ev_op ev_int ev_int (rd_pow ⟨by decide, by decide, by decide⟩)) ev_int rd_add) rfl hb1 (by omega) (by decide) (by decide) fun r2 b2 r20 r21 hb2 => swa_nil ⟨[.int r, .int ((10 : Int) ^ (12 : Int).toNat - r), .int r2], b2, _, .cons (.int _) (.cons (.int _) (.cons (.int _) .nil)), rfl, rfl, hb2, by omega, fun j d v G2 b3 hd e2 dv hb3 => ?_⟩)))))))
  rw [pow12] at r21
  refine ⟨_, b3, ?_, hb3, List.mem_cons_self, dv⟩
  match j, hd with
  | 0, hd => cases hd; exact ⟨_, rfl, r0, by omega⟩
  | 1, hd => cases hd; exact ⟨_, rfl, by rw [pow12]; omega, by rw [pow12]; omega⟩
  | 2, hd => cases hd; exact ⟨_, rfl, r20, by omega⟩
  | j + 3, hd => cases hd
/-! # _law_clocks, _law_is_open -/
def sp__law_clocks (K : PySem.W.Frag) : Sp := spR K fun ds d => ∃ g : Gate, ds = [g.enc] ∧ g.Ok ∧ d = .list ((clocks g).map .int)
abbrev ns__law_clocks : List Str := ["gate", "found", "turn", "clock"]
abbrev ps__law_clocks : List Str := ["gate"]
def t__law_clocks (K : PySem.W.Frag) : TS :=
  (tSeq (tAsg (tLst (tCons (tOp (rIx K) (tVar 0) (tC (.int 1))) tNil)) (gName 1)) (tSeq (tFor (iRng1 (tCons (tC (.int 23)) tNil)) (gName 2) (tSeq (tAsg (tOp kMod (tOp (kAdd K) (tOp (kAdd K) (tOp (rIx K) (tVar 0) (tC (.int 1))) (tVar 2)) (tC (.int 1))) (tC (.int 24))) (gName 3)) (tSeq (tIfS (tTest (tOp (kEq K) (tVar 3) (tOp (rIx K) (tVar 0) (tC (.int 2))))) (tRet (tVar 1)) tNext) (tDrop (tBM K "list" rAppend (tVar 1) (tCons (tVar 3) tNil)))))) (tRet (tVar 1))))
theorem len__law_clocks {K : PySem.W.Frag} : ∀ vs H Q E, sp__law_clocks K vs H Q E → vs.length = 1 := spR_len fun ds d ⟨g, h, _⟩ => by rw [h]; rfl
def upTo (g : Gate) (n : Nat) : List Int := (List.range n).map fun i : Nat => (g.opens + (i : Int)) % 24
theorem upTo_succ (g : Gate) (n : Nat) : upTo g (n + 1) = upTo g n ++ [(g.opens + (n : Int)) % 24] := by
  unfold upTo
  rw [List.range_succ, List.map_append]; rfl
theorem pure__law_clocks {K : PySem.W.Frag} : ∀ vs H Q E, sp__law_clocks K vs H Q E → t__law_clocks K { nx := fun _ H' => Q .non H', rt := Q } (L2.start ns__law_clocks vs) H := pure_in fun vs ds d W G D da hr hret hn => by
  obtain ⟨g, rfl, ok, rfl⟩ := hr
  obtain ⟨v0, rfl, h0⟩ := da.one_inv
  have o0 := ok.o0; have o1 := ok.o1; have s0 := ok.s0; have s1 := ok.s1
  refine q_lstO (K := K) (ea_cons (ev_op (ev_var rfl h0) ev_int (rd_ixT rfl)) ea_nil) (Nat.le_of_ble_eq_true rfl) fun q vs G1 nq e1 dvs => ?_
  have ev0 : vs = (upTo g 1).map V.int := by
    obtain ⟨x, rfl, hx⟩ := dvs.one_inv
    rw [hx.int_eq]
    show [V.int g.opens] = [V.int ((g.opens + 0) % 24)]
    rw [show (g.opens + 0) % 24 = g.opens by omega]
  subst ev0
  have h0' := h0.mono e1
  have fin : ∀ (n : Nat) (σ : L2.St) (G2 : Hp) (D2 : Ends), Ex G1 G2 → D2.rt = D.rt → σ[1]? = some (some (.ref q)) → n = (clocks g).length → Sx W (tRet (tVar 1)) D2 σ G2 [(q, .lst ((upTo g n).map V.int))] := by
    intro n σ G2 D2 e2 eD hσ hn2
    have ec : upTo g n = clocks g := by
      subst hn2
      unfold clocks upTo
      rw [List.length_map, List.length_range]
    have hret2 : Ret W D2 (fun v G' _ => Da K G' v (.list ((clocks g).map .int))) := fun v G' M' H' w' dv => by rw [eD]; exact hret v G' M' H' w' dv
    rw [ec]
    refine sx_fresh (p := q) 0 rfl fun gq => sx_settle (p := q) 0 rfl nq ?_
    exact sx_ret hret2 (ev_var hσ (.lst upd_same (DaL.ofInts _))) (fun v G' e dv => dv)
  have clen : (clocks g).length = if g.opens = g.shuts then 24 else ((g.shuts - g.opens) % 24).toNat := by unfold clocks; rw [List.length_map, List.length_range]
  refine q_for (it_rng1 (K := K) (n := 23) (ea_cons ev_int ea_nil) (by decide) (by decide))
    (fun i σ G2 M => ∃ y2 y3, σ = [some v0, some (.ref q), y2, y3] ∧ M = [(q, .lst ((upTo g (i + 1)).map V.int))] ∧ ∀ j : Nat, 1 ≤ j → j ≤ i → (g.opens + (j : Int)) % 24 ≠ g.shuts)
    (fun G2 e2 => ⟨none, none, rfl, rfl, fun j h1 h2 => absurd h2 (by omega)⟩) ?_ ?_
  · rintro i d v σ Ga G' M hd e2 ⟨y2, y3, rfl, rfl, hne⟩ e3 dv
    obtain ⟨hi, rfl⟩ := rngD_get hd
    have hi' : i < 23 := hi
    obtain rfl := dv.int_eq
    have h0'' := (h0'.mono e2).mono e3
    refine q_asgI (K := K) (ev_op (ev_op (ev_op (ev_op (ev_var rfl h0'') ev_int (rd_ixT rfl)) (ev_var rfl (.int _)) rd_add) ev_int rd_add) ev_int (rd_mod (by decide))) ?_
    have ecl : (g.opens + (0 + (i : Int)) + 1) % 24 = (g.opens + ((i + 1 : Nat) : Int)) % 24 := by congr 1; omega
    rw [ecl]
    refine q_when (b := decide ((g.opens + ((i + 1 : Nat) : Int)) % 24 = g.shuts)) (et_test (K := K) (ev_op (ev_var rfl (.int _)) (ev_op (ev_var rfl h0'') ev_int (rd_ixT rfl)) rd_eqI)) (fun hb => ?_) (fun hb => ?_)
    · have hs := of_decide_eq_true hb
      refine fin (i + 1) _ G' _ (e2.trans e3) rfl rfl ?_
      rw [clen, if_neg (by omega)]
      omega
    · have hs := of_decide_eq_false hb
      refine sx_appD (K := K) 0 rfl rfl (by rw [List.length_map]; unfold upTo; rw [List.length_map, List.length_range]; omega) (ev_var rfl (.int _)) fun u G4 e4 du => nx_turn (e3.trans e4) ⟨_, _, rfl, ?_, fun j h1 h2 => ?_⟩
      · rw [du.int_eq, upTo_succ g (i + 1), List.map_append]; rfl
      · by_cases ej : j = i + 1
        · rw [ej]; exact hs
        · exact hne j h1 (by omega)
  · rintro σ G' M e2 ⟨y2, y3, rfl, rfl, hne⟩
    have hne : ∀ j : Nat, 1 ≤ j → j ≤ 23 → (g.opens + (j : Int)) % 24 ≠ g.shuts := hne
    refine fin 24 _ G' _ e2 rfl rfl ?_
    rw [clen]
    by_cases e : g.opens = g.shuts
    · rw [if_pos e]
    · exact absurd (show (g.opens + ((((g.shuts - g.opens) % 24).toNat : Nat) : Int)) % 24 = g.shuts by omega) (hne _ (by omega) (by omega))
def sp__law_is_open (K : PySem.W.Frag) : Sp := spR K fun ds d => ∃ (g : Gate) (h : Int), ds = [g.enc, .int h] ∧ g.Ok ∧ d = .bool (openBy g h)
abbrev ns__law_is_open : List Str := ["gate", "hour"]
abbrev ps__law_is_open : List Str := ["gate", "hour"]
def t__law_is_open (K : PySem.W.Frag) : TS :=
  (tRet (tOp (kIn K) (tOp kMod (tVar 1) (tC (.int 24))) (tCall (sp__law_clocks K) [] E0 (tCons (tVar 0) tNil))))
theorem len__law_is_open {K : PySem.W.Frag} : ∀ vs H Q E, sp__law_is_open K vs H Q E → vs.length = 2 := spR_len fun ds d ⟨g, h, e, _⟩ => by rw [e]; rfl
theorem pure__law_is_open {K : PySem.W.Frag} : ∀ vs H Q E, sp__law_is_open K vs H Q E → t__law_is_open K { nx := fun _ H' => Q .non H', rt := Q } (L2.start ns__law_is_open vs) H := pure_in fun vs ds d W G D da hr hret hn => by
  obtain ⟨g, h, rfl, ok, rfl⟩ := hr
  obtain ⟨v0, v1, rfl, h0, h1⟩ := da.two_inv
  rw [← clocks_open ok h] at hret
  exact sx_ret hret (ev_op (ev_op (ev_var rfl h1) ev_int (rd_mod (by decide))) (ev_call (ea_cons (ev_var rfl h0) ea_nil) ⟨g, rfl, ok, rfl⟩) rd_inLI) (fun v G' e dv => dv)
/-! # _law_says, _law_only -/
def sp__law_says (K : PySem.W.Frag) : Sp := spR K fun ds d => ∃ a b : Bool, ds = [.bool a, .bool b] ∧ d = .bool (a == b)
abbrev ns__law_says : List Str := ["found", "due"]
abbrev ps__law_says : List Str := ["found", "due"]
def t__law_says (K : PySem.W.Frag) : TS :=
  (tRet (tAndV (tIsi K (tVar 0) "bool") (tOp (kEq K) (tVar 0) (tVar 1))))
theorem len__law_says {K : PySem.W.Frag} : ∀ vs H Q E, sp__law_says K vs H Q E → vs.length = 2 := spR_len fun ds d ⟨g, h, e, _⟩ => by rw [e]; rfl
theorem pure__law_says {K : PySem.W.Frag} : ∀ vs H Q E, sp__law_says K vs H Q E → t__law_says K { nx := fun _ H' => Q .non H', rt := Q } (L2.start ns__law_says vs) H := pure_in fun vs ds d W G D da hr hret hn => by
  obtain ⟨a, b, rfl, rfl⟩ := hr
  obtain ⟨v0, v1, rfl, h0, h1⟩ := da.two_inv
  exact sx_ret hret (ev_and (x := true) (ev_isiB (ev_var rfl h0)) fun _ => ev_op (ev_var rfl h0) (ev_var rfl h1) rd_eqB) (fun v G' e dv => dv)
def onlyB (w : Int) : List Bool := (List.range 22).map fun k : Nat => decide ((k : Int) = w) || decide ((k : Int) = 21)
def sp__law_only (K : PySem.W.Frag) : Sp := spR K fun ds d => ∃ w : Int, ds = [.int w] ∧ d = .list ((onlyB w).map .bool)
abbrev ns__law_only : List Str := ["which", "k"]
abbrev ps__law_only : List Str := ["which"]
def t__law_only (K : PySem.W.Frag) : TS :=
  (tRet (tLc (iRng1 (tCons (tC (.int 22)) tNil)) (gName 1) tYes (tOrV (tOp (kEq K) (tVar 1) (tVar 0)) (tOp (kEq K) (tVar 1) (tC (.int 21)))) [1]))
theorem len__law_only {K : PySem.W.Frag} : ∀ vs H Q E, sp__law_only K vs H Q E → vs.length = 1 := spR_len fun ds d ⟨g, e, _⟩ => by rw [e]; rfl
theorem pure__law_only {K : PySem.W.Frag} : ∀ vs H Q E, sp__law_only K vs H Q E → t__law_only K { nx := fun _ H' => Q .non H', rt := Q } (L2.start ns__law_only vs) H := pure_in fun vs ds d W G D da hr hret hn => by
  obtain ⟨w, rfl, rfl⟩ := hr
  obtain ⟨v0, rfl, h0⟩ := da.one_inv
  have e : (onlyB w).map PyData.bool = (List.range 22).map fun k : Nat => PyData.bool (decide ((k : Int) = w) || decide ((k : Int) = 21)) := by unfold onlyB; rw [List.map_map]; rfl
  rw [e] at hret
  refine sx_ret hret (ev_lcN (List.range 22) (fun k : Nat => PyData.int (0 + (k : Int))) _ (it_rng1 (K := K) (n := 22) (ea_cons ev_int ea_nil) (by decide) (by decide)) (by decide) (fun _ => rfl) fun k hk v G' e dv => ?_) (fun v G' e dv => dv)
  rw [Int.zero_add] at dv
  exact ev_or (ev_op (ev_var rfl dv) (ev_var rfl (h0.mono e)) rd_eqI) fun _ => ev_op (ev_var rfl dv) ev_int rd_eqI
/-! # _law_first, _law_many -/
def sp__law_first (K : PySem.W.Frag) : Sp := spR K fun ds d => ∃ (g : Gate) (h : Int) (w : Bool), ds = [g.enc, .int h, .bool w] ∧ g.Ok ∧ 0 ≤ h ∧ h ≤ 1000000000000 ∧ d = firstOf g h w
abbrev ns__law_first : List Str := ["gate", "hour", "wished", "some", "later"]
abbrev ps__law_first : List Str := ["gate", "hour", "wished"]
def t__law_first (K : PySem.W.Frag) : TS :=
  (tSeq (tAsg (tLc (iRng2 (tCons (tVar 1) (tCons (tOp (kAdd K) (tVar 1) (tC (.int 24))) tNil))) (gName 4) (tTest (tOp (kEq K) (tCall (sp__law_is_open K) [] E0 (tCons (tVar 0) (tCons (tVar 4) tNil))) (tVar 2))) (tVar 4) [4]) (gName 3)) (tRet (tOp (rIx K) (tOp (kAdd K) (tVar 3) (tLst (tCons (tC .non) tNil))) (tC (.int 0)))))
theorem len__law_first {K : PySem.W.Frag} : ∀ vs H Q E, sp__law_first K vs H Q E → vs.length = 3 := spR_len fun ds d ⟨x, n, w, h, _⟩ => by rw [h]; rfl
theorem pure__law_first {K : PySem.W.Frag} : ∀ vs H Q E, sp__law_first K vs H Q E → t__law_first K { nx := fun _ H' => Q .non H', rt := Q } (L2.start ns__law_first vs) H := pure_in fun vs ds d W G D da hr hret hn => by
  obtain ⟨g, h, w, rfl, ok, k0, k1, rfl⟩ := hr
  obtain ⟨v0, v1, v2, rfl, h0, h1, h2⟩ := da.three_inv
  have e24 : ((h + 24) - h).toNat = 24 := by omega
  refine q_asg (K := K) (d := .list (((List.range 24).filter fun i : Nat => openBy g (h + (i : Int)) == w).map fun i : Nat => PyData.int (h + (i : Int)))) (ev_lcF (List.range 24) (fun i : Nat => PyData.int (h + (i : Int))) _ _ ?_ (by decide) (fun _ => rfl) (fun i hi v G' e dv => ?_) (fun i hi v G' e dv _ => ev_var rfl dv)) fun v G' e dv => ?_
  · have q : IterD K (iRng2 (tCons (tVar 1) (tCons (tOp (kAdd K) (tVar 1) (tC (.int 24))) tNil))) (L2.start ns__law_first [v0, v1, v2]) G (rngD h (h + 24 - h).toNat) := it_rng2 (ea_cons (ev_var rfl h1) (ea_cons (ev_op (ev_var rfl h1) ev_int rd_add) ea_nil)) (by omega) (by omega) (by omega) (by omega)
    rw [e24] at q
    exact q
  · exact et_test (K := K) (ev_op (ev_call (ea_cons (ev_var rfl (h0.mono e)) (ea_cons (ev_var rfl dv) ea_nil)) ⟨g, _, rfl, ok, rfl⟩) (ev_var rfl (h2.mono e)) rd_eqB)
  · refine sx_ret hret (ev_op (ev_op (ev_var rfl dv) (ev_lst (ea_cons ev_non ea_nil) (by decide)) (rd_addL ?_)) ev_int (rd_ixL ?_)) (fun v G' e dv => dv)
    · rw [List.length_map]
      have := List.length_filter_le (fun i : Nat => openBy g (h + (i : Int)) == w) (List.range 24)
      rw [List.length_range] at this
      show _ + 1 ≤ _
      omega
    · refine atI_nat (j := 0) ?_
      unfold firstOf
      generalize (List.range 24) = l
      induction l with
      | nil => rfl
      | cons a r ih =>
        rw [List.filter_cons, List.find?_cons]
        cases hc : openBy g (h + (a : Int)) == w with
        | true => rfl
        | false => exact ih
def sp__law_many (K : PySem.W.Frag) : Sp := spR K fun ds d => ∃ (g : Gate) (l h : Int), ds = [g.enc, .int l, .int h] ∧ g.Ok ∧ 0 ≤ l ∧ l ≤ 1000000000000 ∧ 0 ≤ h ∧ h ≤ 1000000000000 ∧ d = .int (openHours g l h)
abbrev ns__law_many : List Str := ["gate", "low", "high", "days", "rest", "hour"]
abbrev ps__law_many : List Str := ["gate", "low", "high"]
def t__law_many (K : PySem.W.Frag) : TS :=
  (tSeq (tAsg (tOp kDiv (tCB kMax2 (tCons (tC (.int 0)) (tCons (tOp kSub (tVar 2) (tVar 1)) tNil))) (tC (.int 24))) (gName 3)) (tSeq (tAsg (tLc (iRng2 (tCons (tOp (kAdd K) (tVar 1) (tOp kMul (tC (.int 24)) (tVar 3))) (tCons (tVar 2) tNil))) (gName 5) (tB (tCall (sp__law_is_open K) [] E0 (tCons (tVar 0) (tCons (tVar 5) tNil)))) (tVar 5) [5]) (gName 4)) (tRet (tOp (kAdd K) (tOp kMul (tVar 3) (tCB (kLen K) (tCons (tCall (sp__law_clocks K) [] E0 (tCons (tVar 0) tNil)) tNil))) (tCB (kLen K) (tCons (tVar 4) tNil))))))
theorem len__law_many {K : PySem.W.Frag} : ∀ vs H Q E, sp__law_many K vs H Q E → vs.length = 3 := spR_len fun ds d ⟨x, n, w, h, _⟩ => by rw [h]; rfl
theorem many_eq {g : Gate} (ok : g.Ok) {l h : Int} (l0 : 0 ≤ l) : openHours g l h = max 0 (h - l) / 24 * ((clocks g).length : Int) + (cntOpen g (l + 24 * (max 0 (h - l) / 24)) (h - (l + 24 * (max 0 (h - l) / 24))).toNat : Int) := by
  rw [← cnt_clocks ok]
  unfold openHours
  by_cases e : h ≤ l
  · rw [if_pos e, show max 0 (h - l) = 0 by omega]
    have e2 : (0 : Int) / 24 = 0 := rfl
    rw [e2, show (h - (l + 24 * 0)).toNat = 0 by omega, cnt_zero]
    omega
  · rw [if_neg e, show max 0 (h - l) = h - l by omega]
    have hq : 0 ≤ (h - l) / 24 := Int.ediv_nonneg (by omega) (by decide)
    obtain ⟨_, k2⟩ := cnt_days g l0 ((h - l) / 24).toNat
    have e1 : l + 24 * ((h - l) / 24) = l + ((((h - l) / 24).toNat * 24 : Nat) : Int) := by omega
    rw [e1, k2, show (h - (l + ((((h - l) / 24).toNat * 24 : Nat) : Int))).toNat = ((h - l) % 24).toNat by omega]
theorem pure__law_many {K : PySem.W.Frag} : ∀ vs H Q E, sp__law_many K vs H Q E → t__law_many K { nx := fun _ H' => Q .non H', rt := Q } (L2.start ns__law_many vs) H := pure_in fun vs ds d W G D da hr hret hn => by
  obtain ⟨g, l, h, rfl, ok, l0, l1, k0, k1, rfl⟩ := hr
  obtain ⟨v0, v1, v2, rfl, h0, h1, h2⟩ := da.three_inv
  rw [many_eq ok l0] at hret
  have q0 : 0 ≤ max 0 (h - l) / 24 := by omega
  have q1 : max 0 (h - l) / 24 ≤ 1000000000000 := by omega
  have q2 : l + 24 * (max 0 (h - l) / 24) ≤ 2000000000000 := by omega
  have q3 : h - (l + 24 * (max 0 (h - l) / 24)) ≤ 24 := by omega
  refine q_asgI (K := K) (ev_op (ev_cb (ea_cons ev_int (ea_cons (ev_op (ev_var rfl h2) (ev_var rfl h1) rd_sub) ea_nil)) ra_max2) ev_int (rd_div (divW (by decide) (by decide)))) ?_
  generalize hdd : max 0 (h - l) / 24 = dd at hret q0 q1 q2 q3
  refine q_asg (K := K) (d := .list (((List.range (h - (l + 24 * dd)).toNat).filter fun i : Nat => openBy g (l + 24 * dd + (i : Int))).map fun i : Nat => PyData.int (l + 24 * dd + (i : Int)))) (ev_lcF (List.range (h - (l + 24 * dd)).toNat) (fun i : Nat => PyData.int (l + 24 * dd + (i : Int))) _ _ (it_rng2 (K := K) (m := l + 24 * dd) (n := h) (ea_cons (ev_op (ev_var rfl h1) (ev_op ev_int (ev_var rfl (.int _)) (rd_mul (wide_mul (a := 10) (b := 50) (by decide) (by omega) (by decide) (by decide) (by decide)))) rd_add) (ea_cons (ev_var rfl h2) ea_nil)) (by omega) (by omega) (by omega) (by omega)) (by rw [List.length_range]; omega) (fun _ => rfl) (fun i hi v G' e dv => ?_) (fun i hi v G' e dv _ => ev_var rfl dv)) fun v G' e dv => ?_
  · exact et_B (K := K) (ev_call (ea_cons (ev_var rfl (h0.mono e)) (ea_cons (ev_var rfl dv) ea_nil)) ⟨g, _, rfl, ok, rfl⟩)
  · have hc : (clocks g).length ≤ 24 := by
      rw [← cnt_clocks ok]; exact cnt_le g 0 24
    refine sx_ret hret (ev_op (ev_op (ev_var rfl (.int _)) (ev_is (ev_cb (ea_cons (ev_call (ea_cons (ev_var rfl (h0.mono e)) ea_nil) ⟨g, rfl, ok, rfl⟩) ea_nil) ra_lenL) (by rw [List.length_map])) (rd_mul (wide_mul (a := 50) (b := 10) (by omega) (by omega) (by decide) (by decide) (by decide)))) (ev_is (ev_cb (ea_cons (ev_var rfl dv) ea_nil) ra_lenL) (by rw [List.length_map]; rfl)) rd_add) (fun v G' e dv => dv)
/-! # _law_kinds -/
def kindsB (Z : Er) (D : Addr) : List Bool := (Z.kinds.map fun C => decide (D = C)) ++ [true]
def sp__law_kinds (K : PySem.W.Frag) (Z : Er) (a : Addr) (cls : Value) (d : Option Addr) : Sp := fun vs H Q _ => ∃ D, cls = .ref D ∧ d = none ∧ ExcC K D ∧ vs = [.ref a] ∧ (∀ C ∈ Z.kinds, PySem.W.kitOne K (.ref D) (.ref C) = some (decide (D = C))) ∧ PySem.W.kitOne K (.ref D) (.type "ValueError") = some true ∧
  ∃ G, Ex G H ∧ ∀ v G' H', Grow [] G H G' H' → Da K G' v (.list ((kindsB Z D).map .bool)) → Q v H'
abbrev ns__law_kinds : List Str := ["e", "kinds"]
abbrev ps__law_kinds : List Str := ["e"]
def t__law_kinds (K : PySem.W.Frag) (Z : Er) (D a : Addr) : TS :=
  (tSeq (tAsg (tLst (tCons (tCB (rIsE K D a) (tCons (tVar 0) (tCons (tC (.ref Z.NoTown)) tNil))) (tCons (tCB (rIsE K D a) (tCons (tVar 0) (tCons (tC (.ref Z.NoGate)) tNil))) (tCons (tCB (rIsE K D a) (tCons (tVar 0) (tCons (tC (.ref Z.NoHour)) tNil))) (tCons (tCB (rIsE K D a) (tCons (tVar 0) (tCons (tC (.ref Z.NoPass)) tNil))) tNil))))) (gName 1)) (tSeq (tAsg (tOp (kAdd K) (tVar 1) (tLst (tCons (tCB (rIsE K D a) (tCons (tVar 0) (tCons (tC (.ref Z.NoToll)) tNil))) (tCons (tCB (rIsE K D a) (tCons (tVar 0) (tCons (tC (.ref Z.NoWord)) tNil))) (tCons (tCB (rIsE K D a) (tCons (tVar 0) (tCons (tC (.ref Z.NoName)) tNil))) (tCons (tCB (rIsE K D a) (tCons (tVar 0) (tCons (tC (.ref Z.Within)) tNil))) tNil)))))) (gName 1)) (tSeq (tAsg (tOp (kAdd K) (tVar 1) (tLst (tCons (tCB (rIsE K D a) (tCons (tVar 0) (tCons (tC (.ref Z.Without)) tNil))) (tCons (tCB (rIsE K D a) (tCons (tVar 0) (tCons (tC (.ref Z.NoCart)) tNil))) (tCons (tCB (rIsE K D a) (tCons (tVar 0) (tCons (tC (.ref Z.Shut)) tNil))) (tCons (tCB (rIsE K D a) (tCons (tVar 0) (tCons (tC (.ref Z.NothingLeft)) tNil))) tNil)))))) (gName 1)) (tSeq (tAsg (tOp (kAdd K) (tVar 1) (tLst (tCons (tCB (rIsE K D a) (tCons (tVar 0) (tCons (tC (.ref Z.NoPages)) tNil))) (tCons (tCB (rIsE K D a) (tCons (tVar 0) (tCons (tC (.ref Z.NoPage)) tNil))) (tCons (tCB (rIsE K D a) (tCons (tVar 0) (tCons (tC (.ref Z.NoBook)) tNil))) (tCons (tCB (rIsE K D a) (tCons (tVar 0) (tCons (tC (.ref Z.NoInns)) tNil))) tNil)))))) (gName 1)) (tSeq (tAsg (tOp (kAdd K) (tVar 1) (tLst (tCons (tCB (rIsE K D a) (tCons (tVar 0) (tCons (tC (.ref Z.NoWay)) tNil))) (tCons (tCB (rIsE K D a) (tCons (tVar 0) (tCons (tC (.ref Z.NoWalks)) tNil))) (tCons (tCB (rIsE K D a) (tCons (tVar 0) (tCons (tC (.ref Z.NoRounds)) tNil))) (tCons (tCB (rIsE K D a) (tCons (tVar 0) (tCons (tC (.ref Z.NoText)) tNil))) tNil)))))) (gName 1)) (tRet (tOp (kAdd K) (tVar 1) (tLst (tCons (tCB (rIsE K D a) (tCons (tVar 0) (tCons (tC (.ref Z.NoRow)) tNil))) (tCons (tCB (rIsE K D a) (tCons (tVar 0) (tCons (tC (.ty "ValueError")) tNil))) tNil))))))))))
theorem len__law_kinds {K : PySem.W.Frag} {Z : Er} : ∀ a cls d vs H Q E, sp__law_kinds K Z a cls d vs H Q E → vs.length = 1 := fun _ _ _ vs _ _ _ ⟨_, _, _, _, h, _⟩ => by rw [h]; rfl
section
variable {K : PySem.W.Frag} {σ : L2.St} {G : Hp} {D a C : Addr} {b : Bool}
theorem ev_isE (h : σ[0]? = some (some (.ref a))) (hk : PySem.W.kitOne K (.ref D) (.ref C) = some b) : EvD K (tCB (rIsE K D a) (tCons (tVar 0) (tCons (tC (.ref C)) tNil))) σ G (.bool b) := fun G1 H e e2 Q q =>
  ⟨.ref a, h, .ref C, .ref C, b, rfl, (fun u r => r), hk, ok1 e2 q (.bl b)⟩
theorem ev_isV (h : σ[0]? = some (some (.ref a))) (hk : PySem.W.kitOne K (.ref D) (.type "ValueError") = some b) : EvD K (tCB (rIsE K D a) (tCons (tVar 0) (tCons (tC (.ty "ValueError")) tNil))) σ G (.bool b) := fun G1 H e e2 Q q =>
  ⟨.ref a, h, .ty "ValueError", .type "ValueError", b, rfl, (fun u r => r), hk, ok1 e2 q (.bl b)⟩
end
theorem pure__law_kinds {K : PySem.W.Frag} {Z : Er} (D a : Addr) : ∀ (vs : List V) (H : Hp) (Q : VK) (E : XK), (vs = [.ref a] ∧ (∀ C ∈ Z.kinds, PySem.W.kitOne K (.ref D) (.ref C) = some (decide (D = C))) ∧ PySem.W.kitOne K (.ref D) (.type "ValueError") = some true ∧ ∃ G, Ex G H ∧ ∀ v G' H', Grow [] G H G' H' → Da K G' v (.list ((kindsB Z D).map .bool)) → Q v H') →
    t__law_kinds K Z D a { nx := fun _ H' => Q .non H', rt := Q } (L2.start ns__law_kinds vs) H := fun vs H Q E ⟨ev, hk, hv, G, eG, q⟩ => by
  subst ev
  have hret : Ret ⟨G, H, []⟩ { nx := fun _ H' => Q .non H', rt := Q } (fun v G' _ => Da K G' v (.list ((kindsB Z D).map .bool))) := fun v G' M' H' w dv => q v G' H' w.gr dv
  have m : ∀ C, C ∈ Z.kinds → PySem.W.kitOne K (.ref D) (.ref C) = some (decide (D = C)) := hk
  have go : Sx ⟨G, H, []⟩ (t__law_kinds K Z D a) { nx := fun _ H' => Q .non H', rt := Q } (L2.start ns__law_kinds [.ref a]) G [] := by
    refine q_asg (ev_lst (ea_cons (ev_isE rfl (m _ (by simp [Er.kinds]))) (ea_cons (ev_isE rfl (m _ (by simp [Er.kinds]))) (ea_cons (ev_isE rfl (m _ (by simp [Er.kinds]))) (ea_cons (ev_isE rfl (m _ (by simp [Er.kinds]))) ea_nil)))) (Nat.le_of_ble_eq_true rfl)) fun v1 G1 e1 d1 => ?_
    refine q_asg (ev_op (ev_var rfl d1) (ev_lst (ea_cons (ev_isE rfl (m _ (by simp [Er.kinds]))) (ea_cons (ev_isE rfl (m _ (by simp [Er.kinds]))) (ea_cons (ev_isE rfl (m _ (by simp [Er.kinds]))) (ea_cons (ev_isE rfl (m _ (by simp [Er.kinds]))) ea_nil)))) (Nat.le_of_ble_eq_true rfl)) (rd_addL (Nat.le_of_ble_eq_true rfl))) fun v2 G2 e2 d2 => ?_
    refine q_asg (ev_op (ev_var rfl d2) (ev_lst (ea_cons (ev_isE rfl (m _ (by simp [Er.kinds]))) (ea_cons (ev_isE rfl (m _ (by simp [Er.kinds]))) (ea_cons (ev_isE rfl (m _ (by simp [Er.kinds]))) (ea_cons (ev_isE rfl (m _ (by simp [Er.kinds]))) ea_nil)))) (Nat.le_of_ble_eq_true rfl)) (rd_addL (Nat.le_of_ble_eq_true rfl))) fun v3 G3 e3 d3 => ?_
    refine q_asg (ev_op (ev_var rfl d3) (ev_lst (ea_cons (ev_isE rfl (m _ (by simp [Er.kinds]))) (ea_cons (ev_isE rfl (m _ (by simp [Er.kinds]))) (ea_cons (ev_isE rfl (m _ (by simp [Er.kinds]))) (ea_cons (ev_isE rfl (m _ (by simp [Er.kinds]))) ea_nil)))) (Nat.le_of_ble_eq_true rfl)) (rd_addL (Nat.le_of_ble_eq_true rfl))) fun v4 G4 e4 d4 => ?_
    refine q_asg (ev_op (ev_var rfl d4) (ev_lst (ea_cons (ev_isE rfl (m _ (by simp [Er.kinds]))) (ea_cons (ev_isE rfl (m _ (by simp [Er.kinds]))) (ea_cons (ev_isE rfl (m _ (by simp [Er.kinds]))) (ea_cons (ev_isE rfl (m _ (by simp [Er.kinds]))) ea_nil)))) (Nat.le_of_ble_eq_true rfl)) (rd_addL (Nat.le_of_ble_eq_true rfl))) fun v5 G5 e5 d5 => ?_
    exact sx_ret hret (ev_op (ev_var rfl d5) (ev_lst (ea_cons (ev_isE rfl (m _ (by simp [Er.kinds]))) (ea_cons (ev_isV rfl hv) ea_nil)) (Nat.le_of_ble_eq_true rfl)) (rd_addL (Nat.le_of_ble_eq_true rfl))) (fun v G' e dv => dv)
  exact go H (world0 eG)
theorem kinds_only {l : List Addr} {D : Addr} {w : Nat} (nd : l.Nodup) (h : l[w]? = some D) (hl : l.length = 21) : (l.map fun C => decide (D = C)) ++ [true] = onlyB (w : Int) := by
  have hw : w < 21 := by
    have := (List.getElem?_eq_some_iff.mp h).1
    omega
  apply List.ext_getElem?
  intro i
  unfold onlyB
  rw [List.getElem?_map]
  by_cases hi : i < 21
  · rw [List.getElem?_append_left (by rw [List.length_map]; omega), List.getElem?_map, List.getElem?_eq_getElem (by omega : i < l.length), List.getElem?_range (by omega)]
    show some (decide (D = l[i])) = some (decide ((i : Int) = (w : Int)) || decide ((i : Int) = 21))
    have e21 : decide ((i : Int) = 21) = false := decide_eq_false (by omega)
    rw [e21, Bool.or_false]
    congr 1
    rw [decide_eq_decide]
    constructor
    · intro e
      have : l[i]? = some D := by rw [List.getElem?_eq_getElem (by omega : i < l.length), e]
      have := nd_ix nd this h
      omega
    · intro e
      have e : i = w := by omega
      subst e
      have := (List.getElem?_eq_some_iff.mp h).2
      exact this.symm
  · by_cases hi2 : i = 21
    · subst hi2
      rw [List.getElem?_append_right (by rw [List.length_map]; omega), List.length_map, hl, List.getElem?_range (by decide)]
      show some true = some (decide (((21 : Nat) : Int) = (w : Int)) || true)
      rw [Bool.or_true]
    · rw [List.getElem?_eq_none (by rw [List.length_append, List.length_map]; show _ + 1 ≤ _; omega), List.getElem?_eq_none (by rw [List.length_range]; omega)]
      rfl
/-! # a try around a call that raises -/
section
variable {K : PySem.W.Frag} {W : Ent} {D D' : Ends} {σ : L2.St} {G : Hp} {M : Mem} {ta : TA} {ds : List PyData} {R : List PyData → Res → Prop} {c : Value} {i : Nat} {ts : Addr → Value → Option Addr → TS} {Wout : WX} {Cl : Addr}
/-- the ends of the suite: the error's name goes -/
abbrev Gone (D : Ends) (i : Nat) : Ends := { nx := fun σ' H' => D.nx (σ'.set i none) H', rt := D.rt, bk := fun σ' H' => D.bk (σ'.set i none) H', ct := fun σ' H' => D.ct (σ'.set i none) H' }
theorem sx_caught (h : EvA K ta σ G ds) (hr : R ds (.err Cl)) (hm : PySem.W.exmOne K (.ref Cl) c = some true) (hs : ∀ a, Sx W (ts a (.ref Cl) none) (Gone D i) (σ.set i (some (.ref a))) G M) : Sx W (tDrop (tCallS (spX K R) (WE (wAs K c i ts Wout D)) ta)) D' σ G M := fun H w =>
  h G H (Ex.refl G) w.gh _ fun vs G2 H2 g2 d2 => ⟨G2, ds, .err Cl, g2.gh, d2, hr, fun H' e => ⟨true, hm, fun _ a _ => hs a H' (w.ext (g2.hh.trans e)), fun z => nomatch z⟩⟩
end
/-! # _law_refused (of gates) -/
def sp__law_refused (K : PySem.W.Frag) : Sp := spR K fun ds d => ∃ (t : List Gate) (door : Int) (n : Str) (h : Int) (w : Nat), ds = [townEnc t, .int door, .str n, .int h] ∧ TownOk t ∧ d = .list ((onlyB (w : Int)).map .bool) ∧ ((findG t n = none ∧ w = 1) ∨ (∃ g, findG t n = some g ∧ hourOk h = false ∧ w = 2))
abbrev ns__law_refused : List Str := ["town", "door", "name", "hour", "kinds", "e"]
abbrev ps__law_refused : List Str := ["town", "door", "name", "hour"]
def t__law_refused (K : PySem.W.Frag) (Z : Er) : TS :=
  (tSeq (tAsg (tLst tNil) (gName 4)) (tSeq (tTryAs K (.ref Z.TownError) 5 (fun W => (tIfS (tTest (tOp (kEq K) (tVar 1) (tC (.int 0)))) (tDrop (tCallS (sp_is_open K Z) (WE W) (tCons (tVar 0) (tCons (tVar 2) (tCons (tVar 3) tNil))))) (tIfS (tTest (tOp (kEq K) (tVar 1) (tC (.int 1)))) (tDrop (tCallS (sp_first_open K Z) (WE W) (tCons (tVar 0) (tCons (tVar 2) (tCons (tVar 3) tNil))))) (tIfS (tTest (tOp (kEq K) (tVar 1) (tC (.int 2)))) (tDrop (tCallS (sp_first_shut K Z) (WE W) (tCons (tVar 0) (tCons (tVar 2) (tCons (tVar 3) tNil))))) (tDrop (tCallS (sp_open_hours K Z) (WE W) (tCons (tVar 0) (tCons (tVar 2) (tCons (tVar 3) (tCons (tC (.int 5)) tNil)))))))))) (fun a cls d => (tAsg (tCallS (sp__law_kinds K Z a cls d) (fun _ => E0) (tCons (tVar 5) tNil)) (gName 4))) (fun _ _ _ _ => False)) (tRet (tVar 4))))
theorem len__law_refused {K : PySem.W.Frag} : ∀ vs H Q E, sp__law_refused K vs H Q E → vs.length = 4 := spR_len fun ds d ⟨t, dr, n, h, w, e, _⟩ => by rw [e]; rfl
theorem pure__law_refused {K : PySem.W.Frag} {Z : Er} (ef : EF K Z [Z.NoTown, Z.NoGate, Z.NoHour]) : ∀ vs H Q E, sp__law_refused K vs H Q E → t__law_refused K Z { nx := fun _ H' => Q .non H', rt := Q } (L2.start ns__law_refused vs) H := pure_in fun vs ds d W G D da hr hret hn => by
  obtain ⟨t, door, n, h, w, rfl, tk, rfl, hw⟩ := hr
  obtain ⟨v0, _, rfl, h0, da⟩ := da.cons_inv
  obtain ⟨v1, v2, v3, rfl, h1, h2, h3⟩ := da.three_inv
  have ht : townD (townEnc t) = true := townD_enc tk
  have hsm := sm_town tk
  -- the class that is raised
  have hcl : ∃ Cl, Z.kinds[w]? = some Cl ∧ Cl ∈ [Z.NoTown, Z.NoGate, Z.NoHour] ∧ (∀ r : Gate → Res, (∀ g, hourOk h = false → r g = .err Z.NoHour) → thenR (askG Z (townEnc t) n) r = .err Cl) := by
    rcases hw with ⟨hf, rfl⟩ | ⟨g, hf, hh, rfl⟩
    · refine ⟨Z.NoGate, rfl, by simp, fun r _ => ?_⟩
      unfold askG
      rw [if_pos ht, townOf_enc, hf]; rfl
    · refine ⟨Z.NoHour, rfl, by simp, fun r hr => ?_⟩
      unfold askG
      rw [if_pos ht, townOf_enc, hf]
      exact hr g hh
  obtain ⟨Cl, hk1, hk2, hthen⟩ := hcl
  have er := ef.err Cl hk2
  have hbools : kindsB Z Cl = onlyB (w : Int) := kinds_only ef.nd hk1 rfl
  have hm := exm_town er ef.tb ef.td ef.tt
  refine q_asg (K := K) (ev_lst ea_nil (by decide)) fun vk G1 e1 dk => ?_
  have h0' := h0.mono e1
  have h1' := h1.mono e1
  have h2' := h2.mono e1
  have h3' := h3.mono e1
  -- the suite, then return kinds
  have suite : ∀ a, Sx W (tAsg (tCallS (sp__law_kinds K Z a (.ref Cl) none) (fun _ => E0) (tCons (tVar 5) tNil)) (gName 4)) (Gone { D with nx := tRet (tVar 4) D } 5) ([some v0, some v1, some v2, some v3, some vk, none].set 5 (some (.ref a))) G1 [] := by
    intro a H w1
    refine ⟨.ref a, rfl, Cl, rfl, rfl, er.ex, rfl, fun C hC => kit_err er (ef.ask C hC), kit_VE er, G1, w1.gh, fun v G2 H2 g2 dv => ?_⟩
    rw [hbools] at dv
    exact (sx_ret hret (ev_var rfl dv) (fun v G' e dv => dv) : Sx W (tRet (tVar 4)) D [some v0, some v1, some v2, some v3, some v, none] G2 []) H2 (w1.grow g2)
  have hnoh : ∀ (r : Res), hourOk h = false → hourR Z h r = .err Z.NoHour := fun r z => if_neg (by rw [z]; decide)
  refine sx_seq ?_
  show Sx W (tIfS _ _ _) _ _ _ _
  refine sx_if (b := decide (door = 0)) (et_test (K := K) (ev_op (ev_var rfl h1') ev_int rd_eqI)) (fun _ => ?_) (fun _ => ?_)
  · exact sx_caught (ea_cons (ev_var rfl h0') (ea_cons (ev_var rfl h2') (ea_cons (ev_var rfl h3') ea_nil))) ⟨_, n, h, rfl, hsm, (hthen _ fun g z => hnoh _ z).symm⟩ hm suite
  · refine sx_if (b := decide (door = 1)) (et_test (K := K) (ev_op (ev_var rfl h1') ev_int rd_eqI)) (fun _ => ?_) (fun _ => ?_)
    · exact sx_caught (ea_cons (ev_var rfl h0') (ea_cons (ev_var rfl h2') (ea_cons (ev_var rfl h3') ea_nil))) ⟨_, n, h, rfl, hsm, (hthen _ fun g z => hnoh _ z).symm⟩ hm suite
    · refine sx_if (b := decide (door = 2)) (et_test (K := K) (ev_op (ev_var rfl h1') ev_int rd_eqI)) (fun _ => ?_) (fun _ => ?_)
      · exact sx_caught (ea_cons (ev_var rfl h0') (ea_cons (ev_var rfl h2') (ea_cons (ev_var rfl h3') ea_nil))) ⟨_, n, h, rfl, hsm, (hthen _ fun g z => hnoh _ z).symm⟩ hm suite
      · exact sx_caught (ea_cons (ev_var rfl h0') (ea_cons (ev_var rfl h2') (ea_cons (ev_var rfl h3') (ea_cons ev_int ea_nil)))) ⟨_, n, h, 5, rfl, hsm, (hthen _ fun g z => hnoh _ z).symm⟩ hm suite
/-! # _law_thing -/
theorem lay_name {x : Str} (h : nameS x = true) : x.length ≤ 8 ∧ PyData.canLay0 (.str x) = true := by
  unfold nameS at h
  rw [Bool.and_eq_true, Bool.and_eq_true, decide_eq_true_eq, decide_eq_true_eq] at h
  refine ⟨by omega, ?_⟩
  have k : ∀ c ∈ lettersS.cps.toList, c < 0x110000 := fun c hc => of_decide_eq_true ((List.all_eq_true (p := fun c => decide (c < 0x110000)) (l := lettersS.cps.toList)).mp (by decide +kernel) c hc)
  show x.cps.all (fun c => decide (c < 0x110000)) = true
  rw [← Array.all_toList]
  exact List.all_eq_true.mpr fun c hc => decide_eq_true (k c (of_decide_eq_true (List.all_eq_true.mp h.2 c hc)))
def costT : Nat → Nat
  | 0 => 2
  | n + 1 => 2 + 5 * costT n
def spn__law_thing (K : PySem.W.Frag) (n : Nat) : Sp := spB K (costT n) (fun ds => ds = [.int (n : Int)]) fun _ d => Fit 9 (n + 1) d
def sp__law_thing (K : PySem.W.Frag) : Sp := fun vs H Q E => ∃ n, n ≤ 3 ∧ spn__law_thing K n vs H Q E
abbrev ns__law_thing : List Str := ["bag", "deep", "way", "some", "parts", "k"]
abbrev ps__law_thing : List Str := ["bag", "deep"]
def t__law_thing (K : PySem.W.Frag) (spr : Sp) : TS :=
  (tSeq (tAsg (tCall (sp__law_take K) [] E0 (tCons (tVar 0) (tCons (tC (.int 9)) tNil))) (gName 2)) (tSeq (tIfS (tOr (tTest (tOp (kLt K) (tVar 2) (tC (.int 6)))) (tTest (tOp (kEq K) (tVar 1) (tC (.int 0))))) (tSeq (tAsg (tLst (tCons (tC (.int 0)) (tCons (tUn (rU fun i => .int (-i)) (tC (.int 1))) (tCons (tC (.int 1)) (tCons (tC (.bl true)) (tCons (tC (.bl false)) (tCons (tC .non) (tCons (tC (.str "")) (tCons (tC (.str "ann")) (tCons (tC (.str "Ann")) (tCons (tC (.str "a b")) (tCons (tC (.str "ninelette")) (tCons (tC (.int 23)) (tCons (tC (.int 24)) (tCons (tOp kPow (tC (.int 10)) (tC (.int 12))) (tCons (tOp kPow (tC (.int 10)) (tC (.int 13))) tNil)))))))))))))))) (gName 3)) (tRet (tOp (rIx K) (tOp (kAdd K) (tVar 3) (tLst (tCons (tTup tNil) (tCons (tLst tNil) (tCons (tC (.str "in")) tNil))))) (tCall (sp__law_take K) [] E0 (tCons (tVar 0) (tCons (tC (.int 18)) tNil)))))) tNext) (tSeq (tAsg (tLc (iRng1 (tCons (tCall (sp__law_take K) [] E0 (tCons (tVar 0) (tCons (tC (.int 6)) tNil))) tNil)) (gName 5) tYes (tCall spr [] E0 (tCons (tVar 0) (tCons (tOp kSub (tVar 1) (tC (.int 1))) tNil))) [5]) (gName 4)) (tRet (tOp (rIx K) (tLst (tCons (tVar 4) (tCons (tCB (kTuple K) (tCons (tVar 4) tNil)) (tCons (tCB (kTuple K) (tCons (tVar 4) tNil)) tNil)))) (tOp kSub (tVar 2) (tC (.int 6))))))))
theorem len__law_thing {K : PySem.W.Frag} (n : Nat) : ∀ vs H Q E, spn__law_thing K n vs H Q E → vs.length = 2 := spB_len (n := 1) fun ds h => by rw [h]; rfl
def things15 : List PyData := [.int 0, .int (-1), .int 1, .bool true, .bool false, .none, .str "", .str "ann", .str "Ann", .str "a b", .str "ninelette", .int 23, .int 24, .int ((10 : Int) ^ (12 : Int).toNat), .int ((10 : Int) ^ (13 : Int).toNat)]
def things18 : List PyData := things15 ++ [.tuple [], .list [], .str "in"]
theorem fit18 : ∀ d ∈ things18, Fit 9 1 d := fun d hd => by
  unfold things18 things15 at hd
  simp only [List.cons_append, List.nil_append, List.mem_cons, List.not_mem_nil, or_false] at hd
  rcases hd with rfl | rfl | rfl | rfl | rfl | rfl | rfl | rfl | rfl | rfl | rfl | rfl | rfl | rfl | rfl | rfl | rfl | rfl <;>
    first | exact fit_int | exact fit_bool | exact fit_none | exact fit_str (by decide +kernel) (by decide +kernel) | exact fit_tup (Nat.zero_le _) (fun _ h => nomatch h) | exact fit_list (Nat.zero_le _) (fun _ h => nomatch h)
theorem getD_mem {α : Type} {xs : List α} {j : Nat} (h : j < xs.length) (d : α) : xs.getD j d ∈ xs := by
  rw [List.getD_eq_getElem?_getD, List.getElem?_eq_getElem h]
  exact List.getElem_mem h
theorem pure__law_thing {K : PySem.W.Frag} : ∀ (n : Nat) (spr : Sp), (∀ m, n = m + 1 → spr = spn__law_thing K m) → ∀ vs H Q E, spn__law_thing K n vs H Q E → t__law_thing K spr { nx := fun _ H' => Q .non H', rt := Q } (L2.start ns__law_thing vs) H := fun n spr hspr => bag_in fun p b n0 ws ds W G D hb hn da hp hret => by
  subst hp
  obtain ⟨v1, rfl, h1⟩ := da.one_inv
  obtain rfl := h1.int_eq
  have hc2 : 2 ≤ costT n := by
    cases n with
    | zero => exact Nat.le_refl _
    | succ m => exact Nat.le_add_right _ _
  refine q_asgW (sw_take 0 rfl ev_int rfl hb (by omega) (by decide) (by decide) fun r b1 r0 r1 hb1 => ?_)
  refine q_when (b := decide (r < 6) || decide ((n : Int) = 0)) (et_or (et_test (K := K) (by walk_at "ev")) fun _ => et_test (K := K) (by walk_at "ev")) (fun hc => ?_) (fun hc => ?_)
  · refine q_asg (K := K) (d := .list things15) (ev_lst (ea_cons ev_int (ea_cons (ev_un ev_int r1_neg) (ea_cons ev_int (ea_cons ev_bl (ea_cons ev_bl (ea_cons ev_non (ea_cons ev_str (ea_cons ev_str (ea_cons ev_str (ea_cons ev_str (ea_cons ev_str (ea_cons ev_int (ea_cons ev_int (ea_cons (ev_op ev_int ev_int (rd_pow ⟨by decide, by decide, by decide⟩)) (ea_cons (ev_op ev_int ev_int (rd_pow ⟨by decide, by decide, by decide⟩)) ea_nil))))))))))))))) (Nat.le_of_ble_eq_true rfl)) fun v G1 e1 dv => ?_
    refine sx_retW hret (sw_op (sw_ev (K := K) (d := .list things18) (ev_op (ev_var rfl dv) (ev_lst (ea_cons (ev_tup ea_nil (Nat.zero_le _)) (ea_cons (ev_lst ea_nil (Nat.zero_le _)) (ea_cons ev_str ea_nil))) (Nat.le_of_ble_eq_true rfl)) (rd_addL (Nat.le_of_ble_eq_true rfl))) fun v2 G2 e2 dv2 => sw_take 0 rfl ev_int rfl hb1 (by omega) (by decide) (by decide) fun r2 b2 s0 s1 hb2 => ?_))
    obtain ⟨j, rfl⟩ := Int.eq_ofNat_of_zero_le s0
    have hj : j < things18.length := by show j < 18; omega
    refine rw_rd (rd_ixLg hj) dv2 (.int _) fun v3 G3 e3 dv3 => ?_
    exact ⟨_, b2, (fit18 _ (getD_mem hj _)).mono (Nat.le_refl _) (by omega), hb2.mono (by omega), List.mem_cons_self, dv3⟩
  · rw [Bool.or_eq_false_iff, decide_eq_false_iff_not, decide_eq_false_iff_not] at hc
    obtain ⟨hr6, hn0⟩ := hc
    obtain ⟨m, rfl⟩ : ∃ m, n = m + 1 := ⟨n - 1, by omega⟩
    obtain rfl := hspr m rfl
    have hcm : costT (m + 1) = 2 + 5 * costT m := rfl
    refine q_asgW (sw_lc (K := K) (fun ds _ M1 => ∃ (k : Nat) (b2 : List V), ds = rngD 0 k ∧ k < 6 ∧ M1 = [(p, .lst b2)] ∧ BagOk (n0 + 2) b2) (itw_rng1 (swa_cons (sw_take 0 rfl ev_int rfl hb1 (by omega) (by decide) (by decide) fun r2 b2 s0 s1 hb2 => swa_nil ?_))) fun ds G1 M1 hc => ?_)
    · obtain ⟨j, rfl⟩ := Int.eq_ofNat_of_zero_le s0
      exact ⟨_, rfl, by omega, by omega, j, b2, by rw [Int.toNat_natCast], by omega, rfl, hb2⟩
    obtain ⟨k, b2, rfl, hk, rfl, hb2⟩ := hc
    refine ⟨fun i acc G M => ∃ b3 es, M = [(p, .lst b3)] ∧ BagOk (n0 + 2 + i * costT m) b3 ∧ DaL K G acc es ∧ es.length = i ∧ ∀ d ∈ es, Fit 9 (m + 1) d, ⟨b2, [], rfl, hb2.mono (by omega), .nil, rfl, fun _ h => nomatch h⟩, ?_, ?_⟩
    · rintro i d v acc Ga G' M Dl hd e1 ⟨b3, es, rfl, hb3, dacc, hel, hes⟩ e2 dv nD
      obtain ⟨hi, rfl⟩ := rngD_get hd
      refine gx_name ⟨rfl, swt_ev (b := true) (fun H e Q q => q H (Ex.refl H)) ⟨fun _ => ?_, fun h => nomatch h⟩⟩
      have hmul : i * costT m ≤ 4 * costT m := Nat.mul_le_mul_right _ (by omega)
      refine sw_callB 1 rfl (ea_cons (ev_op (ev_var rfl (.int _)) ev_int rd_sub) ea_nil) rfl hb3 (by omega) (by rw [show ((m + 1 : Nat) : Int) - 1 = (m : Int) by omega]) fun v4 d4 b4 G4 hpost hb4 e4 dv4 => ?_
      refine ⟨[(p, .lst b4)], rfl, by rw [dacc.len]; omega, e2.trans e4, b4, es ++ [d4], rfl, hb4.mono (by rw [Nat.succ_mul]; omega), ((dacc.mono e2).mono e4).app (.one dv4), by rw [List.length_append]; show _ + 1 = _; omega, fun x hx => ?_⟩
      rcases List.mem_append.mp hx with h | h
      · exact hes x h
      · rw [List.mem_singleton.mp h]; exact hpost
    · rintro acc G' M q e1 ⟨b3, es, rfl, hb3, dacc, hel, hes⟩ nq
      rw [rngD_len] at hel hb3
      have hmul : k * costT m ≤ 5 * costT m := Nat.mul_le_mul_right _ (by omega)
      refine sx_fresh 0 rfl fun hq => sx_settle 0 rfl nq ?_
      show Sx W _ D _ _ [(p, .lst b3)]
      have dq : Da K (upd G' q (.lst acc)) (.ref q) (.list es) := .lst upd_same (dacc.mono (Ex.new hq))
      obtain ⟨j, hj⟩ := Int.eq_ofNat_of_zero_le (show 0 ≤ r - 6 by omega)
      have hj3 : j < 3 := by omega
      refine sx_ret (K := K) hret (ev_op (ev_lst (ds := [.list es, .tuple es, .tuple es]) (ea_cons (ev_var rfl dq) (ea_cons (ev_cb (ea_cons (ev_var rfl dq) ea_nil) ra_tupleL) (ea_cons (ev_cb (ea_cons (ev_var rfl dq) ea_nil) ra_tupleL) ea_nil))) (Nat.le_of_ble_eq_true rfl)) (ev_is (ev_op (ev_var rfl (.int r)) ev_int rd_sub) (by rw [hj])) (rd_ixLg (n := j) hj3)) fun v5 G5 e5 dv5 => ?_
      refine ⟨_, b3, ?_, hb3.mono (by omega), List.mem_cons_self, dv5⟩
      have hfl : Fit 9 (m + 1 + 1) (.list es) := fit_list (by omega) hes
      have hft : Fit 9 (m + 1 + 1) (.tuple es) := fit_tup (by omega) hes
      match j, hj3 with
      | 0, _ => exact hfl
      | 1, _ => exact hft
      | 2, _ => exact hft
/-! # _law_otherwise -/
def otherPre (n : Nat) (ds : List PyData) : Prop := n ≤ 2 ∧ ∃ xs, ds = [.tuple xs, .int (n : Int)] ∧ Fit 1000 (n + 4) (.tuple xs)
def spn__law_otherwise (K : PySem.W.Frag) (n : Nat) : Sp := spB K (70 * (n + 1)) (otherPre n) fun _ d => Fit 1009 (n + 5) d
def sp__law_otherwise (K : PySem.W.Frag) : Sp := fun vs H Q E => ∃ n, n ≤ 2 ∧ spn__law_otherwise K n vs H Q E
abbrev ns__law_otherwise : List Str := ["bag", "thing", "deep", "parts", "at", "way", "near"]
abbrev ps__law_otherwise : List Str := ["bag", "thing", "deep"]
def t__law_otherwise (K : PySem.W.Frag) (spr : Sp) : TS :=
  (tSeq (tAsg (tCB (kList K) (tCons (tVar 1) tNil)) (gName 3)) (tSeq (tIfS (tTest (tOp (kEq K) (tVar 3) (tLst tNil))) (tRet (tTup (tCons (tCall (sp__law_thing K) [] E0 (tCons (tVar 0) (tCons (tC (.int 1)) tNil))) tNil))) tNext) (tSeq (tAsg (tCall (sp__law_take K) [] E0 (tCons (tVar 0) (tCons (tCB (kLen K) (tCons (tVar 3) tNil)) tNil))) (gName 4)) (tSeq (tIfS (tAnd (tB (tIsi K (tOp (rIx K) (tVar 3) (tVar 4)) "tuple")) (tAnd (tTest (tOp kGt (tVar 2) (tC (.int 0)))) (tTest (tOp kGt (tCall (sp__law_take K) [] E0 (tCons (tVar 0) (tCons (tC (.int 4)) tNil))) (tC (.int 0)))))) (tSeq (tAsg (tCall spr [] E0 (tCons (tVar 0) (tCons (tOp (rIx K) (tVar 3) (tVar 4)) (tCons (tOp kSub (tVar 2) (tC (.int 1))) tNil)))) (gSub (tVar 3) (tVar 4) rSetL)) (tRet (tCB (kTuple K) (tCons (tVar 3) tNil)))) tNext) (tSeq (tAsg (tCall (sp__law_take K) [] E0 (tCons (tVar 0) (tCons (tC (.int 9)) tNil))) (gName 5)) (tSeq (tIfS (tTest (tOp (kEq K) (tVar 5) (tC (.int 0)))) (tDrop (tBM K "list" rPopAt (tVar 3) (tCons (tVar 4) tNil))) (tIfS (tTest (tOp (kEq K) (tVar 5) (tC (.int 1)))) (tDrop (tBM K "list" rInsert (tVar 3) (tCons (tVar 4) (tCons (tOp (rIx K) (tVar 3) (tVar 4)) tNil)))) (tIfS (tTest (tOp (kEq K) (tVar 5) (tC (.int 2)))) (sCut (tVar 3) (tPart (tVar 4)) (tPart (tOp (kAdd K) (tVar 4) (tC (.int 2)))) (tRevL K (tSl (kSl K) (tVar 3) (tPart (tVar 4)) (tPart (tOp (kAdd K) (tVar 4) (tC (.int 2))))))) (tIfS (tTest (tOp (kEq K) (tVar 5) (tC (.int 3)))) (tAsg (tCall (sp__law_thing K) [] E0 (tCons (tVar 0) (tCons (tC (.int 2)) tNil))) (gSub (tVar 3) (tVar 4) rSetL)) (tIfS (tTest (tOp (kLt K) (tVar 5) (tC (.int 6)))) (tSeq (tAsg (tLst (tCons (tC (.int 0)) (tCons (tC (.int 1)) (tCons (tUn (rU fun i => .int (-i)) (tC (.int 1))) (tCons (tC (.int 23)) (tCons (tC (.int 24)) (tCons (tC (.int 100)) (tCons (tC (.int 101)) (tCons (tC (.int 300)) (tCons (tC (.int 301)) (tCons (tC (.int 1000)) (tCons (tC (.int 1001)) (tCons (tOp kPow (tC (.int 10)) (tC (.int 9))) (tCons (tOp (kAdd K) (tOp kPow (tC (.int 10)) (tC (.int 9))) (tC (.int 1))) (tCons (tOp kPow (tC (.int 10)) (tC (.int 12))) (tCons (tOp (kAdd K) (tOp kPow (tC (.int 10)) (tC (.int 12))) (tC (.int 1))) tNil)))))))))))))))) (gName 6)) (tAsg (tOp (rIx K) (tOp (kAdd K) (tVar 6) (tLst (tCons (tC .non) (tCons (tC (.bl true)) tNil)))) (tCall (sp__law_take K) [] E0 (tCons (tVar 0) (tCons (tC (.int 17)) tNil)))) (gSub (tVar 3) (tVar 4) rSetL))) (tIfS (tAnd (tTest (tOp (kEq K) (tVar 5) (tC (.int 6)))) (tAnd (tB (tIsi K (tOp (rIx K) (tVar 3) (tVar 4)) "int")) (tNot (tB (tIsi K (tOp (rIx K) (tVar 3) (tVar 4)) "bool"))))) (tAsg (tOp (kAdd K) (tOp (rIx K) (tVar 3) (tVar 4)) (tOp (rIx K) (tLst (tCons (tC (.int 1)) (tCons (tUn (rU fun i => .int (-i)) (tC (.int 1))) (tCons (tC (.int 24)) tNil)))) (tCall (sp__law_take K) [] E0 (tCons (tVar 0) (tCons (tC (.int 3)) tNil))))) (gSub (tVar 3) (tVar 4) rSetL)) (tIfS (tAnd (tTest (tOp (kEq K) (tVar 5) (tC (.int 7)))) (tB (tIsi K (tOp (rIx K) (tVar 3) (tVar 4)) "tuple"))) (tAsg (tCB (kList K) (tCons (tOp (rIx K) (tVar 3) (tVar 4)) tNil)) (gSub (tVar 3) (tVar 4) rSetL)) (tIfS (tAnd (tTest (tOp (kEq K) (tVar 5) (tC (.int 8)))) (tB (tIsi K (tOp (rIx K) (tVar 3) (tVar 4)) "str"))) (tAsg (tOp (kAdd K) (tOp (rIx K) (tVar 3) (tVar 4)) (tOp (rIx K) (tLst (tCons (tC (.str "a")) (tCons (tC (.str "A")) (tCons (tC (.str " ")) (tCons (tC (.str "bbbbbbbb")) tNil))))) (tCall (sp__law_take K) [] E0 (tCons (tVar 0) (tCons (tC (.int 4)) tNil))))) (gSub (tVar 3) (tVar 4) rSetL)) (tRet (tVar 3)))))))))) (tRet (tCB (kTuple K) (tCons (tVar 3) tNil)))))))))
theorem len__law_otherwise {K : PySem.W.Frag} (n : Nat) : ∀ vs H Q E, spn__law_otherwise K n vs H Q E → vs.length = 3 := spB_len (n := 2) fun ds ⟨_, xs, h, _⟩ => by rw [h]; rfl
def near15 : List PyData := [.int 0, .int 1, .int (-1), .int 23, .int 24, .int 100, .int 101, .int 300, .int 301, .int 1000, .int 1001, .int ((10 : Int) ^ (9 : Int).toNat), .int ((10 : Int) ^ (9 : Int).toNat + 1), .int ((10 : Int) ^ (12 : Int).toNat), .int ((10 : Int) ^ (12 : Int).toNat + 1)]
def near17 : List PyData := near15 ++ [.none, .bool true]
theorem fit17 {n k : Nat} : ∀ d ∈ near17, Fit n k d := fun d hd => by
  unfold near17 near15 at hd
  simp only [List.cons_append, List.nil_append, List.mem_cons, List.not_mem_nil, or_false] at hd
  rcases hd with rfl | rfl | rfl | rfl | rfl | rfl | rfl | rfl | rfl | rfl | rfl | rfl | rfl | rfl | rfl | rfl | rfl <;>
    first | exact fit_int | exact fit_bool | exact fit_none
theorem lay_app {x y : Str} (h : PyData.canLay0 (.str x) = true) (h2 : PyData.canLay0 (.str y) = true) : PyData.canLay0 (.str (x ++ y)) = true := by
  have a : x.cps.all (fun c => decide (c < 0x110000)) = true := h
  have b : y.cps.all (fun c => decide (c < 0x110000)) = true := h2
  show (x.cps ++ y.cps).all (fun c => decide (c < 0x110000)) = true
  rw [Array.all_append, a, b]; rfl
theorem len_app (x y : Str) : (x ++ y).length = x.length + y.length := by
  show (x.cps ++ y.cps).size = _
  rw [Array.size_append]; rfl
theorem isInt_int {d : PyData} (h : isInt d = true) (h2 : isBool d = false) : ∃ i, d = .int i := by
  refine ⟨intOf d, int_of h (by rw [h2]; rfl)⟩
theorem mem_set {α : Type} {xs : List α} {j : Nat} {a x : α} (h : x ∈ xs.set j a) : x ∈ xs ∨ x = a := List.mem_or_eq_of_mem_set h
theorem q_whenR {W : Ent} {D : Ends} {σ : L2.St} {G : Hp} {M : Mem} {tt : TT} {t tz : TS} (R : Mem → Prop) (rest : ∀ M', R M' → Sx W tz D σ G M') (h : Swt W tt σ G M fun b G' M' => G' = G ∧ (b = true → Sx W t { D with nx := tz D } σ G M') ∧ (b = false → R M')) : Sx W (tSeq (tIfS tt t tNext) tz) D σ G M :=
  q_whenW fun H w Q q => h H w Q fun b G' M' H' w' ⟨e, h1, h2⟩ => by
    subst e
    exact q b G' M' H' w' ⟨h1, fun hb => rest M' (h2 hb)⟩
theorem pure__law_otherwise {K : PySem.W.Frag} : ∀ (n : Nat) (spr : Sp), (∀ m, n = m + 1 → spr = spn__law_otherwise K m) → ∀ vs H Q E, spn__law_otherwise K n vs H Q E → t__law_otherwise K spr { nx := fun _ H' => Q .non H', rt := Q } (L2.start ns__law_otherwise vs) H := fun n spr hspr => bag_in fun p b n0 ws ds W G D hb hn da hp hret => by
  obtain ⟨hn2, xs, rfl, hfit⟩ := hp
  obtain ⟨v1, v2, rfl, h1, h2⟩ := da.two_inv
  obtain rfl := h2.int_eq
  obtain ⟨hxl, hxs⟩ := Fit.tup (k := n + 3) hfit
  have bm : bagMax = 1000000000000 := rfl
  refine q_asgW (sw_listT (K := K) (ev_var rfl h1) fun q vs G1 nq e1 dvs => ?_)
  refine sx_fresh 0 rfl fun hq => ?_
  have hvl := dvs.len
  have dq : Da K (upd G1 q (.lst vs)) (.ref q) (.list xs) := .lst upd_same (dvs.mono (Ex.new hq))
  have hup : ∀ d ∈ xs, Fit 1009 (n + 4) d := fun d hd => (hxs d hd).mono (by decide) (by omega)
  -- what the end takes
  have fin : ∀ (vs' : List V) (ds' : List PyData) (G' : Hp) (b' : List V) (σ : L2.St), DaL K G' vs' ds' → ds'.length ≤ 1009 → (∀ d ∈ ds', Fit 1009 (n + 4) d) → BagOk (n0 + 70 * (n + 1)) b' → σ[3]? = some (some (.ref q)) →
      Sx W (tRet (tCB (kTuple K) (tCons (tVar 3) tNil))) D σ G' [(q, .lst vs'), (p, .lst b')] := fun vs' ds' G' b' σ dv hl hf hb' hσ =>
    sx_fresh 0 rfl fun hq' => sx_settle 0 rfl nq (sx_ret (K := K) hret (ev_cb (ea_cons (ev_var hσ (.lst upd_same (dv.mono (Ex.new hq')))) ea_nil) ra_tupleL) fun v G3 e dv3 => ⟨_, b', fit_tup hl hf, hb', List.mem_cons_self, dv3⟩)
  refine q_whenW (swt_M 0 rfl (et_test (K := K) (ev_op (ev_var rfl dq) (ev_lst ea_nil (Nat.zero_le _)) (rd_eqD ((sh_list fun d hd => (hxs d hd).sh).mono (by omega)) ((sh_list sh_nil).mono (by omega : 0 + 1 ≤ 64))))) ⟨fun hc => ?_, fun hc => ?_⟩)
  · refine sx_retW hret (sw_tup (K := K) (swa_cons (sw_callBi (cost := costT 1) (Pre := fun ds => ds = [.int ((1 : Nat) : Int)]) (Post := fun _ d => Fit 9 2 d) (fun _ _ _ _ h => ⟨1, by decide, h⟩) 1 rfl (ea_cons ev_int ea_nil) rfl hb (by show _ + 12 ≤ _; omega) rfl fun v d b' G2 hpost hb' e2 dv => swa_nil ⟨[d], .one dv, Nat.le_of_ble_eq_true rfl, fun v3 G3 e3 dv3 => ⟨_, b', ?_, hb'.mono (by show _ + 12 ≤ _; omega), List.mem_cons_of_mem _ List.mem_cons_self, dv3⟩⟩)))
    refine fit_tup (k := n + 4) (by show 1 ≤ 1009; decide) fun x hx => ?_
    rw [List.mem_singleton.mp hx]
    exact hpost.mono (by decide) (by omega)
  rw [eqv_nil] at hc
  have hx0 : 0 < xs.length := by
    cases xs with
    | nil => cases hc
    | cons _ _ => exact Nat.succ_pos _
  refine q_asgW (sw_callBW (K := K) (cost := 1) (fun _ _ _ _ h => h) 1 rfl (swa_cons (sw_intM (K := K) 0 rfl (ev_cb (ea_cons (ev_var rfl dq) ea_nil) ra_lenL) (swa_nil ⟨[.int (xs.length : Int)], b, n0, .one (.int _), rfl, hb, by omega, ⟨_, rfl, by omega, by omega⟩, fun v d b1 G2 hpost hb1 e2 dv => ?_⟩))))
  obtain ⟨m', r, em, rfl, r0, r1⟩ := hpost
  cases em
  obtain rfl := dv.int_eq
  obtain ⟨j, rfl⟩ := Int.eq_ofNat_of_zero_le r0
  have hj : j < xs.length := by omega
  have hjv : j < vs.length := by omega
  have dvs2 := dvs.mono e2
  obtain ⟨u, hu, du⟩ := dvs2.get (List.getElem?_eq_getElem hj)
  have ex0 : xs.getD j .none = xs[j] := by rw [List.getD_eq_getElem?_getD, List.getElem?_eq_getElem hj]; rfl
  have hfj : Fit 1000 (n + 3) xs[j] := hxs _ (List.getElem_mem hj)
  show Sx W _ D [some (.ref p), some v1, some (.int (n : Int)), some (.ref q), some (.int (j : Int)), none, none] G2 [(q, .lst vs), (p, .lst b1)]
  refine sx_fresh 0 rfl fun hq2 => ?_
  have dq2 : Da K (upd G2 q (.lst vs)) (.ref q) (.list xs) := .lst upd_same (dvs2.mono (Ex.new hq2))
  have store : ∀ (v : V) (d : PyData) (G' : Hp) (b' : List V) (σ : L2.St), Ex G2 G' → Da K G' v d → Fit 1009 (n + 4) d → BagOk (n0 + 70 * (n + 1)) b' → σ[3]? = some (some (.ref q)) → σ[4]? = some (some (.int (j : Int))) →
      ∃ (xs0 : List V) (n1 : Int) (j1 : Nat), ([(q, HO.lst vs), (p, HO.lst b')] : Mem)[0]? = some (q, .lst xs0) ∧ EvD K (tVar 4) σ G' (.int n1) ∧ ixN xs0.length n1 = some j1 ∧ Nx W { D with nx := tRet (tCB (kTuple K) (tCons (tVar 3) tNil)) D } σ G' (([(q, HO.lst vs), (p, HO.lst b')] : Mem).set 0 (q, .lst (xs0.set j1 v))) := fun v d G' b' σ e dv hd hb' h3 h4 =>
    ⟨vs, (j : Int), j, rfl, ev_var h4 (.int _), ixN_nat hjv, fin (vs.set j v) (xs.set j d) G' b' σ ((dvs2.mono e).set j dv) (by rw [List.length_set]; omega) (fun x hx => (mem_set hx).elim (hup x) (fun e => e ▸ hd)) hb' h3⟩
  refine q_whenR (fun M' => ∃ b2, M' = [(q, .lst vs), (p, .lst b2)] ∧ BagOk (n0 + 2) b2) ?rest (swt_and (swt_M 0 rfl (et_B (K := K) (ev_isiT (ev_op (ev_var rfl dq2) (ev_var rfl (.int (j : Int))) (rd_ixLg hj)))) ⟨fun a1 => swt_and (swt_ev (et_test (K := K) (by walk_at "ev")) ⟨fun a2 => swt_test (sw_op (sw_take 1 rfl ev_int rfl hb1 (by omega) (by decide) (by decide) fun r2 b2 s0 s1 hb2 => sw_int (K := K) ev_int (rw_bool (K := K) rd_gt (.int _) (.int _) ⟨_, rfl, rfl, fun a3 => ?rec, fun _ => ⟨b2, rfl, hb2⟩⟩))), fun _ => ⟨rfl, (fun h => nomatch h), fun _ => ⟨b1, rfl, hb1.mono (by omega)⟩⟩⟩), fun _ => ⟨rfl, (fun h => nomatch h), fun _ => ⟨b1, rfl, hb1.mono (by omega)⟩⟩⟩))
  case rec =>
    have hn0 : (0 : Int) < (n : Int) := of_decide_eq_true a2
    obtain ⟨m, rfl⟩ : ∃ m, n = m + 1 := ⟨n - 1, by omega⟩
    obtain rfl := hspr m rfl
    have etup : xs[j] = .tuple (itemsOf xs[j]) := by rw [ex0] at a1; exact tup_of a1
    refine q_setM (K := K) 0 rfl (sw_callBW (K := K) (cost := 70 * (m + 1)) (Pre := otherPre m) (Post := fun _ d => Fit 1009 (m + 5) d) (fun _ _ _ _ h => h) 1 rfl (swa_cons (sw_ixO (K := K) 0 rfl rfl (ev_var rfl (.int (j : Int))) hu (swa_cons (sw_int (K := K) (ev_op (ev_var rfl (.int _)) ev_int rd_sub) (swa_nil ⟨[xs[j], .int (m : Int)], b2, n0 + 2, .cons du (.cons (by rw [show ((m + 1 : Nat) : Int) - 1 = (m : Int) by omega]; exact .int _) .nil), rfl, hb2, by omega, ⟨by omega, _, by rw [← etup], by rw [← etup]; exact hfj⟩, fun v d b3 G3 hpost hb3 e3 dv3 => ?_⟩))))))
    exact store v d G3 b3 _ e3 dv3 hpost (hb3.mono (by omega)) rfl rfl
  case rest =>
  rintro _ ⟨b2, rfl, hb2⟩
  refine q_asgW (sw_take 1 rfl ev_int rfl hb2 (by omega) (by decide) (by decide) fun way b3 w0 w1 hb3 => ?_)
  have hb70 : ∀ {b : List V} {k : Nat}, BagOk (n0 + 2 + 1 + k) b → k ≤ 67 → BagOk (n0 + 70 * (n + 1)) b := fun h hk => h.mono (by omega)
  have hb3' : BagOk (n0 + 70 * (n + 1)) b3 := hb70 (k := 0) hb3 (by omega)
  refine q_if (et_test (K := K) (by walk_at "ev")) (fun _ => ?_) (fun _ => ?_)
  · -- pop
    exact sx_pop (K := K) 0 rfl rfl (ev_var rfl (.int (j : Int))) hjv (by omega) (fin (vs.eraseIdx j) (xs.eraseIdx j) G2 b3 _ (dvs2.erase j) (Nat.le_trans (List.length_eraseIdx_le ..) (by omega)) (fun d hd => hup d (List.mem_of_mem_eraseIdx hd)) hb3' rfl)
  refine sx_if (et_test (K := K) (by walk_at "ev")) (fun _ => ?_) (fun _ => ?_)
  · -- insert
    refine sx_insert (K := K) 0 rfl rfl (by omega) (swa_cons (sw_int (K := K) (ev_var rfl (.int (j : Int))) (swa_cons (sw_ixO (K := K) 0 rfl rfl (ev_var rfl (.int (j : Int))) hu (swa_nil ⟨j, u, rfl, by omega, rfl, ?_⟩)))))
    refine fin _ (xs.take j ++ [xs[j]] ++ xs.drop j) G2 b3 _ (((dvs2.take j).app (.one du)).app (dvs2.drop j)) ?_ (fun d hd => hup d ?_) hb3' rfl
    · rw [List.length_append, List.length_append, List.length_take, List.length_drop, List.length_singleton]; omega
    · rcases List.mem_append.mp hd with h | h
      · rcases List.mem_append.mp h with h | h
        · exact List.mem_of_mem_take h
        · rw [List.mem_singleton.mp h]; exact List.getElem_mem hj
      · exact List.mem_of_mem_drop h
  refine sx_if (et_test (K := K) (by walk_at "ev")) (fun _ => ?_) (fun _ => ?_)
  · -- two exchanged
    refine sx_swap (K := K) (a := j) (c := j + 2) 0 rfl rfl (by omega) (ev_var rfl (.int (j : Int))) (ev_op (ev_var rfl (.int (j : Int))) ev_int rd_add) (by omega) (by omega) ?_
    have hcut : DaL K G2 (cutV vs (some (j : Int)) (some ((j + 2 : Nat) : Int))) (cutG xs (some (j : Int)) (some ((j + 2 : Nat) : Int))) := dvs2.cut _ _
    have hcm : ∀ d ∈ cutG xs (some (j : Int)) (some ((j + 2 : Nat) : Int)), d ∈ xs := fun d hd => List.mem_of_mem_drop (List.mem_of_mem_take hd)
    have hcl : j + (cutG xs (some (j : Int)) (some ((j + 2 : Nat) : Int))).length + (xs.length - min (j + 2) vs.length) ≤ 1009 := by
      have : (cutG xs (some (j : Int)) (some ((j + 2 : Nat) : Int))).length ≤ HT.sIx xs.length xs.length (some ((j + 2 : Nat) : Int)) - HT.sIx xs.length 0 (some (j : Int)) := by
        unfold cutG
        rw [List.length_take]; exact Nat.min_le_left _ _
      have e1 : HT.sIx xs.length 0 (some (j : Int)) = j := by
        show (if (j : Int) < 0 then ((j : Int) + (xs.length : Int)).toNat else min (j : Int).toNat xs.length) = j
        rw [if_neg (by omega), Int.toNat_natCast]; omega
      have e2 : HT.sIx xs.length xs.length (some ((j + 2 : Nat) : Int)) ≤ j + 2 := by
        show (if ((j + 2 : Nat) : Int) < 0 then (((j + 2 : Nat) : Int) + (xs.length : Int)).toNat else min ((j + 2 : Nat) : Int).toNat xs.length) ≤ j + 2
        rw [if_neg (by omega), Int.toNat_natCast]; exact Nat.min_le_left _ _
      omega
    refine fin _ (xs.take j ++ (cutG xs (some (j : Int)) (some ((j + 2 : Nat) : Int))).reverse ++ xs.drop (min (j + 2) vs.length)) G2 b3 _ (((dvs2.take j).app hcut.rev).app (dvs2.drop _)) ?_ (fun d hd => hup d ?_) hb3' rfl
    · rw [List.length_append, List.length_append, List.length_take, List.length_drop, List.length_reverse]; omega
    · rcases List.mem_append.mp hd with h | h
      · rcases List.mem_append.mp h with h | h
        · exact List.mem_of_mem_take h
        · exact hcm d (List.mem_reverse.mp h)
      · exact List.mem_of_mem_drop h
  refine sx_if (et_test (K := K) (by walk_at "ev")) (fun _ => ?_) (fun _ => ?_)
  · -- another thing
    refine sx_setM (K := K) 0 rfl (sw_callBi (K := K) (cost := costT 2) (Pre := fun ds => ds = [.int ((2 : Nat) : Int)]) (Post := fun _ d => Fit 9 3 d) (fun _ _ _ _ h => ⟨2, by decide, h⟩) 1 rfl (ea_cons ev_int ea_nil) rfl hb3 (by show _ + 62 ≤ _; omega) rfl fun v d b4 G4 hpost hb4 e4 dv4 => ?_)
    exact store v d G4 b4 _ e4 dv4 (hpost.mono (by decide) (by omega)) (hb70 (k := 62) hb4 (by decide)) rfl rfl
  refine sx_if (et_test (K := K) (by walk_at "ev")) (fun _ => ?_) (fun _ => ?_)
  · -- a number near
    refine q_asg (K := K) (d := .list near15) (ev_lst (ea_cons ev_int (ea_cons ev_int (ea_cons (ev_un ev_int r1_neg) (ea_cons ev_int (ea_cons ev_int (ea_cons ev_int (ea_cons ev_int (ea_cons ev_int (ea_cons ev_int (ea_cons ev_int (ea_cons ev_int (ea_cons (ev_op ev_int ev_int (rd_pow ⟨by decide, by decide, by decide⟩)) (ea_cons (ev_op (ev_op ev_int ev_int (rd_pow ⟨by decide, by decide, by decide⟩)) ev_int rd_add) (ea_cons (ev_op ev_int ev_int (rd_pow ⟨by decide, by decide, by decide⟩)) (ea_cons (ev_op (ev_op ev_int ev_int (rd_pow ⟨by decide, by decide, by decide⟩)) ev_int rd_add) ea_nil))))))))))))))) (Nat.le_of_ble_eq_true rfl)) fun v G3 e3 dv3 => ?_
    refine sx_setM (K := K) 0 rfl (sw_op (sw_ev (K := K) (d := .list near17) (ev_op (ev_var rfl dv3) (ev_lst (ea_cons ev_non (ea_cons ev_bl ea_nil)) (Nat.le_of_ble_eq_true rfl)) (rd_addL (Nat.le_of_ble_eq_true rfl))) fun v2 G4 e4 dv4 => sw_take 1 rfl ev_int rfl hb3 (by omega) (by decide) (by decide) fun r2 b4 s0 s1 hb4 => ?_))
    obtain ⟨i, rfl⟩ := Int.eq_ofNat_of_zero_le s0
    have hi : i < near17.length := by show i < 17; omega
    refine rw_rd (rd_ixLg hi) dv4 (.int _) fun v5 G5 e5 dv5 => ?_
    exact store v5 _ G5 b4 _ ((e3.trans e4).trans e5) dv5 (fit17 _ (getD_mem hi _)) (hb70 (k := 1) hb4 (by decide)) rfl rfl
  refine sx_ifW (swt_M 0 rfl (et_and (et_test (K := K) (by walk_at "ev")) fun _ => et_and (et_B (K := K) (ev_isiI (ev_op (ev_var rfl dq2) (ev_var rfl (.int (j : Int))) (rd_ixLg hj)))) fun _ => et_not (et_B (K := K) (ev_isiB (ev_op (ev_var rfl dq2) (ev_var rfl (.int (j : Int))) (rd_ixLg hj))))) ⟨fun hc => ?_, fun _ => ?_⟩)
  · -- a number more
    simp only [Bool.and_eq_true, Bool.not_eq_true'] at hc
    rw [ex0] at hc
    obtain ⟨i, hi⟩ := isInt_int hc.2.1 hc.2.2
    rw [hi] at du
    obtain rfl := du.int_eq
    refine sx_setM (K := K) 0 rfl (sw_op (sw_ixO (K := K) 0 rfl rfl (ev_var rfl (.int (j : Int))) hu (sw_pick (K := K) (m := 3) 1 rfl (by decide) (by decide) (swa_cons (sw_int (K := K) ev_int (swa_cons (sw_int (K := K) (ev_un ev_int r1_neg) (swa_cons (sw_int (K := K) ev_int (swa_nil ⟨[.int 1, .int (-1), .int 24], _, _, .cons (.int _) (.cons (.int _) (.cons (.int _) .nil)), rfl, rfl, hb3, by omega, fun k d v G3 b4 hd e3 dv3 hb4 => ?_⟩))))))))))
    have hk : ∃ z : Int, v = .int z := by
      match k, hd with
      | 0, hd => cases hd; exact ⟨_, dv3.int_eq⟩
      | 1, hd => cases hd; exact ⟨_, dv3.int_eq⟩
      | 2, hd => cases hd; exact ⟨_, dv3.int_eq⟩
      | k + 3, hd => cases hd
    obtain ⟨z, rfl⟩ := hk
    exact rw_rd (K := K) rd_add (.int _) (.int _) fun v5 G5 e5 dv5 => store v5 _ G5 b4 _ (e3.trans e5) dv5 fit_int (hb70 (k := 1) hb4 (by decide)) rfl rfl
  refine sx_ifW (swt_M 0 rfl (et_and (et_test (K := K) (by walk_at "ev")) fun _ => et_B (K := K) (ev_isiT (ev_op (ev_var rfl dq2) (ev_var rfl (.int (j : Int))) (rd_ixLg hj)))) ⟨fun hc => ?_, fun _ => ?_⟩)
  · -- a list of it
    rw [Bool.and_eq_true, ex0] at hc
    have etup : xs[j] = .tuple (itemsOf xs[j]) := tup_of hc.2
    rw [etup] at du hfj
    obtain ⟨k1, k2⟩ := Fit.tup (k := n + 2) hfj
    refine sx_setM (K := K) 0 rfl (sw_cb (swa_cons (sw_ixO (K := K) 0 rfl rfl (ev_var rfl (.int (j : Int))) hu (swa_nil (rwa_rd (K := K) ra_listT (.one du) fun v3 G3 e3 dv3 => ?_)))))
    exact store v3 _ G3 b3 _ e3 dv3 (Fit.mono (n := 1000) (k := n + 2 + 1) (by decide) (by omega) (fit_list k1 k2)) hb3' rfl rfl
  refine sx_ifW (swt_M 0 rfl (et_and (et_test (K := K) (by walk_at "ev")) fun _ => et_B (K := K) (ev_isiS (ev_op (ev_var rfl dq2) (ev_var rfl (.int (j : Int))) (rd_ixLg hj)))) ⟨fun hc => ?_, fun _ => ?_⟩)
  · -- a longer text
    rw [Bool.and_eq_true, ex0] at hc
    have etup : xs[j] = .str (strOf xs[j]) := str_of hc.2
    rw [etup] at du hfj
    obtain ⟨k1, k2⟩ := hfj.str
    obtain rfl := du.str_eq
    refine sx_setM (K := K) 0 rfl (sw_op (sw_ixO (K := K) 0 rfl rfl (ev_var rfl (.int (j : Int))) hu (sw_pick (K := K) (m := 4) 1 rfl (by decide) (by decide) (swa_cons (sw_str (K := K) ev_str (swa_cons (sw_str (K := K) ev_str (swa_cons (sw_str (K := K) ev_str (swa_cons (sw_str (K := K) ev_str (swa_nil ⟨[.str "a", .str "A", .str " ", .str "bbbbbbbb"], _, _, .cons (.str _) (.cons (.str _) (.cons (.str _) (.cons (.str _) .nil))), rfl, rfl, hb3, by omega, fun k d v G3 b4 hd e3 dv3 hb4 => ?_⟩))))))))))))
    have hk : ∃ z : Str, v = .str z ∧ z.length ≤ 8 ∧ PyData.canLay0 (.str z) = true := by
      match k, hd with
      | 0, hd => cases hd; exact ⟨_, dv3.str_eq, by decide +kernel, by decide +kernel⟩
      | 1, hd => cases hd; exact ⟨_, dv3.str_eq, by decide +kernel, by decide +kernel⟩
      | 2, hd => cases hd; exact ⟨_, dv3.str_eq, by decide +kernel, by decide +kernel⟩
      | 3, hd => cases hd; exact ⟨_, dv3.str_eq, by decide +kernel, by decide +kernel⟩
      | k + 4, hd => cases hd
    obtain ⟨z, rfl, z1, z2⟩ := hk
    exact rw_rd (K := K) (rd_addS (by omega)) (.str _) (.str _) fun v5 G5 e5 dv5 => store v5 _ G5 b4 _ (e3.trans e5) dv5 (fit_str (by rw [len_app]; omega) (lay_app k2 z2)) (hb70 (k := 1) hb4 (by decide)) rfl rfl
  -- return parts
  refine sx_settle 0 rfl nq (sx_ret (K := K) (fun v G' M' H' w h => hret v G' M' H' w h) (ev_var rfl (d := .list xs) dq2) fun v G3 e3 dv3 => ?_)
  exact ⟨_, b3, fit_list (by omega) hup, hb3', List.mem_cons_self, dv3⟩
/-! # rising names are apart -/
theorem rises_pw : ∀ {ss : List Str}, risesS ss = true → ss.Pairwise fun x y => x.cps.toList < y.cps.toList
  | [], _ => .nil
  | [_], _ => by simp
  | x :: y :: r, h => by
    rw [rises_cons, Bool.and_eq_true] at h
    have ih := rises_pw (ss := y :: r) h.2
    refine List.pairwise_cons.mpr ⟨fun z hz => ?_, ih⟩
    rcases List.mem_cons.mp hz with e | e
    · rw [e]; exact of_decide_eq_true h.1
    · exact List.lt_trans (of_decide_eq_true h.1) ((List.pairwise_cons.mp ih).1 z e)
theorem find_self {t : List Gate} (h : risesS (t.map Gate.name) = true) : ∀ {g : Gate}, g ∈ t → findG t g.name = some g := by
  have hp := rises_pw h
  clear h
  induction t with
  | nil => intro g hg; cases hg
  | cons a r ih =>
    intro g hg
    rw [List.map_cons] at hp
    obtain ⟨h1, h2⟩ := List.pairwise_cons.mp hp
    unfold findG
    rw [List.find?_cons]
    rcases List.mem_cons.mp hg with e | e
    · subst e
      rw [decide_eq_true rfl]
    · have hne : ¬ a.name = g.name := fun z => by
        have := h1 g.name (List.mem_map_of_mem e)
        rw [z] at this
        exact List.lt_irrefl _ this
      rw [decide_eq_false hne]
      exact ih h2 e
theorem ask_self {Z : Er} {t : List Gate} (tk : TownOk t) {g : Gate} (hg : g ∈ t) : askG Z (townEnc t) g.name = .inr g := by
  unfold askG
  rw [if_pos (townD_enc tk), townOf_enc, find_self tk.ri hg]
theorem hourOk_of {h : Int} (h0 : 0 ≤ h) (h1 : h ≤ 1000000000000) : hourOk h = true := by
  unfold hourOk
  rw [decide_eq_true h0, decide_eq_true h1]; rfl
theorem hourR_of {Z : Er} {h : Int} {r : Res} (h0 : 0 ≤ h) (h1 : h ≤ 1000000000000) : hourR Z h r = r := if_pos (hourOk_of h0 h1)
/-! # a list that was taken off the script -/
section
variable {K : PySem.W.Frag} {W : Ent} {D : Ends} {σ : L2.St} {G : Hp} {M : Mem} {C : V → Hp → Mem → Prop} {t : TS} {a : Addr} {ns : List Int}
theorem SqL.kept {H : Hp} {xs : List V} (h : SqL K W.H0 a xs) (hm : W.ms = []) (w : World W G M H) : SqL K H a xs := by
  have k : Ex W.H0 H := fun b o z => w.gr.fr b o z (by rw [hm]; simp)
  exact ex_l k h
theorem sw_head {n : Nat} (h0 : σ[0]? = some (some (.ref a))) (hS : SqL K W.H0 a (ns.map V.int)) (hm : W.ms = []) (c : ∀ v G', Ex G G' → Da K G' v (.list ((ns.take n).map .int)) → C v G' M) : Sw W (tSl (kSl K) (tVar 0) tNoPart (tPart (tC (.int (n : Int))))) σ G M C := fun H w Q q =>
  ⟨.ref a, h0, ⟨(n : Int), rfl, .inl ⟨a, _, rfl, SqL.kept hS hm w, fun p hp => q _ _ M _ (w.grow (Grow.new w.gh hp)) (c _ _ (Ex.new (fresh_back w.gh hp)) (.lst upd_same (by
    have e : cutV (ns.map V.int) none (some (n : Int)) = (ns.take n).map V.int := by
      rw [List.map_take]
      exact cutG_to (ns.map V.int) n
    rw [e]
    exact DaL.ofInts _)))⟩⟩⟩
theorem script_in {N : List Str} {n : Nat} (h : ∀ (a : Addr) (ns : List Int) (W : Ent) G D, SqL K W.H0 a (ns.map V.int) → W.ms = [] → ns.length ≤ n → Ret W D (fun v _ _ => v = .bl true) → Sx W t D (L2.start N [.ref a]) G []) :
    ∀ vs H Q E, sp_script K n vs H Q E → t { nx := fun _ H' => Q .non H', rt := Q } (L2.start N vs) H := fun vs H Q E ⟨a, ns, ev, hS, hl, q⟩ => by
  subst ev
  exact h a ns ⟨fun _ => none, H, []⟩ (fun _ => none) _ hS rfl hl (fun v G' M' H' w ev => by subst ev; exact q H') H (world0 fun _ _ z => nomatch z)
theorem sw_all {R : V → Hp → Mem → Prop} {te : TE} {b : Bool} (h : EvD K te σ G (.bool b)) (c : ∀ G M, R (.bl b) G M) : Sw W te σ G M R := sw_bool h (c G M)
theorem nx_drop (h : Nx W D σ G []) : Nx W D σ G M := fun H w => h H ⟨w.gr, (fun _ _ z => nomatch z), (fun _ _ z => nomatch z), List.nodup_nil, (fun _ _ z => nomatch z)⟩
theorem rwa_int {r : List V → Hp → VK → Prop} {xs : List V} {as : List PyData} {n : Int} (h : RDA K r G as (.int n)) (hx : DaL K G xs as) (c : C (.int n) G M) : Rwa W r xs G M C := fun H w Q q =>
  h G H (Ex.refl G) w.gh xs hx Q fun v G' H' g dv => q v G M H' (w.ext g.hh) (by rw [dv.int_eq]; exact c)
end
theorem eqv_self {n : Nat} {d : PyData} (h : Sh n d) : PyData.eqv d d = true := SeqAt.eqv_refl d h.1
/-! # _law_is_name, _law_is_number, _law_rises -/
theorem lay_chr {x : Str} (h : PyData.canLay0 (.str x) = true) : ∀ c ∈ x.cps.toList, PyData.canLay0 (.str ⟨#[c]⟩) = true := fun c hc => by
  have a : x.cps.all (fun c => decide (c < 0x110000)) = true := h
  rw [← Array.all_toList] at a
  have hc := List.all_eq_true.mp a c hc
  show (#[c] : Array Nat).all (fun c => decide (c < 0x110000)) = true
  rw [← Array.all_toList]
  show (decide (c < 0x110000) && true) = true
  rw [hc]; rfl
def sp__law_is_name (K : PySem.W.Frag) : Sp := spR K fun ds d => ∃ x, ds = [x] ∧ Fit 50000 60 x ∧ d = .bool (nameD x)
abbrev ns__law_is_name : List Str := ["thing", "sign"]
abbrev ps__law_is_name : List Str := ["thing"]
def t__law_is_name (K : PySem.W.Frag) : TS :=
  (tSeq (tIfS (tOr (tNot (tB (tIsi K (tVar 0) "str"))) (tOr (tTest (tOp (kLt K) (tCB (kLen K) (tCons (tVar 0) tNil)) (tC (.int 1)))) (tTest (tOp kGt (tCB (kLen K) (tCons (tVar 0) tNil)) (tC (.int 8)))))) (tRet (tC (.bl false))) tNext) (tRet (tOp (kEq K) (tLc (iSeq K (tVar 0)) (gName 1) (tTest (tOp (kNotIn K) (tVar 1) (tC (.str "abcdefghijklmnopqrstuvwxyz")))) (tVar 1) [1]) (tLst tNil))))
theorem len__law_is_name {K : PySem.W.Frag} : ∀ vs H Q E, sp__law_is_name K vs H Q E → vs.length = 1 := spR_len fun ds d ⟨x, h, _⟩ => by rw [h]; rfl
theorem pure__law_is_name {K : PySem.W.Frag} : ∀ vs H Q E, sp__law_is_name K vs H Q E → t__law_is_name K { nx := fun _ H' => Q .non H', rt := Q } (L2.start ns__law_is_name vs) H := pure_in fun vs ds d W G D da hr hret hn => by
  obtain ⟨x, rfl, hf, rfl⟩ := hr
  obtain ⟨v0, rfl, h0⟩ := da.one_inv
  refine q_when (b := !isStr x || (decide (((strOf x).length : Int) < 1) || decide (((strOf x).length : Int) > 8))) ?_ (fun hb => ?_) (fun hb => ?_)
  · refine et_or (et_not (et_B (K := K) (by walk_at "ev"))) fun a1 => ?_
    have ex := str_of (nf a1)
    rw [ex] at h0 hf
    have hl := hf.str.1
    exact et_or (et_test (K := K) (ev_op (ev_cb (by walk_at "ea") (ra_lenS (by omega))) ev_int rd_lt)) fun _ => et_test (K := K) (ev_op (ev_cb (by walk_at "ea") (ra_lenS (by omega))) ev_int rd_gt)
  · refine sx_ret (K := K) hret ev_bl (fun v G' e dv => ?_)
    have e0 : nameD x = false := by
      unfold nameD nameS
      rw [Bool.or_eq_true, Bool.or_eq_true, Bool.not_eq_true', decide_eq_true_eq, decide_eq_true_eq] at hb
      rcases hb with h | h | h
      · rw [h]; rfl
      · rw [decide_eq_false (show ¬ ((1 : Int) ≤ ((strOf x).length : Int)) by omega), Bool.false_and, Bool.false_and, Bool.and_false]
      · rw [decide_eq_false (show ¬ (((strOf x).length : Int) ≤ 8) by omega), Bool.and_false, Bool.false_and, Bool.and_false]
    rw [e0]; exact dv
  · rw [Bool.or_eq_false_iff, Bool.or_eq_false_iff, decide_eq_false_iff_not, decide_eq_false_iff_not] at hb
    obtain ⟨b1, b2, b3⟩ := hb
    have ex := str_of (nf b1)
    rw [ex] at h0 hf
    have hlay := hf.str.2
    have hlen : (strOf x).cps.toList.length = (strOf x).length := by rw [Array.length_toList]; rfl
    have e0 : nameD x = (((strOf x).cps.toList.filter fun c => !isLetter c).map fun c => PyData.str ⟨#[c]⟩).isEmpty := by
      unfold nameD nameS
      rw [nf b1, decide_eq_true (show (1 : Int) ≤ ((strOf x).length : Int) by omega), decide_eq_true (show ((strOf x).length : Int) ≤ 8 by omega), Bool.true_and, Bool.true_and, Bool.true_and, List.isEmpty_map]
      generalize (strOf x).cps.toList = l
      induction l with
      | nil => rfl
      | cons a r ih =>
        rw [List.all_cons, List.filter_cons]
        cases isLetter a with
        | true => rw [Bool.true_and, ih]; rfl
        | false => rfl
    rw [e0, ← eqv_nil] at hret
    refine sx_ret hret (ev_op (ev_lcF (K := K) (strOf x).cps.toList (fun c => .str ⟨#[c]⟩) (fun c => !isLetter c) (fun c => .str ⟨#[c]⟩) (it_str (by walk_at "ev")) (by omega) (fun _ => rfl) ?_ ?_) (ev_lst ea_nil (Nat.zero_le _)) (rd_eqD ((sh_list (n := 0) (sh_map fun c hc => sh_str (lay_chr hlay c (List.mem_filter.mp hc).1))).mono (by decide)) ((sh_list (n := 0) sh_nil).mono (by decide)))) (fun v G' e dv => dv)
    · intro c _ v G' e dv
      exact et_test (K := K) (ev_op (a := .str ⟨#[c]⟩) (b := .str lettersS) (by walk_at "ev") ev_str rd_notInC)
    · intro c _ v G' e dv _
      exact ev_var rfl dv
def sp__law_is_number (K : PySem.W.Frag) : Sp := spR K fun ds d => ∃ x lo hi, ds = [x, .int lo, .int hi] ∧ d = .bool (withinD x lo hi)
abbrev ns__law_is_number : List Str := ["thing", "low", "high"]
abbrev ps__law_is_number : List Str := ["thing", "low", "high"]
def t__law_is_number (K : PySem.W.Frag) : TS :=
  (tRet (tAndV (tIsi K (tVar 0) "int") (tAndV (tNotV (tIsi K (tVar 0) "bool")) (tChain kLe kLe (tVar 1) (tVar 0) (tVar 2)))))
theorem len__law_is_number {K : PySem.W.Frag} : ∀ vs H Q E, sp__law_is_number K vs H Q E → vs.length = 3 := spR_len fun ds d ⟨x, lo, hi, h, _⟩ => by rw [h]; rfl
theorem pure__law_is_number {K : PySem.W.Frag} : ∀ vs H Q E, sp__law_is_number K vs H Q E → t__law_is_number K { nx := fun _ H' => Q .non H', rt := Q } (L2.start ns__law_is_number vs) H := pure_in fun vs ds d W G D da hr hret hn => by
  obtain ⟨x, lo, hi, rfl, rfl⟩ := hr
  obtain ⟨v0, v1, v2, rfl, h0, h1, h2⟩ := da.three_inv
  refine sx_ret hret (ev_and (by walk_at "ev") fun a1 => ev_and (by walk_at "ev") fun a2 => ?_) (fun v G' e dv => dv)
  have ex := int_of a1 a2
  rw [ex] at h0
  apply ev_chain
  · walk_at "ev"
  · walk_at "ev"
  · walk_at "rd"
  · intro _; walk_at "ev"
  · intro _; walk_at "rd"
def fallsAt (ss : List Str) (k : Nat) : Bool := !ltS (ss.getD k "") (ss.getD (k + 1) "")
theorem rises_falls : ∀ ss : List Str, risesS ss = ((List.range (ss.length - 1)).filter (fallsAt ss)).isEmpty
  | [] => rfl
  | [_] => rfl
  | x :: y :: r => by
    have ih := rises_falls (y :: r)
    rw [rises_cons, ih]
    show (ltS x y && _) = ((List.range (r.length + 1)).filter (fallsAt (x :: y :: r))).isEmpty
    rw [List.range_succ_eq_map, List.filter_cons]
    have e0 : fallsAt (x :: y :: r) 0 = !ltS x y := rfl
    rw [e0]
    have e1 : ((List.range r.length).map Nat.succ).filter (fallsAt (x :: y :: r)) = ((List.range r.length).filter (fallsAt (y :: r))).map Nat.succ := by
      rw [List.filter_map]; rfl
    cases ltS x y with
    | true =>
      rw [Bool.true_and, Bool.not_true, if_neg (by decide), e1, List.isEmpty_map]
      rfl
    | false => rfl
def sp__law_rises (K : PySem.W.Frag) : Sp := spR K fun ds d => ∃ ss : List Str, (ds = [.list (ss.map .str)] ∨ ds = [.tuple (ss.map .str)]) ∧ ss.length ≤ 50000 ∧ d = .bool (risesS ss)
abbrev ns__law_rises : List Str := ["some", "k"]
abbrev ps__law_rises : List Str := ["some"]
def t__law_rises (K : PySem.W.Frag) : TS :=
  (tRet (tOp (kEq K) (tLc (iRng2 (tCons (tC (.int 1)) (tCons (tCB (kLen K) (tCons (tVar 0) tNil)) tNil))) (gName 1) (tNot (tTest (tOp (kLt K) (tOp (rIx K) (tVar 0) (tOp kSub (tVar 1) (tC (.int 1)))) (tOp (rIx K) (tVar 0) (tVar 1))))) (tVar 1) [1]) (tLst tNil)))
theorem len__law_rises {K : PySem.W.Frag} : ∀ vs H Q E, sp__law_rises K vs H Q E → vs.length = 1 := spR_len fun ds d ⟨x, h, _⟩ => by rcases h with h | h <;> (rw [h]; rfl)
theorem getD_strs {ss : List Str} {k : Nat} (h : k < ss.length) : (ss.map PyData.str).getD k .none = .str (ss.getD k "") := by
  rw [List.getD_eq_getElem?_getD, List.getElem?_map, List.getD_eq_getElem?_getD, List.getElem?_eq_getElem h]; rfl
theorem pure__law_rises {K : PySem.W.Frag} : ∀ vs H Q E, sp__law_rises K vs H Q E → t__law_rises K { nx := fun _ H' => Q .non H', rt := Q } (L2.start ns__law_rises vs) H := pure_in fun vs ds d W G D da hr hret hn => by
  obtain ⟨ss, hss, hs, rfl⟩ := hr
  have key : ∃ v0, vs = [v0] ∧ (∀ (σ : L2.St) (G' : Hp), σ[0]? = some (some v0) → Ex G G' → EvD K (tCB (kLen K) (tCons (tVar 0) tNil)) σ G' (.int ((ss.map PyData.str).length : Int))) ∧
      ∀ (σ : L2.St) (G' : Hp) (k : Nat) (te : TE), σ[0]? = some (some v0) → Ex G G' → k < ss.length → EvD K te σ G' (.int (k : Int)) → EvD K (tOp (rIx K) (tVar 0) te) σ G' (.str (ss.getD k "")) := by
    rcases hss with rfl | rfl
    · obtain ⟨v0, rfl, h0⟩ := da.one_inv
      exact ⟨v0, rfl, fun σ G' h e => ev_cb (ea_cons (ev_var h (h0.mono e)) ea_nil) ra_lenL, fun σ G' k te h e hk hi => ev_is (ev_op (ev_var h (h0.mono e)) hi (rd_ixLg (n := k) (by rw [List.length_map]; omega))) (getD_strs hk)⟩
    · obtain ⟨v0, rfl, h0⟩ := da.one_inv
      exact ⟨v0, rfl, fun σ G' h e => ev_cb (ea_cons (ev_var h (h0.mono e)) ea_nil) ra_lenT, fun σ G' k te h e hk hi => ev_is (ev_op (ev_var h (h0.mono e)) hi (rd_ixTg (n := k) (by rw [List.length_map]; omega))) (getD_strs hk)⟩
  obtain ⟨v0, rfl, hlen, hix⟩ := key
  have e0 : risesS ss = (((List.range (ss.length - 1)).filter (fallsAt ss)).map fun k : Nat => PyData.int (1 + (k : Int))).isEmpty := by rw [List.isEmpty_map]; exact rises_falls ss
  rw [e0, ← eqv_nil] at hret
  have hit : IterD K (iRng2 (tCons (tC (.int 1)) (tCons (tCB (kLen K) (tCons (tVar 0) tNil)) tNil))) (L2.start ns__law_rises [v0]) G ((List.range (ss.length - 1)).map fun k : Nat => PyData.int (1 + (k : Int))) := by
    have q := it_rng2 (K := K) (m := 1) (n := ((ss.map PyData.str).length : Int)) (ea_cons (ev_int (σ := L2.start ns__law_rises [v0]) (G := G)) (ea_cons (hlen _ G rfl (Ex.refl G)) ea_nil)) (by decide) (by decide) (by omega) (by rw [List.length_map]; omega)
    have en : (((ss.map PyData.str).length : Int) - 1).toNat = ss.length - 1 := by rw [List.length_map]; omega
    rw [en] at q
    exact q
  refine sx_ret hret (ev_op (ev_lcF (K := K) (List.range (ss.length - 1)) _ (fallsAt ss) (fun k : Nat => PyData.int (1 + (k : Int))) hit (by rw [List.length_range]; omega) (fun _ => rfl) ?_ ?_) (ev_lst ea_nil (Nat.zero_le _)) (rd_eqD ((sh_list (n := 0) (sh_map fun c hc => sh_int)).mono (by decide)) ((sh_list (n := 0) sh_nil).mono (by decide)))) (fun v G' e dv => dv)
  · intro k hk v G' e dv
    have hk := List.mem_range.mp hk
    obtain rfl := dv.int_eq
    refine et_not (et_test (K := K) (ev_op (a := .str (ss.getD k "")) (b := .str (ss.getD (k + 1) "")) ?_ ?_ rd_ltS))
    · exact hix _ G' k _ rfl e (by omega) (ev_is (ev_op (ev_var rfl (.int (1 + (k : Int)))) ev_int rd_sub) (by rw [show 1 + (k : Int) - 1 = (k : Int) by omega]))
    · exact hix _ G' (k + 1) _ rfl e (by omega) (ev_is (ev_var rfl (.int (1 + (k : Int)))) (by rw [show 1 + (k : Int) = ((k + 1 : Nat) : Int) by omega]))
  · intro k hk v G' e dv _
    exact ev_var rfl dv
theorem Fit.itms {n k : Nat} {x : PyData} (h : Fit n (k + 1) x) : (itemsOf x).length ≤ n ∧ ∀ d ∈ itemsOf x, Fit n k d := by
  rcases h with h | ⟨xs, rfl | rfl, h1, h2⟩
  · rcases h with rfl | ⟨b, rfl⟩ | ⟨b, rfl⟩ | ⟨z, rfl, _⟩ <;> exact ⟨Nat.zero_le _, fun _ h => nomatch h⟩
  · exact ⟨h1, h2⟩
  · exact ⟨h1, h2⟩
theorem fit_getD {n k j : Nat} {ds : List PyData} (h : ∀ d ∈ ds, Fit n k d) : Fit n k (ds.getD j .none) := by
  rw [List.getD_eq_getElem?_getD]
  cases e : ds[j]? with
  | none => exact fit_none
  | some x => exact h x (List.mem_of_getElem? e)
/-! # are_names, is_pass -/
def namesD (d : PyData) : Bool := isTup d && ((itemsOf d).all nameD && risesS ((itemsOf d).map strOf))
def sp_are_names (K : PySem.W.Frag) : Sp := spR K fun ds d => ∃ x, ds = [x] ∧ sm x = true ∧ d = .bool (namesD x)
abbrev ns_are_names : List Str := ["thing", "part"]
abbrev ps_are_names : List Str := ["thing"]
def t_are_names (K : PySem.W.Frag) : TS :=
  (tRet (tAndV (tIsi K (tVar 0) "tuple") (tAndV (tCB (rAll K) (tCons (tLc (iSeq K (tVar 0)) (gName 1) tYes (tCall (sp_is_name K) [] E0 (tCons (tVar 1) tNil)) [1]) tNil)) (tCall (sp_rises K) [] E0 (tCons (tVar 0) tNil)))))
theorem len_are_names {K : PySem.W.Frag} : ∀ vs H Q E, sp_are_names K vs H Q E → vs.length = 1 := spR_len fun ds d ⟨x, h, _⟩ => by rw [h]; rfl
theorem names_strs {ds : List PyData} (h : ds.all nameD = true) : ds = (ds.map strOf).map .str := by
  rw [List.map_map]
  conv => lhs; rw [← List.map_id ds]
  refine List.map_congr_left fun d hd => ?_
  have h1 := List.all_eq_true.mp h d hd
  unfold nameD at h1
  rw [Bool.and_eq_true] at h1
  exact str_of h1.1
theorem pure_are_names {K : PySem.W.Frag} : ∀ vs H Q E, sp_are_names K vs H Q E → t_are_names K { nx := fun _ H' => Q .non H', rt := Q } (L2.start ns_are_names vs) H := pure_in fun vs ds d W G D da hr hret hn => by
  obtain ⟨x, rfl, hs, rfl⟩ := hr
  obtain ⟨v0, rfl, h0⟩ := da.one_inv
  refine sx_ret hret (ev_and (by walk_at "ev") fun a1 => ?_) (fun v G' e dv => dv)
  have ex := tup_of a1
  rw [ex] at h0 hs
  obtain ⟨hlen, hm⟩ := sm_tup hs
  refine ev_and (ev_cb (ea_cons ?_ ea_nil) ra_allF) fun a2 => ?_
  · have ei : (itemsOf x) = (itemsOf x).map id := (List.map_id _).symm
    refine ev_lcN (itemsOf x) id (fun p => .bool (nameD p)) (by rw [← ei]; exact it_tup (by walk_at "ev")) hlen (fun _ => rfl) fun p hp v G' e dv => ?_
    exact ev_call (ea_cons (ev_var rfl dv) ea_nil) ⟨_, rfl, smL_mem hm hp, rfl⟩
  · exact ev_call (ea_cons (ev_var rfl h0) ea_nil) ⟨(itemsOf x).map strOf, .inr (by rw [← names_strs a2]), by rw [List.length_map]; exact hlen, rfl⟩
def pass1 (x : PyData) : Bool := !isTup x || (!decide (((itemsOf x).length : Int) = 5) || (!nameD ((itemsOf x).getD 0 .none) || !namesD ((itemsOf x).getD 1 .none)))
def pass2 (x : PyData) : Bool := !withinD ((itemsOf x).getD 2 .none) 0 1000000000000 || !withinD ((itemsOf x).getD 3 .none) (intOf ((itemsOf x).getD 2 .none)) 1000000000000
def passD (x : PyData) : Bool := !pass1 x && (!pass2 x && (isN ((itemsOf x).getD 4 .none) || withinD ((itemsOf x).getD 4 .none) 1 100))
def sp_is_pass (K : PySem.W.Frag) : Sp := spR K fun ds d => ∃ x, ds = [x] ∧ sm x = true ∧ d = .bool (passD x)
abbrev ns_is_pass : List Str := ["thing"]
abbrev ps_is_pass : List Str := ["thing"]
def t_is_pass (K : PySem.W.Frag) : TS :=
  (tSeq (tIfS (tOr (tNot (tB (tIsi K (tVar 0) "tuple"))) (tOr (tTest (tOp (kNe K) (tCB (kLen K) (tCons (tVar 0) tNil)) (tC (.int 5)))) (tOr (tNot (tB (tCall (sp_is_name K) [] E0 (tCons (tOp (rIx K) (tVar 0) (tC (.int 0))) tNil)))) (tNot (tB (tCall (sp_are_names K) [] E0 (tCons (tOp (rIx K) (tVar 0) (tC (.int 1))) tNil))))))) (tRet (tC (.bl false))) tNext) (tSeq (tIfS (tOr (tNot (tB (tCall (sp_is_within K) [] E0 (tCons (tOp (rIx K) (tVar 0) (tC (.int 2))) (tCons (tC (.int 0)) (tCons (tC (.int 1000000000000)) tNil)))))) (tNot (tB (tCall (sp_is_within K) [] E0 (tCons (tOp (rIx K) (tVar 0) (tC (.int 3))) (tCons (tOp (rIx K) (tVar 0) (tC (.int 2))) (tCons (tC (.int 1000000000000)) tNil))))))) (tRet (tC (.bl false))) tNext) (tRet (tOrV (tOp kIsN (tOp (rIx K) (tVar 0) (tC (.int 4))) (tC .non)) (tCall (sp_is_within K) [] E0 (tCons (tOp (rIx K) (tVar 0) (tC (.int 4))) (tCons (tC (.int 1)) (tCons (tC (.int 100)) tNil))))))))
theorem len_is_pass {K : PySem.W.Frag} : ∀ vs H Q E, sp_is_pass K vs H Q E → vs.length = 1 := spR_len fun ds d ⟨x, h, _⟩ => by rw [h]; rfl
theorem within_int {x : PyData} {lo hi : Int} (h : withinD x lo hi = true) : x = .int (intOf x) ∧ lo ≤ intOf x ∧ intOf x ≤ hi := by
  unfold withinD at h
  rw [Bool.and_eq_true, Bool.and_eq_true, Bool.and_eq_true, decide_eq_true_eq, decide_eq_true_eq] at h
  exact ⟨int_of h.1 h.2.1, h.2.2.1, h.2.2.2⟩
theorem pure_is_pass {K : PySem.W.Frag} : ∀ vs H Q E, sp_is_pass K vs H Q E → t_is_pass K { nx := fun _ H' => Q .non H', rt := Q } (L2.start ns_is_pass vs) H := pure_in fun vs ds d W G D da hr hret hn => by
  obtain ⟨x, rfl, hs, rfl⟩ := hr
  obtain ⟨v0, rfl, h0⟩ := da.one_inv
  refine q_when (b := pass1 x) ?_ (fun hb => ?_) (fun hb => ?_)
  · refine et_or (et_not (et_B (K := K) (by walk_at "ev"))) fun a1 => ?_
    have ex := tup_of (nf a1)
    rw [ex] at h0 hs
    obtain ⟨_, hm⟩ := sm_tup hs
    refine et_or (et_test (K := K) (by walk_at "ev")) fun a2 => ?_
    have hl : (itemsOf x).length = 5 := by
      have := of_decide_eq_true (nf a2)
      omega
    refine et_or (et_not (et_B (K := K) (ev_call (ea_cons (ev_op (ev_var rfl h0) ev_int (rd_ixTg (n := 0) (by omega))) ea_nil) ⟨_, rfl, smL_getD hm 0, rfl⟩))) fun a3 => ?_
    exact et_not (et_B (K := K) (ev_call (ea_cons (ev_op (ev_var rfl h0) ev_int (rd_ixTg (n := 1) (by omega))) ea_nil) ⟨_, rfl, smL_getD hm 1, rfl⟩))
  · refine sx_ret (K := K) hret ev_bl (fun v G' e dv => ?_)
    have e0 : passD x = false := by unfold passD; rw [hb]; rfl
    rw [e0]; exact dv
  have hb2 := hb
  unfold pass1 at hb2
  simp only [Bool.or_eq_false_iff] at hb2
  obtain ⟨b1, b2, _⟩ := hb2
  have ex := tup_of (nf b1)
  have hl : (itemsOf x).length = 5 := by
    have := of_decide_eq_true (nf b2)
    omega
  rw [ex] at h0
  refine q_when (b := pass2 x) ?_ (fun hb3 => ?_) (fun hb3 => ?_)
  · refine et_or (et_not (et_B (K := K) (ev_call (ea_cons (ev_op (ev_var rfl h0) ev_int (rd_ixTg (n := 2) (by omega))) (ea_cons ev_int (ea_cons ev_int ea_nil))) ⟨_, 0, _, rfl, rfl⟩))) fun a1 => ?_
    have e2 := (within_int (nf a1)).1
    refine et_not (et_B (K := K) (ev_call (ea_cons (ev_op (ev_var rfl h0) ev_int (rd_ixTg (n := 3) (by omega))) (ea_cons (ev_is (ev_op (ev_var rfl h0) ev_int (rd_ixTg (n := 2) (by omega))) e2) (ea_cons ev_int ea_nil))) ⟨_, _, _, rfl, rfl⟩))
  · refine sx_ret (K := K) hret ev_bl (fun v G' e dv => ?_)
    have e0 : passD x = false := by unfold passD; rw [hb3, Bool.not_true, Bool.false_and, Bool.and_false]
    rw [e0]; exact dv
  · have e0 : passD x = (isN ((itemsOf x).getD 4 .none) || withinD ((itemsOf x).getD 4 .none) 1 100) := by unfold passD; rw [hb, hb3]; rfl
    rw [e0] at hret
    refine sx_ret hret (ev_or (ev_op (ev_op (ev_var rfl h0) ev_int (rd_ixTg (n := 4) (by omega))) ev_non rd_isN) fun _ => ?_) (fun v G' e dv => dv)
    exact ev_call (ea_cons (ev_op (ev_var rfl h0) ev_int (rd_ixTg (n := 4) (by omega))) (ea_cons ev_int (ea_cons ev_int ea_nil))) ⟨_, 1, 100, rfl, rfl⟩
/-! # a pass by its parts -/
structure Card where
  who : Str
  gates : List Str
  first : Int
  last : Int
  times : Option Int
def timesD : Option Int → PyData
  | none => .none
  | some i => .int i
def Card.enc (c : Card) : PyData := .tuple [.str c.who, .tuple (c.gates.map .str), .int c.first, .int c.last, timesD c.times]
structure Card.Ok (c : Card) : Prop where
  nm : nameS c.who = true
  gn : ∀ g ∈ c.gates, nameS g = true
  ri : risesS c.gates = true
  gl : c.gates.length ≤ 8
  f0 : 0 ≤ c.first
  fl : c.first ≤ c.last
  l1 : c.last ≤ 1000000000000
  tm : ∀ t, c.times = some t → 1 ≤ t ∧ t ≤ 100
def timesB (o : Option Int) (used : Int) : Bool := match o with
  | none => true
  | some t => decide (used < t)
def notBy (c : Card) (who gate : Str) : Bool := !decide (who = c.who) || (!c.gates.isEmpty && !decide (gate ∈ c.gates))
def letsB (c : Card) (who gate : Str) (hour used : Int) : Bool := !notBy c who gate && ((decide (c.first ≤ hour) && decide (hour ≤ c.last)) && timesB c.times used)
def letsR (ds : List PyData) (d : PyData) : Prop := ∃ (c : Card) (who gate : Str) (hour used : Int), ds = [c.enc, .str who, .str gate, .int hour, .int used] ∧ c.Ok ∧ d = .bool (letsB c who gate hour used)
def sp_lets (K : PySem.W.Frag) : Sp := spR K letsR
abbrev ns_lets : List Str := ["card", "who", "gate", "hour", "used", "bearer", "gates", "first", "last", "times"]
abbrev ps_lets : List Str := ["card", "who", "gate", "hour", "used"]
def t_lets (K : PySem.W.Frag) : TS :=
  (tSeq (tAsg (tVar 0) (gTup K 5 (gCons (gName 5) (gCons (gName 6) (gCons (gName 7) (gCons (gName 8) (gCons (gName 9) gNil))))))) (tSeq (tIfS (tOr (tTest (tOp (kNe K) (tVar 1) (tVar 5))) (tAnd (tTest (tOp (kNe K) (tVar 6) (tTup tNil))) (tTest (tOp (kNotIn K) (tVar 2) (tVar 6))))) (tRet (tC (.bl false))) tNext) (tRet (tAndV (tChain kLe kLe (tVar 7) (tVar 3) (tVar 8)) (tOrV (tOp kIsN (tVar 9) (tC .non)) (tOp (kLt K) (tVar 4) (tVar 9)))))))
theorem len_lets {K : PySem.W.Frag} : ∀ vs H Q E, sp_lets K vs H Q E → vs.length = 5 := spR_len fun ds d ⟨_, _, _, _, _, h, _⟩ => by rw [h]; rfl
theorem eqv_nilT (ds : List PyData) : PyData.eqv (.tuple ds) (.tuple []) = ds.isEmpty := by
  cases ds with
  | nil => rfl
  | cons a r => rfl
theorem sh_names {ss : List Str} (h : ∀ g ∈ ss, nameS g = true) : Sh 64 (.tuple (ss.map .str)) := (sh_tuple (n := 0) (sh_map fun g hg => sh_str (lay_name (h g hg)).2)).mono (by decide)
theorem DaL.five_inv {K : PySem.W.Frag} {H : Hp} {vs : List V} {a b c d e : PyData} (h : DaL K H vs [a, b, c, d, e]) : ∃ v0 v1 v2 v3 v4, vs = [v0, v1, v2, v3, v4] ∧ Da K H v0 a ∧ Da K H v1 b ∧ Da K H v2 c ∧ Da K H v3 d ∧ Da K H v4 e := by
  obtain ⟨v0, _, rfl, h0, h⟩ := h.cons_inv
  obtain ⟨v1, _, rfl, h1, h⟩ := h.cons_inv
  obtain ⟨v2, v3, v4, rfl, h2, h3, h4⟩ := h.three_inv
  exact ⟨v0, v1, v2, v3, v4, rfl, h0, h1, h2, h3, h4⟩
theorem ev_times {K : PySem.W.Frag} {σ : L2.St} {G : Hp} {o : Option Int} {ta tb : TE} {used : Int} (h : EvD K ta σ G (timesD o)) (hb : ∀ t, o = some t → EvD K tb σ G (.bool (decide (used < t)))) : EvD K (tOrV (tOp kIsN ta (tC .non)) tb) σ G (.bool (timesB o used)) := by
  cases o with
  | none => exact ev_is (ev_or (y := true) (ev_op h ev_non rd_isN) fun z => nomatch z) rfl
  | some t => exact ev_is (ev_or (ev_op h ev_non rd_isN) fun _ => hb t rfl) rfl
theorem pure_lets {K : PySem.W.Frag} : ∀ vs H Q E, sp_lets K vs H Q E → t_lets K { nx := fun _ H' => Q .non H', rt := Q } (L2.start ns_lets vs) H := pure_in fun vs ds d W G D da hr hret hn => by
  obtain ⟨c, who, gate, hour, used, rfl, ok, rfl⟩ := hr
  obtain ⟨v0, v1, v2, v3, v4, rfl, h0, h1, h2, h3, h4⟩ := da.five_inv
  refine q_asgG (sw_ev (K := K) (ev_var rfl h0) fun v G' e dv => gx_tup5 dv fun x y z u t hx hy hz hu ht => ?_)
  have h1 := h1.mono e
  have h2 := h2.mono e
  have h3 := h3.mono e
  have h4 := h4.mono e
  show Sx W _ D [some v0, some v1, some v2, some v3, some v4, some x, some y, some z, some u, some t] G' []
  refine q_when (b := notBy c who gate) (et_or (et_test (K := K) (ev_op (ev_var rfl h1) (ev_var rfl hx) rd_neS)) fun _ => et_and (et_is (et_test (K := K) (ev_op (ev_var rfl hy) (ev_tup ea_nil (Nat.zero_le _)) (rd_neD (sh_names ok.gn) ((sh_tuple (n := 0) sh_nil).mono (by decide))))) (by rw [eqv_nilT, List.isEmpty_map])) fun _ => et_test (K := K) (ev_op (ev_var rfl h2) (ev_var rfl hy) rd_notInTS)) (fun hb => ?_) (fun hb => ?_)
  · refine sx_ret (K := K) hret ev_bl (fun v G' e dv => ?_)
    have e0 : letsB c who gate hour used = false := by unfold letsB; rw [hb]; rfl
    rw [e0]; exact dv
  · have e0 : letsB c who gate hour used = ((decide (c.first ≤ hour) && decide (hour ≤ c.last)) && timesB c.times used) := by unfold letsB; rw [hb]; rfl
    rw [e0] at hret
    refine sx_ret hret (ev_and (ev_chain (ev_var rfl hz) (ev_var rfl h3) rd_le (fun _ => ev_var rfl hu) (fun _ => rd_le)) fun _ => ev_times (ev_var rfl ht) fun i hi => ?_) (fun v G' e dv => dv)
    rw [hi] at ht
    exact ev_op (ev_var rfl h4) (ev_var rfl ht) rd_lt
/-! # _law_lets, _law_is_pass -/
def sp__law_lets (K : PySem.W.Frag) : Sp := spR K letsR
abbrev ns__law_lets : List Str := ["card", "who", "gate", "hour", "used"]
abbrev ps__law_lets : List Str := ["card", "who", "gate", "hour", "used"]
def t__law_lets (K : PySem.W.Frag) : TS :=
  (tSeq (tIfS (tOr (tTest (tOp (kNe K) (tOp (rIx K) (tVar 0) (tC (.int 0))) (tVar 1))) (tAnd (tTest (tOp (kNe K) (tOp (rIx K) (tVar 0) (tC (.int 1))) (tTup tNil))) (tTest (tOp (kNotIn K) (tVar 2) (tOp (rIx K) (tVar 0) (tC (.int 1))))))) (tRet (tC (.bl false))) tNext) (tSeq (tIfS (tOr (tTest (tOp (kLt K) (tVar 3) (tOp (rIx K) (tVar 0) (tC (.int 2))))) (tTest (tOp kGt (tVar 3) (tOp (rIx K) (tVar 0) (tC (.int 3)))))) (tRet (tC (.bl false))) tNext) (tRet (tOrV (tOp kIsN (tOp (rIx K) (tVar 0) (tC (.int 4))) (tC .non)) (tOp kGt (tOp (rIx K) (tVar 0) (tC (.int 4))) (tVar 4))))))
theorem len__law_lets {K : PySem.W.Frag} : ∀ vs H Q E, sp__law_lets K vs H Q E → vs.length = 5 := spR_len fun ds d ⟨_, _, _, _, _, h, _⟩ => by rw [h]; rfl
theorem pure__law_lets {K : PySem.W.Frag} : ∀ vs H Q E, sp__law_lets K vs H Q E → t__law_lets K { nx := fun _ H' => Q .non H', rt := Q } (L2.start ns__law_lets vs) H := pure_in fun vs ds d W G D da hr hret hn => by
  obtain ⟨c, who, gate, hour, used, rfl, ok, rfl⟩ := hr
  obtain ⟨v0, v1, v2, v3, v4, rfl, h0, h1, h2, h3, h4⟩ := da.five_inv
  have p0 : EvD K (tOp (rIx K) (tVar 0) (tC (.int 0))) (L2.start ns__law_lets [v0, v1, v2, v3, v4]) G (.str c.who) := ev_op (ev_var rfl h0) ev_int (rd_ixT rfl)
  have p1 : EvD K (tOp (rIx K) (tVar 0) (tC (.int 1))) (L2.start ns__law_lets [v0, v1, v2, v3, v4]) G (.tuple (c.gates.map .str)) := ev_op (ev_var rfl h0) ev_int (rd_ixT rfl)
  have p2 : EvD K (tOp (rIx K) (tVar 0) (tC (.int 2))) (L2.start ns__law_lets [v0, v1, v2, v3, v4]) G (.int c.first) := ev_op (ev_var rfl h0) ev_int (rd_ixT rfl)
  have p3 : EvD K (tOp (rIx K) (tVar 0) (tC (.int 3))) (L2.start ns__law_lets [v0, v1, v2, v3, v4]) G (.int c.last) := ev_op (ev_var rfl h0) ev_int (rd_ixT rfl)
  have p4 : EvD K (tOp (rIx K) (tVar 0) (tC (.int 4))) (L2.start ns__law_lets [v0, v1, v2, v3, v4]) G (timesD c.times) := ev_op (ev_var rfl h0) ev_int (rd_ixT rfl)
  have ew : (!decide (c.who = who)) = !decide (who = c.who) := by
    congr 1
    exact decide_eq_decide.mpr ⟨Eq.symm, Eq.symm⟩
  refine q_when (b := notBy c who gate) (et_or (et_is (et_test (K := K) (ev_op p0 (ev_var rfl h1) rd_neS)) ew) fun _ => et_and (et_is (et_test (K := K) (ev_op p1 (ev_tup ea_nil (Nat.zero_le _)) (rd_neD (sh_names ok.gn) ((sh_tuple (n := 0) sh_nil).mono (by decide))))) (by rw [eqv_nilT, List.isEmpty_map])) fun _ => et_test (K := K) (ev_op (ev_var rfl h2) p1 rd_notInTS)) (fun hb => ?_) (fun hb => ?_)
  · refine sx_ret (K := K) hret ev_bl (fun v G' e dv => ?_)
    have e0 : letsB c who gate hour used = false := by unfold letsB; rw [hb]; rfl
    rw [e0]; exact dv
  have e0 : letsB c who gate hour used = ((decide (c.first ≤ hour) && decide (hour ≤ c.last)) && timesB c.times used) := by unfold letsB; rw [hb]; rfl
  rw [e0] at hret
  refine q_when (b := decide (hour < c.first) || decide (hour > c.last)) (et_or (et_test (K := K) (ev_op (ev_var rfl h3) p2 rd_lt)) fun _ => et_test (K := K) (ev_op (ev_var rfl h3) p3 rd_gt)) (fun hb => ?_) (fun hb => ?_)
  · rw [Bool.or_eq_true, decide_eq_true_eq, decide_eq_true_eq] at hb
    refine sx_ret (K := K) hret ev_bl (fun v G' e dv => ?_)
    have e1 : (decide (c.first ≤ hour) && decide (hour ≤ c.last)) = false := by
      rcases hb with h | h
      · rw [decide_eq_false (show ¬ c.first ≤ hour by omega)]; rfl
      · rw [decide_eq_false (show ¬ hour ≤ c.last by omega), Bool.and_false]
    rw [e1]; exact dv
  · rw [Bool.or_eq_false_iff, decide_eq_false_iff_not, decide_eq_false_iff_not] at hb
    rw [decide_eq_true (show c.first ≤ hour by omega), decide_eq_true (show hour ≤ c.last by omega), Bool.and_self, Bool.true_and] at hret
    refine sx_ret hret (ev_times p4 fun i hi => ?_) (fun v G' e dv => dv)
    rw [hi] at p4
    exact ev_op p4 (ev_var rfl h4) rd_gt
def sp__law_is_pass (K : PySem.W.Frag) : Sp := spR K fun ds d => ∃ x, ds = [x] ∧ Fit 50000 60 x ∧ d = .bool (passD x)
abbrev ns__law_is_pass : List Str := ["thing", "one"]
abbrev ps__law_is_pass : List Str := ["thing"]
def t__law_is_pass (K : PySem.W.Frag) : TS :=
  (tSeq (tIfS (tOr (tNot (tB (tIsi K (tVar 0) "tuple"))) (tOr (tTest (tOp (kNe K) (tCB (kLen K) (tCons (tVar 0) tNil)) (tC (.int 5)))) (tNot (tB (tCall (sp__law_is_name K) [] E0 (tCons (tOp (rIx K) (tVar 0) (tC (.int 0))) tNil)))))) (tRet (tC (.bl false))) tNext) (tSeq (tIfS (tOr (tNot (tB (tIsi K (tOp (rIx K) (tVar 0) (tC (.int 1))) "tuple"))) (tTest (tOp (kNe K) (tLc (iSeq K (tOp (rIx K) (tVar 0) (tC (.int 1)))) (gName 1) (tNot (tB (tCall (sp__law_is_name K) [] E0 (tCons (tVar 1) tNil)))) (tVar 1) [1]) (tLst tNil)))) (tRet (tC (.bl false))) tNext) (tSeq (tIfS (tOr (tNot (tB (tCall (sp__law_rises K) [] E0 (tCons (tOp (rIx K) (tVar 0) (tC (.int 1))) tNil)))) (tNot (tB (tCall (sp__law_is_number K) [] E0 (tCons (tOp (rIx K) (tVar 0) (tC (.int 2))) (tCons (tC (.int 0)) (tCons (tOp kPow (tC (.int 10)) (tC (.int 12))) tNil))))))) (tRet (tC (.bl false))) tNext) (tSeq (tIfS (tNot (tB (tCall (sp__law_is_number K) [] E0 (tCons (tOp (rIx K) (tVar 0) (tC (.int 3))) (tCons (tOp (rIx K) (tVar 0) (tC (.int 2))) (tCons (tOp kPow (tC (.int 10)) (tC (.int 12))) tNil)))))) (tRet (tC (.bl false))) tNext) (tRet (tOrV (tOp kIsN (tOp (rIx K) (tVar 0) (tC (.int 4))) (tC .non)) (tCall (sp__law_is_number K) [] E0 (tCons (tOp (rIx K) (tVar 0) (tC (.int 4))) (tCons (tC (.int 1)) (tCons (tC (.int 100)) tNil))))))))))
theorem len__law_is_pass {K : PySem.W.Frag} : ∀ vs H Q E, sp__law_is_pass K vs H Q E → vs.length = 1 := spR_len fun ds d ⟨x, h, _⟩ => by rw [h]; rfl
theorem filter_all (ds : List PyData) : (ds.filter fun d => !nameD d).isEmpty = ds.all nameD := by
  induction ds with
  | nil => rfl
  | cons a r ih =>
    rw [List.all_cons, List.filter_cons]
    cases nameD a with
    | true => rw [Bool.true_and, ← ih]; rfl
    | false => rfl
theorem pure__law_is_pass {K : PySem.W.Frag} : ∀ vs H Q E, sp__law_is_pass K vs H Q E → t__law_is_pass K { nx := fun _ H' => Q .non H', rt := Q } (L2.start ns__law_is_pass vs) H := pure_in fun vs ds d W G D da hr hret hn => by
  obtain ⟨x, rfl, hf, rfl⟩ := hr
  obtain ⟨v0, rfl, h0⟩ := da.one_inv
  obtain ⟨hlen, hfi⟩ := Fit.itms (k := 59) hf
  have no : passD x = false → ∀ {D' : Ends}, D'.rt = D.rt → Sx W (tRet (tC (.bl false))) D' (L2.start ns__law_is_pass [v0]) G [] := fun h D' e => sx_ret (K := K) (fun v G' M' H' w hr => by rw [e]; exact hret v G' M' H' w hr) ev_bl fun v G' e dv => by rw [h]; exact dv
  refine q_when (b := !isTup x || (!decide (((itemsOf x).length : Int) = 5) || !nameD ((itemsOf x).getD 0 .none))) ?_ (fun hb => ?_) (fun hb => ?_)
  · refine et_or (et_not (et_B (K := K) (by walk_at "ev"))) fun a1 => ?_
    have ex := tup_of (nf a1)
    rw [ex] at h0
    refine et_or (et_test (K := K) (by walk_at "ev")) fun a2 => ?_
    have hl : (itemsOf x).length = 5 := by
      have := of_decide_eq_true (nf a2)
      omega
    exact et_not (et_B (K := K) (ev_call (ea_cons (ev_op (ev_var rfl h0) ev_int (rd_ixTg (n := 0) (by omega))) ea_nil) ⟨_, rfl, (fit_getD hfi).mono (Nat.le_refl _) (by decide), rfl⟩))
  · refine no ?_ rfl
    unfold passD pass1
    rw [Bool.or_eq_true, Bool.or_eq_true] at hb
    rcases hb with h | h | h
    · rw [h]; rfl
    · rw [h, Bool.true_or, Bool.or_true]; rfl
    · rw [h, Bool.true_or, Bool.or_true, Bool.or_true]; rfl
  simp only [Bool.or_eq_false_iff] at hb
  obtain ⟨c1, c2, c3⟩ := hb
  have ex := tup_of (nf c1)
  have hl : (itemsOf x).length = 5 := by
    have := of_decide_eq_true (nf c2)
    omega
  rw [ex] at h0
  have pt : ∀ (n : Nat) (i : Int), i = (n : Int) → n < 5 → EvD K (tOp (rIx K) (tVar 0) (tC (.int i))) (L2.start ns__law_is_pass [v0]) G ((itemsOf x).getD n .none) := fun n i hi hn => by
    subst hi
    exact ev_op (ev_var rfl h0) ev_int (rd_ixTg (n := n) (by omega))
  generalize hx1 : (itemsOf x).getD 1 .none = x1 at *
  have f1 : Fit 50000 59 x1 := by rw [← hx1]; exact fit_getD hfi
  obtain ⟨hl1, hfi1⟩ := Fit.itms (k := 58) f1
  refine q_when (b := !isTup x1 || !(itemsOf x1).all nameD) ?_ (fun hb => ?_) (fun hb => ?_)
  · refine et_or (et_not (et_B (K := K) (ev_isiT (ev_is (pt 1 1 rfl (by decide)) hx1)))) fun a1 => ?_
    have e1 := tup_of (nf a1)
    have ei : (itemsOf x1) = (itemsOf x1).map id := (List.map_id _).symm
    refine et_is (et_test (K := K) (ev_op (a := .list (((itemsOf x1).filter fun d => !nameD d).map id)) (ev_lcF (K := K) (itemsOf x1) id (fun d => !nameD d) id (by rw [← ei]; exact it_tup (ev_is (pt 1 1 rfl (by decide)) (by rw [hx1]; exact e1))) hl1 (fun _ => rfl) (fun d hd v G' e dv => et_not (et_B (K := K) (ev_call (ea_cons (ev_var rfl dv) ea_nil) ⟨_, rfl, (hfi1 d hd).mono (Nat.le_refl _) (by decide), rfl⟩))) (fun d hd v G' e dv _ => ev_var rfl dv)) (ev_lst ea_nil (Nat.zero_le _)) (rd_neD ((sh_list (n := 58) fun d hd => ?_).mono (by decide)) ((sh_list (n := 0) sh_nil).mono (by decide))))) ?_
    · rw [List.map_id] at hd
      exact (hfi1 d (List.mem_filter.mp hd).1).sh
    · rw [eqv_nil, List.map_id, filter_all]
  · refine no ?_ rfl
    unfold passD pass1 namesD
    rw [hx1]
    rw [Bool.or_eq_true, Bool.not_eq_true', Bool.not_eq_true'] at hb
    rcases hb with h | h
    · rw [h, Bool.false_and, Bool.not_false, Bool.or_true, Bool.or_true, Bool.or_true]; rfl
    · rw [h, Bool.false_and, Bool.and_false, Bool.not_false, Bool.or_true, Bool.or_true, Bool.or_true]; rfl
  rw [Bool.or_eq_false_iff] at hb
  obtain ⟨d1, d2⟩ := hb
  have e1 := tup_of (nf d1)
  have d2 := nf d2
  have hst := names_strs d2
  have hp1 : pass1 x = !risesS ((itemsOf x1).map strOf) := by
    unfold pass1 namesD
    rw [hx1, c1, c2, c3, nf d1, d2]; rfl
  refine q_when (b := !risesS ((itemsOf x1).map strOf) || !withinD ((itemsOf x).getD 2 .none) 0 1000000000000) (et_or (et_not (et_B (K := K) (ev_call (ea_cons (ev_is (d' := .tuple (((itemsOf x1).map strOf).map .str)) (pt 1 1 rfl (by decide)) (by rw [hx1, ← hst]; exact e1)) ea_nil) ⟨(itemsOf x1).map strOf, .inr rfl, by rw [List.length_map]; exact hl1, rfl⟩))) fun _ => et_not (et_B (K := K) (ev_call (ea_cons (pt 2 2 rfl (by decide)) (ea_cons ev_int (ea_cons (ev_op ev_int ev_int (rd_pow ⟨by decide, by decide, by decide⟩)) ea_nil))) ⟨_, 0, _, rfl, rfl⟩))) (fun hb => ?_) (fun hb => ?_)
  · refine no ?_ rfl
    unfold passD pass2
    rw [hp1]
    rw [Bool.or_eq_true] at hb
    rcases hb with h | h
    · rw [h]; rfl
    · rw [h, Bool.true_or, Bool.not_true, Bool.false_and, Bool.and_false]
  rw [Bool.or_eq_false_iff] at hb
  have e2 := (within_int (nf hb.2)).1
  refine q_when (b := !withinD ((itemsOf x).getD 3 .none) (intOf ((itemsOf x).getD 2 .none)) 1000000000000) (et_not (et_B (K := K) (ev_call (ea_cons (pt 3 3 rfl (by decide)) (ea_cons (ev_is (pt 2 2 rfl (by decide)) e2) (ea_cons (ev_op ev_int ev_int (rd_pow ⟨by decide, by decide, by decide⟩)) ea_nil))) ⟨_, _, _, rfl, rfl⟩))) (fun hb3 => ?_) (fun hb3 => ?_)
  · refine no ?_ rfl
    unfold passD pass2
    rw [hb3, Bool.or_true, Bool.not_true, Bool.false_and, Bool.and_false]
  · have e0 : passD x = (isN ((itemsOf x).getD 4 .none) || withinD ((itemsOf x).getD 4 .none) 1 100) := by
      unfold passD pass2
      rw [hp1, hb.1, hb.2, hb3]; rfl
    rw [e0] at hret
    refine sx_ret hret (ev_or (ev_op (pt 4 4 rfl (by decide)) ev_non rd_isN) fun _ => ?_) (fun v G' e dv => dv)
    exact ev_call (ea_cons (pt 4 4 rfl (by decide)) (ea_cons ev_int (ea_cons ev_int ea_nil))) ⟨_, 1, 100, rfl, rfl⟩
/-! # _law_pass -/
section
variable {W : Ent} {D : Ends} {σ : L2.St} {G : Hp} {M : Mem} {tt : TT} {t tz : TS}
theorem q_whenA (R : L2.St → Hp → Mem → Prop) (rest : ∀ σ G M, R σ G M → Sx W tz D σ G M) (h : Swt W tt σ G M fun b G' M' => (b = true → (∀ σ1 G1 M1, R σ1 G1 M1 → Nx W { D with nx := tz D } σ1 G1 M1) → Sx W t { D with nx := tz D } σ G' M') ∧ (b = false → R σ G' M')) : Sx W (tSeq (tIfS tt t tNext) tz) D σ G M :=
  q_whenW fun H w Q q => h H w Q fun b G' M' H' w' ⟨h1, h2⟩ => q b G' M' H' w' ⟨fun hb => h1 hb fun σ1 G1 M1 r H1 w1 => rest σ1 G1 M1 r H1 w1, fun hb => rest _ _ _ (h2 hb)⟩
end
theorem rises_sub {ss zs : List Str} (h : ss.Sublist zs) (hz : risesS zs = true) : risesS ss = true := by
  have hp := (rises_pw hz).sublist h
  clear hz h
  induction ss with
  | nil => rfl
  | cons x r ih =>
    cases r with
    | nil => rfl
    | cons y r2 =>
      rw [rises_cons, Bool.and_eq_true]
      obtain ⟨h1, h2⟩ := List.pairwise_cons.mp hp
      exact ⟨decide_eq_true (h1 y List.mem_cons_self), ih h2⟩
def passPre (ds : List PyData) : Prop := ∃ (t : List Gate) (m : Int), ds = [townEnc t] ∧ TownL t m ∧ m ≤ 7
def sp__law_pass (K : PySem.W.Frag) : Sp := spB K 60 passPre fun _ d => ∃ c : Card, d = c.enc ∧ c.Ok
abbrev ns__law_pass : List Str := ["bag", "town", "gates", "first", "last", "times", "gate"]
abbrev ps__law_pass : List Str := ["bag", "town"]
def t__law_pass (K : PySem.W.Frag) : TS :=
  (tSeq (tAsg (tOp kMul (tLc (iSeq K (tVar 1)) (gName 6) (tTest (tOp (kEq K) (tCall (sp__law_take K) [] E0 (tCons (tVar 0) (tCons (tC (.int 2)) tNil))) (tC (.int 0)))) (tOp (rIx K) (tVar 6) (tC (.int 0))) [6]) (tCB kInt (tCons (tOp kGt (tCall (sp__law_take K) [] E0 (tCons (tVar 0) (tCons (tC (.int 3)) tNil))) (tC (.int 0))) tNil))) (gName 2)) (tSeq (tIfS (tTest (tOp (kEq K) (tCall (sp__law_take K) [] E0 (tCons (tVar 0) (tCons (tC (.int 9)) tNil))) (tC (.int 0)))) (tAsg (tSortS K (tOp (kAdd K) (tVar 2) (tLst (tCons (tC (.str "zz")) tNil)))) (gName 2)) tNext) (tSeq (tAsg (tOp (rIx K) (tLst (tCons (tCall (sp__law_take K) [] E0 (tCons (tVar 0) (tCons (tC (.int 40)) tNil))) (tCons (tCall (sp__law_far K) [] E0 (tCons (tVar 0) tNil)) tNil))) (tOp kDiv (tCall (sp__law_take K) [] E0 (tCons (tVar 0) (tCons (tC (.int 6)) tNil))) (tC (.int 5)))) (gName 3)) (tSeq (tAsg (tCB kMin2 (tCons (tOp kPow (tC (.int 10)) (tC (.int 12))) (tCons (tOp (kAdd K) (tVar 3) (tOp (rIx K) (tLst (tCons (tCall (sp__law_take K) [] E0 (tCons (tVar 0) (tCons (tC (.int 60)) tNil))) (tCons (tOp kPow (tC (.int 10)) (tC (.int 6))) tNil))) (tOp kDiv (tCall (sp__law_take K) [] E0 (tCons (tVar 0) (tCons (tC (.int 4)) tNil))) (tC (.int 3))))) tNil))) (gName 4)) (tSeq (tAsg (tOp (rIx K) (tLst (tCons (tC .non) (tCons (tC (.int 1)) (tCons (tOp (kAdd K) (tC (.int 1)) (tCall (sp__law_take K) [] E0 (tCons (tVar 0) (tCons (tC (.int 3)) tNil)))) (tCons (tC (.int 100)) tNil))))) (tCall (sp__law_take K) [] E0 (tCons (tVar 0) (tCons (tC (.int 4)) tNil)))) (gName 5)) (tRet (tTup (tCons (tCall (sp__law_name K) [] E0 (tCons (tVar 0) tNil)) (tCons (tCB (kTuple K) (tCons (tVar 2) tNil)) (tCons (tVar 3) (tCons (tVar 4) (tCons (tVar 5) tNil))))))))))))
theorem len__law_pass {K : PySem.W.Frag} : ∀ vs H Q E, sp__law_pass K vs H Q E → vs.length = 2 := spB_len (n := 1) fun ds ⟨_, _, h, _⟩ => by rw [h]; rfl
theorem pure__law_pass {K : PySem.W.Frag} : ∀ vs H Q E, sp__law_pass K vs H Q E → t__law_pass K { nx := fun _ H' => Q .non H', rt := Q } (L2.start ns__law_pass vs) H := bag_in fun p b n ws ds W G D hb hn da hp hret => by
  obtain ⟨t, m, rfl, tl, hm7⟩ := hp
  obtain ⟨v1, rfl, h1⟩ := da.one_inv
  have ht7 : t.length ≤ 7 := by have := tl.lm; omega
  refine q_asgW (sw_op (sw_lc (K := K) (fun ds G1 M1 => ds = t.map Gate.enc ∧ Ex G G1 ∧ M1 = [(p, .lst b)]) (itw_d (it_tup (ev_var rfl h1)) fun G' e => ⟨rfl, e, rfl⟩) ?_))
  rintro ds G1 M1 ⟨rfl, e1, rfl⟩
  refine ⟨fun i acc _ M => ∃ b2 ss, M = [(p, .lst b2)] ∧ BagOk (n + i) b2 ∧ acc = ss.map V.str ∧ ss.Sublist ((t.take i).map Gate.name), ⟨b, [], rfl, hb, rfl, List.nil_sublist _⟩, ?_, ?_⟩
  · rintro i d v acc Ga G' M Dl hd ee ⟨b2, ss, rfl, hb2, rfl, hsub⟩ e2 dv nD
    rw [List.getElem?_map] at hd
    cases hi : t[i]? with
    | none => rw [hi] at hd; cases hd
    | some g =>
    rw [hi] at hd
    cases hd
    have hil : i < t.length := (List.getElem?_eq_some_iff.mp hi).1
    have hsl : ss.length ≤ i := by
      have := hsub.length_le
      rw [List.length_map, List.length_take] at this
      omega
    have etk : (t.take (i + 1)).map Gate.name = (t.take i).map Gate.name ++ [g.name] := by
      rw [List.take_succ, hi, List.map_append]; rfl
    refine gx_name ⟨rfl, swt_test (sw_op (sw_take 1 rfl ev_int rfl hb2 (by omega) (by decide) (by decide) fun r b3 r0 r1 hb3 => sw_int (K := K) ev_int (rw_bool (K := K) rd_eqI (.int _) (.int _) ⟨_, rfl, fun _ => ?_, fun _ => ?_⟩)))⟩
    · refine sw_str (K := K) (x := g.name) (ev_op (ev_var rfl dv) ev_int (rd_ixT rfl)) ⟨[(p, .lst b3)], rfl, by rw [List.length_map]; omega, e2, b3, ss ++ [g.name], rfl, hb3, by rw [List.map_append]; rfl, ?_⟩
      rw [etk]
      exact hsub.append (List.Sublist.refl _)
    · refine ⟨[(p, .lst b3)], rfl, e2, b3, ss, rfl, hb3, rfl, ?_⟩
      rw [etk]
      exact hsub.trans (List.sublist_append_left _ _)
  rintro acc G2 M2 q e2 ⟨b2, ss, rfl, hb2, rfl, hsub⟩ nq
  rw [List.length_map, List.take_length] at *
  have hsl : ss.length ≤ 7 := by
    have := hsub.length_le
    rw [List.length_map] at this
    omega
  have hsr : risesS ss = true := rises_sub hsub tl.ri
  have hsn : ∀ s ∈ ss, nameS s = true := fun s hs => by
    obtain ⟨g, hg, rfl⟩ := List.mem_map.mp (hsub.subset hs)
    exact (tl.gs g hg).nm
  refine sw_settle 0 rfl nq ?_
  have dq : Da K (upd G2 q (.lst (ss.map V.str))) (.ref q) (.list (ss.map .str)) := .lst upd_same (DaL.ofStrs ss)
  refine sw_cb (swa_cons (sw_op (sw_take 0 rfl ev_int rfl hb2 (by omega) (by decide) (by decide) fun r b3 r0 r1 hb3 => sw_int (K := K) ev_int (rw_bool (K := K) rd_gt (.int _) (.int _) (swa_nil (rwa_int (K := K) ra_intB (.one (.bl _)) ?_))))))
  generalize hcc : decide (r > 0) = cc
  refine rw_rd (K := K) (rd_rep cc (by rw [List.length_map]; omega)) dq (.int _) fun v3 G3 e3 dv3 => ?_
  have hg0 : ∃ s0 : List Str, Da K G3 v3 (.list (s0.map .str)) ∧ risesS s0 = true ∧ (∀ s ∈ s0, nameS s = true) ∧ s0.length ≤ 7 := by
    cases cc with
    | true => exact ⟨ss, dv3, hsr, hsn, hsl⟩
    | false => exact ⟨[], dv3, rfl, (fun _ h => nomatch h), Nat.zero_le _⟩
  obtain ⟨s0, dg0, hr0, hn0, hl0⟩ := hg0
  show Sx W _ D [some (.ref p), some v1, some v3, none, none, none, none] G3 [(p, .lst b3)]
  refine q_whenA (fun σ G M => ∃ v s1 b4, σ = [some (.ref p), some v1, some v, none, none, none, none] ∧ M = [(p, .lst b4)] ∧ BagOk (n + t.length + 2) b4 ∧ Da K G v (.list (s1.map .str)) ∧ risesS s1 = true ∧ (∀ s ∈ s1, nameS s = true) ∧ s1.length ≤ 8) ?_ (swt_test (sw_op (sw_take 0 rfl ev_int rfl hb3 (by omega) (by decide) (by decide) fun r4 b4 r40 r41 hb4 => sw_int (K := K) ev_int (rw_bool (K := K) rd_eqI (.int _) (.int _) ⟨_, rfl, fun _ go => ?_, fun _ => ⟨v3, s0, b4, rfl, rfl, hb4, dg0, hr0, hn0, by omega⟩⟩))))
  · rintro σ G4 M ⟨v4, s1, b4, rfl, rfl, hb4, dg, hr1, hn1, hl1⟩
    -- first
    refine q_asgW (sw_op (sw_lst (K := K) (swa_cons (sw_take 0 rfl ev_int rfl hb4 (by omega) (by decide) (by decide) fun f1 b5 f10 f11 hb5 => swa_cons (sw_callB 0 rfl ea_nil rfl hb5 (by omega) rfl fun vf df b6 G5 hpf hb6 e5 dvf => swa_nil ⟨[.int f1, df], .cons (.int _) (.cons dvf .nil), Nat.le_of_ble_eq_true rfl, fun vl G6 e6 dvl => sw_op (sw_take 0 rfl ev_int rfl hb6 (by omega) (by decide) (by decide) fun f3 b7 f30 f31 hb7 => sw_int (K := K) ev_int (rw_int (K := K) (rd_div (divW (by decide) (by decide))) (.int _) (.int _) ?_))⟩)))))
    obtain ⟨fh, rfl, fh0, fh1⟩ := hpf
    obtain ⟨j, hj⟩ := Int.eq_ofNat_of_zero_le (show 0 ≤ f3 / 5 by omega)
    rw [hj]
    have hj2 : j < 2 := by omega
    refine rw_rd (K := K) (rd_ixLg (ds := [.int f1, .int fh]) (n := j) hj2) dvl (.int _) fun v7 G7 e7 dv7 => ?_
    have hfi : ∃ fi : Int, v7 = .int fi ∧ 0 ≤ fi ∧ fi ≤ 1000000000000 := by
      match j, hj2 with
      | 0, _ => exact ⟨f1, dv7.int_eq, by omega, by omega⟩
      | 1, _ => exact ⟨fh, dv7.int_eq, fh0, fh1⟩
    obtain ⟨fi, rfl, fi0, fi1⟩ := hfi
    have dg7 := ((dg.mono e5).mono e6).mono e7
    clear dv7 hj hj2
    -- last
    refine q_asgW (sw_cb (swa_cons (sw_int (K := K) (ev_op ev_int ev_int (rd_pow ⟨by decide, by decide, by decide⟩)) (swa_cons (sw_op (sw_int (K := K) (ev_var rfl (.int fi)) (sw_op (sw_lst (K := K) (swa_cons (sw_take 0 rfl ev_int rfl hb7 (by omega) (by decide) (by decide) fun l1 b8 l10 l11 hb8 => swa_cons (sw_int (K := K) (ev_op ev_int ev_int (rd_pow ⟨by decide, by decide, by decide⟩)) (swa_nil ⟨[.int l1, .int ((10 : Int) ^ (6 : Int).toNat)], .cons (.int _) (.cons (.int _) .nil), Nat.le_of_ble_eq_true rfl, fun vl G8 e8 dvl => sw_op (sw_take 0 rfl ev_int rfl hb8 (by omega) (by decide) (by decide) fun l3 b9 l30 l31 hb9 => sw_int (K := K) ev_int (rw_int (K := K) (rd_div (divW (by decide) (by decide))) (.int _) (.int _) ?_))⟩))))))))))))
    obtain ⟨j, hj⟩ := Int.eq_ofNat_of_zero_le (show 0 ≤ l3 / 3 by omega)
    rw [hj]
    have hj2 : j < 2 := by omega
    refine rw_rd (K := K) (rd_ixLg (ds := [.int l1, .int ((10 : Int) ^ (6 : Int).toNat)]) (n := j) hj2) dvl (.int _) fun v9 G9 e9 dv9 => ?_
    have hli : ∃ li : Int, v9 = .int li ∧ 0 ≤ li := by
      match j, hj2 with
      | 0, _ => exact ⟨l1, dv9.int_eq, by omega⟩
      | 1, _ => exact ⟨_, dv9.int_eq, by decide⟩
    obtain ⟨li, rfl, li0⟩ := hli
    refine rw_int (K := K) rd_add (.int _) (.int _) (swa_nil (rwa_int (K := K) ra_min2 (.cons (.int _) (.cons (.int _) .nil)) ?_))
    have dg9 := (dg7.mono e8).mono e9
    have e12 : (10 : Int) ^ (12 : Int).toNat = 1000000000000 := by decide
    rw [e12]
    generalize hla : min (1000000000000 : Int) (fi + li) = la
    have la0 : fi ≤ la := by omega
    have la1 : la ≤ 1000000000000 := by omega
    -- times
    refine q_asgW (sw_pick (K := K) (m := 4) 0 rfl (by decide) (by decide) (swa_cons (sw_non (K := K) ev_non (swa_cons (sw_int (K := K) ev_int (swa_cons (sw_op (sw_int (K := K) ev_int (sw_take 0 rfl ev_int rfl hb9 (by omega) (by decide) (by decide) fun t1 b10 t10 t11 hb10 => rw_int (K := K) rd_add (.int _) (.int _) (swa_cons (sw_int (K := K) ev_int (swa_nil ⟨[.none, .int 1, .int (1 + t1), .int 100], b10, _, .cons .non (.cons (.int _) (.cons (.int _) (.cons (.int _) .nil))), rfl, rfl, hb10, by omega, fun k d v G11 b11 hd e11 dv11 hb11 => ?_⟩))))))))))))
    have hti : ∃ o : Option Int, d = timesD o ∧ ∀ t, o = some t → 1 ≤ t ∧ t ≤ 100 := by
      match k, hd with
      | 0, hd => cases hd; exact ⟨none, rfl, fun _ h => nomatch h⟩
      | 1, hd => cases hd; exact ⟨some 1, rfl, fun t h => by cases h; omega⟩
      | 2, hd => cases hd; exact ⟨some (1 + t1), rfl, fun t h => by cases h; omega⟩
      | 3, hd => cases hd; exact ⟨some 100, rfl, fun t h => by cases h; omega⟩
      | k + 4, hd => cases hd
    obtain ⟨o, rfl, ho⟩ := hti
    refine sx_retW hret (sw_tup (K := K) (swa_cons (sw_callB 0 rfl ea_nil rfl hb11 (by omega) rfl fun vn dn b12 G12 hpn hb12 e12 dvn => swa_cons (sw_ev (K := K) (ev_cb (ea_cons (ev_var rfl ((dg9.mono e11).mono e12)) ea_nil) ra_tupleL) fun vg G13 e13 dvg => swa_cons (sw_int (K := K) (ev_var rfl (.int fi)) (swa_cons (sw_int (K := K) (ev_var rfl (.int la)) (swa_cons (sw_var rfl (swa_nil ⟨[dn, .tuple (s1.map .str), .int fi, .int la, timesD o], .cons (dvn.mono e13) (.cons dvg (.cons (.int _) (.cons (.int _) (.cons ((dv11.mono e12).mono e13) .nil)))), Nat.le_of_ble_eq_true rfl, fun vr G14 e14 dvr => ?_⟩))))))))))
    obtain ⟨x, rfl, hx⟩ := hpn
    exact ⟨_, b12, ⟨⟨x, s1, fi, la, o⟩, rfl, ⟨hx.1, hn1, hr1, hl1, fi0, la0, la1, ho⟩⟩, hb12.mono (by omega), List.mem_cons_self, dvr⟩
  · have hsb : 20 < scanBound := by decide
    refine sx_asgW (sw_sortS (K := K) (xs := s0 ++ [("zz" : Str)]) (ev_is (ev_op (ev_var rfl dg0) (ev_lst (ea_cons ev_str ea_nil) (Nat.le_of_ble_eq_true rfl)) (rd_addL (by rw [List.length_map]; show _ + 1 ≤ _; omega))) (by rw [List.map_append]; rfl)) (by rw [List.length_append]; show _ + 1 + 1 < scanBound; omega) fun ys v5 G5 hr5 hl5 hm5 e5 dv5 => ?_)
    refine go _ _ _ ⟨v5, ys, b4, rfl, rfl, hb4, dv5, hr5, fun s hs => ?_, by rw [List.length_append] at hl5; have : ys.length ≤ s0.length + 1 := hl5; omega⟩
    rcases List.mem_append.mp ((hm5 s).mp hs) with h | h
    · exact hn0 s h
    · rw [List.mem_singleton.mp h]; decide +kernel
/-! # the law -/
section
variable {W : Ent} {G : Hp} {M : Mem} {C : V → Hp → Mem → Prop} {r : R2} {x y : V} {p : Addr} {o : HO}
theorem rw_settle (k : Nat) (hm : M[k]? = some (p, o)) (n0 : W.H0 p = none) (h : Rw2 W r x y (upd G p o) (M.eraseIdx k) C) : Rw2 W r x y G M C := fun H w Q q => h H (w.settle hm n0) Q q
theorem rw_fresh (k : Nat) (hm : M[k]? = some (p, o)) (h : G p = none → Rw2 W r x y G M C) : Rw2 W r x y G M C := fun H w => h (w.gnone hm) H w
end
theorem fit_card {c : Card} (ok : c.Ok) : Fit 8 2 c.enc := by
  refine fit_tup (by show 5 ≤ 8; decide) fun x hx => ?_
  simp only [List.mem_cons, List.not_mem_nil, or_false] at hx
  rcases hx with rfl | rfl | rfl | rfl | rfl
  · exact fit_str (lay_name ok.nm).1 (lay_name ok.nm).2
  · refine fit_tup (by rw [List.length_map]; exact ok.gl) fun y hy => ?_
    obtain ⟨g, hg, rfl⟩ := List.mem_map.mp hy
    exact fit_str (lay_name (ok.gn g hg)).1 (lay_name (ok.gn g hg)).2
  · exact fit_int
  · exact fit_int
  · cases c.times with
    | none => exact fit_none
    | some t => exact fit_int
def sp_law (K : PySem.W.Frag) : Sp := sp_script K 63
abbrev ns_law : List Str := ["script", "cell", "bag", "town", "card", "things", "thing", "hours", "gate", "hour", "used", "who", "due", "k"]
abbrev ps_law : List Str := ["script"]
def t_law (K : PySem.W.Frag) : TS :=
  (tSeq (tFor (iSeq K (tOp (kAdd K) (tSl (kSl K) (tVar 0) tNoPart (tPart (tC (.int 20)))) (tLst (tCons (tC (.int 0)) tNil)))) (gName 1) (tSeq (tAsg (tCall (sp__law_well K) [] E0 (tCons (tVar 1) (tCons (tC (.int 0)) tNil))) (gName 2)) (tSeq (tAsg (tCall (sp__law_town K) [] E0 (tCons (tVar 2) (tCons (tC (.int 4)) tNil))) (gName 3)) (tSeq (tAsg (tCall (sp__law_pass K) [] E0 (tCons (tVar 2) (tCons (tVar 3) tNil))) (gName 4)) (tSeq (tAsg (tOp (kAdd K) (tLst (tCons (tVar 4) (tCons (tCall (sp__law_thing K) [] E0 (tCons (tVar 2) (tCons (tC (.int 3)) tNil))) (tCons (tCB (kList K) (tCons (tVar 4) tNil)) tNil)))) (tLc (iRng1 (tCons (tC (.int 6)) tNil)) (gName 13) tYes (tCall (sp__law_otherwise K) [] E0 (tCons (tVar 2) (tCons (tVar 4) (tCons (tC (.int 2)) tNil)))) [13])) (gName 5)) (tSeq (tFor (iSeq K (tVar 5)) (gName 6) (tIfS (tNot (tB (tCall (sp__law_says K) [] E0 (tCons (tCall (sp_is_pass K) [] E0 (tCons (tVar 6) tNil)) (tCons (tCall (sp__law_is_pass K) [] E0 (tCons (tVar 6) tNil)) tNil))))) (tRet (tC (.bl false))) tNext)) (tSeq (tAsg (tLst (tCons (tOp (rIx K) (tVar 4) (tC (.int 2))) (tCons (tOp (rIx K) (tVar 4) (tC (.int 3))) (tCons (tCB kMax2 (tCons (tC (.int 0)) (tCons (tOp kSub (tOp (rIx K) (tVar 4) (tC (.int 2))) (tC (.int 1))) tNil))) (tCons (tOp (kAdd K) (tOp (rIx K) (tVar 4) (tC (.int 3))) (tC (.int 1))) (tCons (tOp kDiv (tOp (kAdd K) (tOp (rIx K) (tVar 4) (tC (.int 2))) (tOp (rIx K) (tVar 4) (tC (.int 3)))) (tC (.int 2))) tNil)))))) (gName 7)) (tFor (iSeq K (tOp (kAdd K) (tLst (tCons (tOp (rIx K) (tOp (rIx K) (tVar 3) (tC (.int 0))) (tC (.int 0))) (tCons (tC (.str "zz")) (tCons (tC (.str "yyy")) tNil)))) (tCB (kList K) (tCons (tSl (kSl K) (tOp (rIx K) (tVar 4) (tC (.int 1))) tNoPart (tPart (tC (.int 2)))) tNil)))) (gName 8) (tFor (iSeq K (tVar 7)) (gName 9) (tFor (iSeq K (tLst (tCons (tC (.int 0)) (tCons (tOp kSub ((tOrT K) (tOp (rIx K) (tVar 4) (tC (.int 4))) (tC (.int 1))) (tC (.int 1))) (tCons ((tOrT K) (tOp (rIx K) (tVar 4) (tC (.int 4))) (tC (.int 99))) (tCons (tC (.int 101)) tNil)))))) (gName 10) (tFor (iSeq K (tLst (tCons (tOp (rIx K) (tVar 4) (tC (.int 0))) (tCons (tCall (sp__law_name K) [] E0 (tCons (tVar 2) tNil)) tNil)))) (gName 11) (tSeq (tAsg (tCall (sp__law_lets K) [] E0 (tCons (tVar 4) (tCons (tVar 11) (tCons (tVar 8) (tCons (tVar 9) (tCons (tVar 10) tNil)))))) (gName 12)) (tIfS (tNot (tB (tCall (sp__law_says K) [] E0 (tCons (tCall (sp_lets K) [] E0 (tCons (tVar 4) (tCons (tVar 11) (tCons (tVar 8) (tCons (tVar 9) (tCons (tVar 10) tNil)))))) (tCons (tVar 12) tNil))))) (tRet (tC (.bl false))) tNext))))))))))))) (tRet (tC (.bl true))))
theorem len_law {K : PySem.W.Frag} : ∀ vs H Q E, sp_law K vs H Q E → vs.length = 1 := fun vs _ _ _ ⟨a, ns, h, _⟩ => by rw [h]; rfl
theorem sp_law_start {K : PySem.W.Frag} {H : Hp} (a : Addr) (ns : List Int) (hl : ns.length ≤ 63) (hb : ∀ z ∈ ns, Builtin.Int.intBits z ≤ 1048576) (hS : SqL K H a (ns.map V.int)) : sp_law K [.ref a] H (fun v _ => v = .bl true) fun _ _ _ => False := ⟨a, ns, rfl, hS, hl, fun _ => rfl⟩
theorem pure_law {K : PySem.W.Frag} : ∀ vs H Q E, sp_law K vs H Q E → t_law K { nx := fun _ H' => Q .non H', rt := Q } (L2.start ns_law vs) H := script_in fun a ns W G D hS hms hl hret => by
  refine q_forW (K := K) (fun ds _ M1 => M1 = [] ∧ ∃ cs : List Int, ds = cs.map .int) (itw_list (sw_op (sw_head (n := 20) rfl hS hms fun v G1 e1 dv => sw_ev (ev_lst (ea_cons ev_int ea_nil) (by decide)) fun v2 G2 e2 dv2 => rw_rd (rd_addL ?_) (dv.mono e2) dv2 fun v3 G3 e3 dv3 => ?_))) ?_
  · rw [List.length_map, List.length_take]; show _ + 1 ≤ _; omega
  · exact ⟨_, dv3, rfl, ns.take 20 ++ [0], by rw [List.map_append]; rfl⟩
  · rintro ds G1 _ ⟨rfl, cs, rfl⟩
    refine ⟨fun i σ G M => M = [] ∧ ∃ y1 y2 y3 y4 y5 y6 y7 y8 y9 y10 y11 y12 y13, σ = [some (.ref a), y1, y2, y3, y4, y5, y6, y7, y8, y9, y10, y11, y12, y13], ⟨rfl, _, _, _, _, _, _, _, _, _, _, _, _, _, rfl⟩, ?_, ?_⟩
    · rintro i d v σ Ga G' M hd e1 ⟨rfl, y1, y2, y3, y4, y5, y6, y7, y8, y9, y10, y11, y12, y13, rfl⟩ e2 dv
      rw [List.getElem?_map] at hd
      cases hi : cs[i]? with
      | none => rw [hi] at hd; cases hd
      | some cell =>
      rw [hi] at hd
      cases hd
      obtain rfl := dv.int_eq
      have bm : bagMax = 1000000000000 := rfl
      refine gx_name ?_
      refine q_asgW (sw_callO (ea_cons (ev_var rfl dv) (ea_cons ev_int ea_nil)) ⟨cell, 0, rfl, by decide⟩ fun p b G2 e3 n0 hpost => ?_)
      obtain ⟨c', t', ec, hb⟩ := hpost
      cases ec
      refine q_asgW (sw_callB 0 rfl (ea_cons ev_int ea_nil) rfl hb (by decide) ⟨4, rfl, by decide, by decide⟩ fun vt d b1 G3 hpost hb1 e4 dt => ?_)
      obtain ⟨m, t, em, rfl, tl⟩ := hpost
      cases em
      have hb1 : BagOk 600 b1 := hb1
      refine q_asgW (sw_callB 0 rfl (ea_cons (ev_var rfl dt) ea_nil) rfl hb1 (by omega) ⟨t, 4, rfl, tl, by decide⟩ fun vc d b2 G4 hpost hb2 e5 dc => ?_)
      obtain ⟨c, rfl, ok⟩ := hpost
      have hb2 : BagOk 660 b2 := hb2
      have fc := fit_card ok
      have fcc : Fit 1000 6 c.enc := fc.mono (by decide) (by decide)
      have dt4 := dt.mono e5
      show Sx W _ _ [some (.ref a), some (.int cell), some (.ref p), some vt, some vc, y5, y6, y7, y8, y9, y10, y11, y12, y13] G4 [(p, .lst b2)]
      -- things
      refine q_asgW (sw_op (sw_lst (K := K) (swa_cons (sw_var rfl (swa_cons (sw_callBi (K := K) (cost := costT 3) (Pre := fun ds => ds = [.int ((3 : Nat) : Int)]) (Post := fun _ d => Fit 9 4 d) (fun _ _ _ _ h => ⟨3, by decide, h⟩) 0 rfl (ea_cons ev_int ea_nil) rfl hb2 (by show 660 + 312 ≤ _; omega) rfl fun v1 d1 b3 G5 hp1 hb3 e6 dv1 => swa_cons (sw_ev (K := K) (ev_cb (ea_cons (ev_var rfl (show Da K G5 vc (.tuple [.str c.who, .tuple (c.gates.map .str), .int c.first, .int c.last, timesD c.times]) from dc.mono e6)) ea_nil) ra_listT) fun v2 G6 e7 dv2 => swa_nil ⟨[c.enc, d1, .list [.str c.who, .tuple (c.gates.map .str), .int c.first, .int c.last, timesD c.times]], .cons ((dc.mono e6).mono e7) (.cons (dv1.mono e7) (.cons dv2 .nil)), Nat.le_of_ble_eq_true rfl, fun v3 G7 e8 dv3 => ?_⟩)))))))
      have hb3 : BagOk 972 b3 := hb3
      have e68 : Ex G4 G7 := (e6.trans e7).trans e8
      refine sw_lc (K := K) (fun ds G8 M8 => ds = rngD 0 6 ∧ Ex G7 G8 ∧ M8 = [(p, .lst b3)]) (itw_d (it_rng1 (K := K) (n := 6) (ea_cons ev_int ea_nil) (by decide) (by decide)) fun G8 e => ⟨rfl, e, rfl⟩) ?_
      rintro ds G8 M8 ⟨rfl, e9, rfl⟩
      refine ⟨fun i acc G M => ∃ b4 es, M = [(p, .lst b4)] ∧ BagOk (972 + 210 * i) b4 ∧ DaL K G acc es ∧ es.length = i ∧ ∀ d ∈ es, Fit 1009 8 d, ⟨b3, [], rfl, hb3, .nil, rfl, fun _ h => nomatch h⟩, ?_, ?_⟩
      · rintro i d v acc Gb G9 M Dl hd e10 ⟨b4, es, rfl, hb4, dacc, hel, hes⟩ e11 dv nD
        obtain ⟨hi6, rfl⟩ := rngD_get hd
        have hal := dacc.len
        refine gx_name ⟨rfl, swt_ev (b := true) (fun H e Q q => q H (Ex.refl H)) ⟨fun _ => ?_, fun h => nomatch h⟩⟩
        refine sw_callBi (K := K) (cost := 70 * (2 + 1)) (Pre := otherPre 2) (Post := fun _ d => Fit 1009 7 d) (fun _ _ _ _ h => ⟨2, by decide, h⟩) 1 rfl (ea_cons (ev_var rfl ((((dc.mono e68).mono e9).mono e10).mono e11)) (ea_cons ev_int ea_nil)) rfl hb4 (by omega) ⟨by decide, _, rfl, fcc⟩ fun v6 d6 b5 G10 hp hb5 e12 dv6 => ?_
        refine ⟨[(p, .lst b5)], rfl, by omega, e11.trans e12, b5, es ++ [d6], rfl, hb5.mono (by omega), ((dacc.mono e11).mono e12).app (.one dv6), by rw [List.length_append]; show _ + 1 = _; omega, fun z hz => ?_⟩
        rcases List.mem_append.mp hz with h | h
        · exact hes z h
        · rw [List.mem_singleton.mp h]; exact hp.mono (Nat.le_refl _) (by decide)
      rintro acc G9 M q e10 ⟨b4, es, rfl, hb4, dacc, hel, hes⟩ nq
      rw [rngD_len] at hel hb4
      have hb4 : BagOk 2232 b4 := hb4
      refine rw_fresh 0 rfl fun hq => rw_settle 0 rfl nq ?_
      have e11 : Ex G9 (upd G9 q (.lst acc)) := Ex.new hq
      have dq : Da K (upd G9 q (.lst acc)) (.ref q) (.list es) := .lst upd_same (dacc.mono e11)
      refine rw_rd (K := K) (rd_addL (by rw [hel]; exact Nat.le_of_ble_eq_true rfl)) (((dv3.mono e9).mono e10).mono e11) dq fun vth G10 e12 dth => ?_
      have hall : ∀ d ∈ [c.enc, d1, .list [.str c.who, .tuple (c.gates.map .str), .int c.first, .int c.last, timesD c.times]] ++ es, Fit 1009 8 d := fun d hd => by
        rcases List.mem_append.mp hd with h | h
        · simp only [List.mem_cons, List.not_mem_nil, or_false] at h
          rcases h with rfl | rfl | rfl
          · exact fc.mono (by decide) (by decide)
          · exact hp1.mono (by decide) (by decide)
          · obtain ⟨k1, k2⟩ := Fit.tup (k := 1) fc
            exact fit_list (by show 5 ≤ 1009; decide) fun d hd => (k2 d hd).mono (by decide) (by decide)
        · exact hes d h
      have e4a : Ex G4 G10 := (((e68.trans e9).trans e10).trans e11).trans e12
      show Sx W _ _ [some (.ref a), some (.int cell), some (.ref p), some vt, some vc, some vth, y6, y7, y8, y9, y10, y11, y12, y13] G10 [(p, .lst b4)]
      -- for thing in things
      refine q_for (K := K) (it_list (ev_var rfl dth)) (fun _ σ G M => ∃ y6, σ = [some (.ref a), some (.int cell), some (.ref p), some vt, some vc, some vth, y6, y7, y8, y9, y10, y11, y12, y13] ∧ M = [(p, .lst b4)]) (fun _ _ => ⟨_, rfl, rfl⟩) ?_ ?_
      · rintro k d v6 σ Gc G11 M hd e13 ⟨y6, rfl, rfl⟩ e14 d6
        have fd := hall d (List.mem_of_getElem? hd)
        refine sx_if (et_not (et_B (K := K) (ev_call (ea_cons (ev_call (ea_cons (ev_var rfl d6) ea_nil) ⟨_, rfl, fd.sm (by decide), rfl⟩) (ea_cons (ev_call (ea_cons (ev_var rfl d6) ea_nil) ⟨_, rfl, fd.mono (by decide) (by decide), rfl⟩) ea_nil)) ⟨passD d, passD d, rfl, rfl⟩))) (fun hc => ?_) (fun _ => ?_)
        · rw [beq_self_eq_true] at hc; cases hc
        · exact sx_next (nx_turn e14 ⟨_, rfl, rfl⟩)
      rintro σ G11 M e13 ⟨y6, rfl, rfl⟩
      have dc11 : Da K G11 vc c.enc := (dc.mono e4a).mono e13
      have dt11 : Da K G11 vt (townEnc t) := (dt4.mono e4a).mono e13
      have at2 : ∀ {σ : L2.St} {G : Hp}, σ[4]? = some (some vc) → Da K G vc c.enc → EvD K (tOp (rIx K) (tVar 4) (tC (.int 2))) σ G (.int c.first) := fun h dv => ev_op (ev_var h dv) ev_int (rd_ixT rfl)
      have at3 : ∀ {σ : L2.St} {G : Hp}, σ[4]? = some (some vc) → Da K G vc c.enc → EvD K (tOp (rIx K) (tVar 4) (tC (.int 3))) σ G (.int c.last) := fun h dv => ev_op (ev_var h dv) ev_int (rd_ixT rfl)
      have at4 : ∀ {σ : L2.St} {G : Hp}, σ[4]? = some (some vc) → Da K G vc c.enc → EvD K (tOp (rIx K) (tVar 4) (tC (.int 4))) σ G (timesD c.times) := fun h dv => ev_op (ev_var h dv) ev_int (rd_ixT rfl)
      have at4or : ∀ {σ : L2.St} {G : Hp} (z : Int), σ[4]? = some (some vc) → Da K G vc c.enc → EvD K (tOrT K (tOp (rIx K) (tVar 4) (tC (.int 4))) (tC (.int z))) σ G (.int (c.times.getD z)) := fun z h dv => by
        have q := at4 h dv
        cases ht : c.times with
        | none => rw [ht] at q; exact ev_orN q ev_int
        | some i => rw [ht] at q; exact ev_orI (i := i) q (by have := ok.tm i ht; omega)
      -- hours
      refine q_asg (K := K) (d := .list ([c.first, c.last, max 0 (c.first - 1), c.last + 1, (c.first + c.last) / 2].map .int)) (ev_lst (ea_cons (at2 rfl dc11) (ea_cons (at3 rfl dc11) (ea_cons (ev_cb (ea_cons ev_int (ea_cons (ev_op (at2 rfl dc11) ev_int rd_sub) ea_nil)) ra_max2) (ea_cons (ev_op (at3 rfl dc11) ev_int rd_add) (ea_cons (ev_op (ev_op (at2 rfl dc11) (at3 rfl dc11) rd_add) ev_int (rd_div (divW (by decide) (by decide)))) ea_nil))))) (Nat.le_of_ble_eq_true rfl)) fun vh G12 e14 dh => ?_
      obtain ⟨hs, ehs⟩ : ∃ hs : List Int, hs = [c.first, c.last, max 0 (c.first - 1), c.last + 1, (c.first + c.last) / 2] := ⟨_, rfl⟩
      rw [← ehs] at dh
      have hhs : hs.length = 5 := by rw [ehs]; rfl
      have dc12 := dc11.mono e14
      have dt12 := dt11.mono e14
      have ht0 : ∃ g0 r0, t = g0 :: r0 := by
        cases t with
        | nil => exact absurd tl.l1 (by decide)
        | cons g0 r0 => exact ⟨g0, r0, rfl⟩
      obtain ⟨g0, r0, et⟩ := ht0
      show Sx W _ _ [some (.ref a), some (.int cell), some (.ref p), some vt, some vc, some vth, y6, some vh, y8, y9, y10, y11, y12, y13] G12 [(p, .lst b4)]
      have hcl : (cutG (c.gates.map PyData.str) none (some ((2 : Nat) : Int))).length ≤ 2 := by
        rw [cutG_to, List.length_take]; omega
      refine sx_forW (K := K) (fun ds G13 M13 => (∀ d ∈ ds, ∃ s, d = .str s) ∧ ds.length ≤ 5 ∧ Ex G12 G13 ∧ M13 = [(p, .lst b4)]) (itw_d (it_list (ev_op (ev_lst (ea_cons (ev_op (a := g0.enc) (ev_op (ev_var rfl dt12) ev_int (rd_ixT (atI_nat (j := 0) (by rw [et]; rfl)))) ev_int (rd_ixT rfl)) (ea_cons ev_str (ea_cons ev_str ea_nil))) (Nat.le_of_ble_eq_true rfl)) (ev_cb (ea_cons (ev_slT (ev_op (ev_var rfl dc12) ev_int (rd_ixT rfl)) ep_none (ep_some (K := K) ev_int)) ea_nil) ra_listT) (rd_addL (by show 3 + _ ≤ _; have : (cutG (c.gates.map PyData.str) none (some (2 : Int))).length ≤ 2 := hcl; omega)))) fun G13 e => ⟨fun d hd => ?_, ?_, e, rfl⟩) ?_
      · rcases List.mem_append.mp hd with h | h
        · simp only [List.mem_cons, List.not_mem_nil, or_false] at h
          rcases h with rfl | rfl | rfl
          · exact ⟨_, rfl⟩
          · exact ⟨_, rfl⟩
          · exact ⟨_, rfl⟩
        · obtain ⟨s, _, rfl⟩ := List.mem_map.mp (List.mem_of_mem_drop (List.mem_of_mem_take h))
          exact ⟨s, rfl⟩
      · rw [List.length_append]
        have : (cutG (c.gates.map PyData.str) none (some (2 : Int))).length ≤ 2 := hcl
        show 3 + _ ≤ 5
        omega
      rintro gs G13 M13 ⟨hgs, hgl, e15, rfl⟩
      refine ⟨fun i σ G M => ∃ y8 y9 y10 y11 y12 b5, σ = [some (.ref a), some (.int cell), some (.ref p), some vt, some vc, some vth, y6, some vh, y8, y9, y10, y11, y12, y13] ∧ M = [(p, .lst b5)] ∧ BagOk (2232 + 200 * i) b5, ⟨_, _, _, _, _, b4, rfl, rfl, hb4⟩, ?_, ?_⟩
      · rintro i d v8 σ Gd G14 M hd e16 ⟨y8, y9, y10, y11, y12, b5, rfl, rfl, hb5⟩ e17 dg
        obtain ⟨gate, rfl⟩ := hgs d (List.mem_of_getElem? hd)
        have hi5 : i < 5 := by have := (List.getElem?_eq_some_iff.mp hd).1; omega
        have e1214 : Ex G12 G14 := (e15.trans e16).trans e17
        refine gx_name ?_
        refine sx_forW (K := K) (fun ds G15 M15 => ds = hs.map .int ∧ Ex G14 G15 ∧ M15 = [(p, .lst b5)]) (itw_d (it_list (ev_var rfl (dh.mono e1214))) fun G15 e => ⟨rfl, e, rfl⟩) ?_
        rintro _ G15 M15 ⟨rfl, e18, rfl⟩
        refine ⟨fun j σ G M => ∃ y9 y10 y11 y12 b6, σ = [some (.ref a), some (.int cell), some (.ref p), some vt, some vc, some vth, y6, some vh, some v8, y9, y10, y11, y12, y13] ∧ M = [(p, .lst b6)] ∧ BagOk (2232 + 200 * i + 40 * j) b6, ⟨_, _, _, _, b5, rfl, rfl, hb5⟩, ?_, ?_⟩
        · rintro j d v9 σ Ge G16 M hd e19 ⟨y9, y10, y11, y12, b6, rfl, rfl, hb6⟩ e20 dhr
          rw [List.getElem?_map] at hd
          cases hj : hs[j]? with
          | none => rw [hj] at hd; cases hd
          | some hour =>
          rw [hj] at hd
          cases hd
          have hj5 : j < 5 := by have := (List.getElem?_eq_some_iff.mp hj).1; omega
          have e1216 : Ex G12 G16 := ((e1214.trans e18).trans e19).trans e20
          have dc16 := dc12.mono e1216
          refine gx_name ?_
          refine sx_forW (K := K) (fun ds G17 M17 => (∀ d ∈ ds, ∃ u, d = .int u) ∧ ds.length = 4 ∧ Ex G16 G17 ∧ M17 = [(p, .lst b6)]) (itw_d (it_list (ev_lst (ea_cons ev_int (ea_cons (ev_op (at4or 1 rfl dc16) ev_int rd_sub) (ea_cons (at4or 99 rfl dc16) (ea_cons ev_int ea_nil)))) (Nat.le_of_ble_eq_true rfl))) fun G17 e => ⟨fun d hd => ?_, rfl, e, rfl⟩) ?_
          · simp only [List.mem_cons, List.not_mem_nil, or_false] at hd
            rcases hd with rfl | rfl | rfl | rfl <;> exact ⟨_, rfl⟩
          rintro us G17 M17 ⟨hus, hul, e21, rfl⟩
          refine ⟨fun k σ G M => ∃ y10 y11 y12 b7, σ = [some (.ref a), some (.int cell), some (.ref p), some vt, some vc, some vth, y6, some vh, some v8, some v9, y10, y11, y12, y13] ∧ M = [(p, .lst b7)] ∧ BagOk (2232 + 200 * i + 40 * j + 10 * k) b7, ⟨_, _, _, b6, rfl, rfl, hb6⟩, ?_, ?_⟩
          · rintro k d v10 σ Gf G18 M hd e22 ⟨y10, y11, y12, b7, rfl, rfl, hb7⟩ e23 du
            obtain ⟨used, rfl⟩ := hus d (List.mem_of_getElem? hd)
            have hk4 : k < 4 := by have := (List.getElem?_eq_some_iff.mp hd).1; omega
            have e1618 : Ex G16 G18 := (e21.trans e22).trans e23
            have dc18 := dc16.mono e1618
            refine gx_name ?_
            refine sx_forW (K := K) (fun ds G19 M19 => (∀ d ∈ ds, ∃ s, d = .str s) ∧ Ex G18 G19 ∧ ∃ b8, M19 = [(p, .lst b8)] ∧ BagOk (2232 + 200 * i + 40 * j + 10 * (k + 1)) b8) (itw_list (sw_lst (K := K) (swa_cons (sw_str (K := K) (x := c.who) (ev_op (ev_var rfl dc18) ev_int (rd_ixT rfl)) (swa_cons (sw_callB 0 rfl ea_nil rfl hb7 (by omega) rfl fun vn dn b8 G19 hpn hb8 e24 dvn => swa_nil ⟨[.str c.who, dn], .cons (.str _) (.cons dvn .nil), Nat.le_of_ble_eq_true rfl, fun vl G20 e25 dvl => ⟨_, dvl, fun d hd => ?_, e24.trans e25, b8, rfl, hb8.mono (by omega)⟩⟩)))))) ?_
            · simp only [List.mem_cons, List.not_mem_nil, or_false] at hd
              rcases hd with rfl | rfl
              · exact ⟨_, rfl⟩
              · obtain ⟨x, rfl, _⟩ := hpn
                exact ⟨_, rfl⟩
            rintro ws G19 M19 ⟨hws, e24, b8, rfl, hb8⟩
            refine ⟨fun _ σ G M => ∃ y11 y12, σ = [some (.ref a), some (.int cell), some (.ref p), some vt, some vc, some vth, y6, some vh, some v8, some v9, some v10, y11, y12, y13] ∧ M = [(p, .lst b8)], ⟨_, _, rfl, rfl⟩, ?_, ?_⟩
            · rintro l d v11 σ Gg G20 M hd e25 ⟨y11, y12, rfl, rfl⟩ e26 dw
              obtain ⟨who, rfl⟩ := hws d (List.mem_of_getElem? hd)
              have e1820 : Ex G18 G20 := (e24.trans e25).trans e26
              have dc20 := dc18.mono e1820
              have dg20 := ((((dg.mono e18).mono e19).mono e20).mono e1618).mono e1820
              have dh20 := (dhr.mono e1618).mono e1820
              have du20 := du.mono e1820
              refine gx_name ?_
              refine q_asgB (K := K) (n := letsB c who gate hour used) (ev_call (ea_cons (ev_var rfl dc20) (ea_cons (ev_var rfl dw) (ea_cons (ev_var rfl dg20) (ea_cons (ev_var rfl dh20) (ea_cons (ev_var rfl du20) ea_nil))))) ⟨c, who, gate, hour, used, rfl, ok, rfl⟩) ?_
              refine sx_if (et_not (et_B (K := K) (ev_call (ea_cons (ev_call (d := .bool (letsB c who gate hour used)) (ea_cons (ev_var rfl dc20) (ea_cons (ev_var rfl dw) (ea_cons (ev_var rfl dg20) (ea_cons (ev_var rfl dh20) (ea_cons (ev_var rfl du20) ea_nil))))) ⟨c, who, gate, hour, used, rfl, ok, rfl⟩) (ea_cons (ev_var rfl (.bl _)) ea_nil)) ⟨letsB c who gate hour used, letsB c who gate hour used, rfl, rfl⟩))) (fun hc => ?_) (fun _ => ?_)
              · rw [beq_self_eq_true] at hc; cases hc
              · exact sx_next (nx_turn e26 ⟨_, _, rfl, rfl⟩)
            · rintro σ G20 M e25 ⟨y11, y12, rfl, rfl⟩
              exact nx_turn ((e23.trans e24).trans e25) ⟨_, _, _, b8, rfl, rfl, hb8⟩
          · rintro σ G18 M e22 ⟨y10, y11, y12, b7, rfl, rfl, hb7⟩
            rw [hul] at hb7
            exact nx_turn ((e20.trans e21).trans e22) ⟨_, _, _, _, b7, rfl, rfl, hb7.mono (by omega)⟩
        · rintro σ G16 M e19 ⟨y9, y10, y11, y12, b6, rfl, rfl, hb6⟩
          rw [List.length_map, hhs] at hb6
          exact nx_turn ((e17.trans e18).trans e19) ⟨_, _, _, _, _, b6, rfl, rfl, hb6.mono (by omega)⟩
      · rintro σ G14 M e16 ⟨y8, y9, y10, y11, y12, b5, rfl, rfl, hb5⟩
        exact nx_drop (nx_turn ((((((((e2.trans e3).trans e4).trans e5).trans e4a).trans e13).trans e14).trans e15).trans e16) ⟨rfl, _, _, _, _, _, _, _, _, _, _, _, _, _, rfl⟩)
    · rintro σ G' M e1 ⟨rfl, y1, y2, y3, y4, y5, y6, y7, y8, y9, y10, y11, y12, y13, rfl⟩
      exact sx_retW hret (sw_bool (K := K) ev_bl rfl)
def topS (i : Nat) : Stmt := PySem.Challenge.pw_latchtown_k03_passes_and_whom_they_let.main.body.getD i (.Pass ⟨0, 0, 0, 0⟩)
abbrev s_is_within : Stmt := topS 3
theorem sc_is_within : FnScope ns_is_within ps_is_within (defScope s_is_within) := ⟨rfl, rfl, rfl, by decide +kernel, rfl, by decide +kernel, by decide +kernel⟩
abbrev s_is_name : Stmt := topS 4
theorem sc_is_name : FnScope ns_is_name ps_is_name (defScope s_is_name) := ⟨rfl, rfl, rfl, by decide +kernel, rfl, by decide +kernel, by decide +kernel⟩
abbrev s_rises : Stmt := topS 5
theorem sc_rises : FnScope ns_rises ps_rises (defScope s_rises) := ⟨rfl, rfl, rfl, by decide +kernel, rfl, by decide +kernel, by decide +kernel⟩
abbrev s_are_names : Stmt := topS 6
theorem sc_are_names : FnScope ns_are_names ps_are_names (defScope s_are_names) := ⟨rfl, rfl, rfl, by decide +kernel, rfl, by decide +kernel, by decide +kernel⟩
abbrev s_is_pass : Stmt := topS 9
theorem sc_is_pass : FnScope ns_is_pass ps_is_pass (defScope s_is_pass) := ⟨rfl, rfl, rfl, by decide +kernel, rfl, by decide +kernel, by decide +kernel⟩
abbrev s_lets : Stmt := topS 10
theorem sc_lets : FnScope ns_lets ps_lets (defScope s_lets) := ⟨rfl, rfl, rfl, by decide +kernel, rfl, by decide +kernel, by decide +kernel⟩
abbrev s__law_well : Stmt := topS 13
theorem sc__law_well : FnScope ns__law_well ps__law_well (defScope s__law_well) := ⟨rfl, rfl, rfl, by decide +kernel, rfl, by decide +kernel, by decide +kernel⟩
abbrev s__law_take : Stmt := topS 14
theorem sc__law_take : FnScope ns__law_take ps__law_take (defScope s__law_take) := ⟨rfl, rfl, rfl, by decide +kernel, rfl, by decide +kernel, by decide +kernel⟩
abbrev s__law_name : Stmt := topS 15
theorem sc__law_name : FnScope ns__law_name ps__law_name (defScope s__law_name) := ⟨rfl, rfl, rfl, by decide +kernel, rfl, by decide +kernel, by decide +kernel⟩
abbrev s__law_rising : Stmt := topS 16
theorem sc__law_rising : FnScope ns__law_rising ps__law_rising (defScope s__law_rising) := ⟨rfl, rfl, rfl, by decide +kernel, rfl, by decide +kernel, by decide +kernel⟩
abbrev s__law_town : Stmt := topS 17
theorem sc__law_town : FnScope ns__law_town ps__law_town (defScope s__law_town) := ⟨rfl, rfl, rfl, by decide +kernel, rfl, by decide +kernel, by decide +kernel⟩
abbrev s__law_far : Stmt := topS 21
theorem sc__law_far : FnScope ns__law_far ps__law_far (defScope s__law_far) := ⟨rfl, rfl, rfl, by decide +kernel, rfl, by decide +kernel, by decide +kernel⟩
abbrev s__law_thing : Stmt := topS 22
theorem sc__law_thing : FnScope ns__law_thing ps__law_thing (defScope s__law_thing) := ⟨rfl, rfl, rfl, by decide +kernel, rfl, by decide +kernel, by decide +kernel⟩
abbrev s__law_otherwise : Stmt := topS 23
theorem sc__law_otherwise : FnScope ns__law_otherwise ps__law_otherwise (defScope s__law_otherwise) := ⟨rfl, rfl, rfl, by decide +kernel, rfl, by decide +kernel, by decide +kernel⟩
abbrev s__law_says : Stmt := topS 24
theorem sc__law_says : FnScope ns__law_says ps__law_says (defScope s__law_says) := ⟨rfl, rfl, rfl, by decide +kernel, rfl, by decide +kernel, by decide +kernel⟩
abbrev s__law_is_name : Stmt := topS 25
theorem sc__law_is_name : FnScope ns__law_is_name ps__law_is_name (defScope s__law_is_name) := ⟨rfl, rfl, rfl, by decide +kernel, rfl, by decide +kernel, by decide +kernel⟩
abbrev s__law_is_number : Stmt := topS 26
theorem sc__law_is_number : FnScope ns__law_is_number ps__law_is_number (defScope s__law_is_number) := ⟨rfl, rfl, rfl, by decide +kernel, rfl, by decide +kernel, by decide +kernel⟩
abbrev s__law_rises : Stmt := topS 27
theorem sc__law_rises : FnScope ns__law_rises ps__law_rises (defScope s__law_rises) := ⟨rfl, rfl, rfl, by decide +kernel, rfl, by decide +kernel, by decide +kernel⟩
abbrev s__law_pass : Stmt := topS 28
theorem sc__law_pass : FnScope ns__law_pass ps__law_pass (defScope s__law_pass) := ⟨rfl, rfl, rfl, by decide +kernel, rfl, by decide +kernel, by decide +kernel⟩
abbrev s__law_is_pass : Stmt := topS 29
theorem sc__law_is_pass : FnScope ns__law_is_pass ps__law_is_pass (defScope s__law_is_pass) := ⟨rfl, rfl, rfl, by decide +kernel, rfl, by decide +kernel, by decide +kernel⟩
abbrev s__law_lets : Stmt := topS 30
theorem sc__law_lets : FnScope ns__law_lets ps__law_lets (defScope s__law_lets) := ⟨rfl, rfl, rfl, by decide +kernel, rfl, by decide +kernel, by decide +kernel⟩
abbrev s_law : Stmt := topS 31
theorem sc_law : FnScope ns_law ps_law (defScope s_law) := ⟨rfl, rfl, rfl, by decide +kernel, rfl, by decide +kernel, by decide +kernel⟩
structure Ad where
  f_is_within : Addr
  fd_is_within : FuncData
  f_is_name : Addr
  fd_is_name : FuncData
  f_rises : Addr
  fd_rises : FuncData
  f_are_names : Addr
  fd_are_names : FuncData
  f_is_pass : Addr
  fd_is_pass : FuncData
  f_lets : Addr
  fd_lets : FuncData
  f__law_well : Addr
  fd__law_well : FuncData
  f__law_take : Addr
  fd__law_take : FuncData
  f__law_name : Addr
  fd__law_name : FuncData
  f__law_rising : Addr
  fd__law_rising : FuncData
  f__law_town : Addr
  fd__law_town : FuncData
  f__law_far : Addr
  fd__law_far : FuncData
  f__law_thing : Addr
  fd__law_thing : FuncData
  f__law_otherwise : Addr
  fd__law_otherwise : FuncData
  f__law_says : Addr
  fd__law_says : FuncData
  f__law_is_name : Addr
  fd__law_is_name : FuncData
  f__law_is_number : Addr
  fd__law_is_number : FuncData
  f__law_rises : Addr
  fd__law_rises : FuncData
  f__law_pass : Addr
  fd__law_pass : FuncData
  f__law_is_pass : Addr
  fd__law_is_pass : FuncData
  f__law_lets : Addr
  fd__law_lets : FuncData
  f_law : Addr
  fd_law : FuncData
structure Txt (K : PySem.W.Frag) (mg : Str → Option Value) (A : Ad) (Z : Er) : Prop where
  F_is_within : Fun K "is_within" "is_within" s_is_within A.f_is_within A.fd_is_within
  b_is_within : Binds K A.fd_is_within ps_is_within []
  g_is_within : mg "is_within" = some (.ref A.f_is_within)
  F_is_name : Fun K "is_name" "is_name" s_is_name A.f_is_name A.fd_is_name
  b_is_name : Binds K A.fd_is_name ps_is_name []
  g_is_name : mg "is_name" = some (.ref A.f_is_name)
  F_rises : Fun K "rises" "rises" s_rises A.f_rises A.fd_rises
  b_rises : Binds K A.fd_rises ps_rises []
  g_rises : mg "rises" = some (.ref A.f_rises)
  F_are_names : Fun K "are_names" "are_names" s_are_names A.f_are_names A.fd_are_names
  b_are_names : Binds K A.fd_are_names ps_are_names []
  g_are_names : mg "are_names" = some (.ref A.f_are_names)
  F_is_pass : Fun K "is_pass" "is_pass" s_is_pass A.f_is_pass A.fd_is_pass
  b_is_pass : Binds K A.fd_is_pass ps_is_pass []
  g_is_pass : mg "is_pass" = some (.ref A.f_is_pass)
  F_lets : Fun K "lets" "lets" s_lets A.f_lets A.fd_lets
  b_lets : Binds K A.fd_lets ps_lets []
  g_lets : mg "lets" = some (.ref A.f_lets)
  F__law_well : Fun K "_law_well" "_law_well" s__law_well A.f__law_well A.fd__law_well
  b__law_well : Binds K A.fd__law_well ps__law_well []
  g__law_well : mg "_law_well" = some (.ref A.f__law_well)
  F__law_take : Fun K "_law_take" "_law_take" s__law_take A.f__law_take A.fd__law_take
  b__law_take : Binds K A.fd__law_take ps__law_take []
  g__law_take : mg "_law_take" = some (.ref A.f__law_take)
  F__law_name : Fun K "_law_name" "_law_name" s__law_name A.f__law_name A.fd__law_name
  b__law_name : Binds K A.fd__law_name ps__law_name []
  g__law_name : mg "_law_name" = some (.ref A.f__law_name)
  F__law_rising : Fun K "_law_rising" "_law_rising" s__law_rising A.f__law_rising A.fd__law_rising
  b__law_rising : Binds K A.fd__law_rising ps__law_rising []
  g__law_rising : mg "_law_rising" = some (.ref A.f__law_rising)
  F__law_town : Fun K "_law_town" "_law_town" s__law_town A.f__law_town A.fd__law_town
  b__law_town : Binds K A.fd__law_town ps__law_town []
  g__law_town : mg "_law_town" = some (.ref A.f__law_town)
  F__law_far : Fun K "_law_far" "_law_far" s__law_far A.f__law_far A.fd__law_far
  b__law_far : Binds K A.fd__law_far ps__law_far []
  g__law_far : mg "_law_far" = some (.ref A.f__law_far)
  F__law_thing : Fun K "_law_thing" "_law_thing" s__law_thing A.f__law_thing A.fd__law_thing
  b__law_thing : Binds K A.fd__law_thing ps__law_thing []
  g__law_thing : mg "_law_thing" = some (.ref A.f__law_thing)
  F__law_otherwise : Fun K "_law_otherwise" "_law_otherwise" s__law_otherwise A.f__law_otherwise A.fd__law_otherwise
  b__law_otherwise : Binds K A.fd__law_otherwise ps__law_otherwise []
  g__law_otherwise : mg "_law_otherwise" = some (.ref A.f__law_otherwise)
  F__law_says : Fun K "_law_says" "_law_says" s__law_says A.f__law_says A.fd__law_says
  b__law_says : Binds K A.fd__law_says ps__law_says []
  g__law_says : mg "_law_says" = some (.ref A.f__law_says)
  F__law_is_name : Fun K "_law_is_name" "_law_is_name" s__law_is_name A.f__law_is_name A.fd__law_is_name
  b__law_is_name : Binds K A.fd__law_is_name ps__law_is_name []
  g__law_is_name : mg "_law_is_name" = some (.ref A.f__law_is_name)
  F__law_is_number : Fun K "_law_is_number" "_law_is_number" s__law_is_number A.f__law_is_number A.fd__law_is_number
  b__law_is_number : Binds K A.fd__law_is_number ps__law_is_number []
  g__law_is_number : mg "_law_is_number" = some (.ref A.f__law_is_number)
  F__law_rises : Fun K "_law_rises" "_law_rises" s__law_rises A.f__law_rises A.fd__law_rises
  b__law_rises : Binds K A.fd__law_rises ps__law_rises []
  g__law_rises : mg "_law_rises" = some (.ref A.f__law_rises)
  F__law_pass : Fun K "_law_pass" "_law_pass" s__law_pass A.f__law_pass A.fd__law_pass
  b__law_pass : Binds K A.fd__law_pass ps__law_pass []
  g__law_pass : mg "_law_pass" = some (.ref A.f__law_pass)
  F__law_is_pass : Fun K "_law_is_pass" "_law_is_pass" s__law_is_pass A.f__law_is_pass A.fd__law_is_pass
  b__law_is_pass : Binds K A.fd__law_is_pass ps__law_is_pass []
  g__law_is_pass : mg "_law_is_pass" = some (.ref A.f__law_is_pass)
  F__law_lets : Fun K "_law_lets" "_law_lets" s__law_lets A.f__law_lets A.fd__law_lets
  b__law_lets : Binds K A.fd__law_lets ps__law_lets []
  g__law_lets : mg "_law_lets" = some (.ref A.f__law_lets)
  F_law : Fun K "law" "law" s_law A.f_law A.fd_law
  b_law : Binds K A.fd_law ps_law []
  g_law : mg "law" = some (.ref A.f_law)
  h_LETTERS : ∃ t, mg "LETTERS" = some (Value.str "abcdefghijklmnopqrstuvwxyz" t)
  h_MOST_TIMES : ∃ t, mg "MOST_TIMES" = some (Value.int 100 t)
  h_MOST_HOUR : ∃ t, mg "MOST_HOUR" = some (Value.int 1000000000000 t)
  z_all : mg "all" = none
  z_bool : mg "bool" = none
  z_int : mg "int" = none
  z_isinstance : mg "isinstance" = none
  z_len : mg "len" = none
  z_list : mg "list" = none
  z_max : mg "max" = none
  z_min : mg "min" = none
  z_range : mg "range" = none
  z_set : mg "set" = none
  z_sorted : mg "sorted" = none
  z_str : mg "str" = none
  z_tuple : mg "tuple" = none
  z_zip : mg "zip" = none
theorem Txt.g_LETTERS {K : PySem.W.Frag} {mg : Str → Option Value} {A : Ad} {Z : Er} (T : Txt K mg A Z) : mg "LETTERS" = some (Value.str "abcdefghijklmnopqrstuvwxyz" T.h_LETTERS.choose) := T.h_LETTERS.choose_spec
theorem Txt.g_MOST_TIMES {K : PySem.W.Frag} {mg : Str → Option Value} {A : Ad} {Z : Er} (T : Txt K mg A Z) : mg "MOST_TIMES" = some (Value.int 100 T.h_MOST_TIMES.choose) := T.h_MOST_TIMES.choose_spec
theorem Txt.g_MOST_HOUR {K : PySem.W.Frag} {mg : Str → Option Value} {A : Ad} {Z : Er} (T : Txt K mg A Z) : mg "MOST_HOUR" = some (Value.int 1000000000000 T.h_MOST_HOUR.choose) := T.h_MOST_HOUR.choose_spec
section
variable {P : Program} {w : PySem.World} {K : PySem.W.Frag} {mg : Str → Option Value} {base : Heap} {A : Ad} {Z : Er}
theorem ok_is_within (T : Txt K mg A Z) : FnOk P w K mg base CX0 1 A.f_is_within A.fd_is_within ps_is_within (sp_is_within K) :=
  T.F_is_within.ok sc_is_within (len_is_within) fun cdv A1 outer s H vs Q E hr h => ⟨t_is_within K, by
      exact (pss_one (ps_ret (pe_and (pe_callB call_isi (by rfl) T.z_isinstance bt_isinstance (pa_cons (pv 0) (pa_cons (pe_bltn (by rfl) T.z_int bt_int rfl) pa_nil))) (pe_and (pe_not (pe_callB call_isi (by rfl) T.z_isinstance bt_isinstance (pa_cons (pv 0) (pa_cons (pe_bltn (by rfl) T.z_bool bt_bool rfl) pa_nil)))) (pe_one (pe_chain op_kLe op_kLe (pv 1) (pv 0) (pv 2))))))), pure_is_within vs H Q E h⟩
theorem ok_is_name (T : Txt K mg A Z) : FnOk P w K mg base CX0 1 A.f_is_name A.fd_is_name ps_is_name (sp_is_name K) :=
  T.F_is_name.ok sc_is_name (len_is_name) fun cdv A1 outer s H vs Q E hr h => ⟨t_is_name K, by
      exact (pss_one (ps_ret (pe_and (pe_callB call_isi (by rfl) T.z_isinstance bt_isinstance (pa_cons (pv 0) (pa_cons (pe_bltn (by rfl) T.z_str bt_str rfl) pa_nil))) (pe_and (pe_chain op_kLe op_kLe pe_int (pe_callB call_kLen (by rfl) T.z_len bt_len (pa_cons (pv 0) pa_nil)) pe_int) (pe_one (pe_callB (cr_all rfl) (by rfl) T.z_all bt_all (pa_cons (pe_lc (own := [("sign", 1)]) (g := (gName 1)) (tt := tYes) rfl sc_is_name.nd (pi_seq (pv 0)) (blkOk_by (own := [("sign", 1)]) (N := ns_is_name) (sc := defScope s_is_name) (by decide +kernel)) (fun _ _ _ _ _ => (pg_name (i := 1) sc_is_name.nd rfl (Or.inl rfl))) (fun _ _ _ _ _ => pts_nil) (fun _ _ _ _ _ => (pe_cmpR op_kIn (pv 1) (pe_glob (by rfl) T.g_LETTERS ⟨_, rfl⟩) (by rfl)))) pa_nil))))))), pure_is_name vs H Q E h⟩
theorem ok_rises (T : Txt K mg A Z) : FnOk P w K mg base CX0 1 A.f_rises A.fd_rises ps_rises (sp_rises K) :=
  T.F_rises.ok sc_rises (len_rises) fun cdv A1 outer s H vs Q E hr h => ⟨t_rises K, by
      exact (pss_one (ps_ret (pe_callB (cr_all rfl) (by rfl) T.z_all bt_all (pa_cons (pe_lc (own := [("one", 1), ("other", 2)]) (g := (gTup K 2 (gCons (gName 1) (gCons (gName 2) gNil)))) (tt := tYes) rfl sc_rises.nd (RZ.pi_zipA (by rfl) T.z_zip (pa_cons (pv 0) (pa_cons (pe_slice sl_k (pv 0) (po_some pe_int) po_none) pa_nil))) (blkOk_by (own := [("one", 1), ("other", 2)]) (N := ns_rises) (sc := defScope s_rises) (by decide +kernel)) (fun _ _ _ _ _ => (pg_tup rfl (pgs_cons (pg_name (i := 1) sc_rises.nd rfl (Or.inl rfl)) (pgs_cons (pg_name (i := 2) sc_rises.nd rfl (Or.inl rfl)) pgs_nil)))) (fun _ _ _ _ _ => pts_nil) (fun _ _ _ _ _ => (pe_cmpR (op_kLt hr) (pv 1) (pv 2) (nomark _)))) pa_nil)))), pure_rises vs H Q E h⟩
theorem ok_are_names (T : Txt K mg A Z) : FnOk P w K mg base CX0 2 A.f_are_names A.fd_are_names ps_are_names (sp_are_names K) :=
  T.F_are_names.ok sc_are_names (len_are_names) fun cdv A1 outer s H vs Q E hr h => ⟨t_are_names K, by
      exact (pss_one (ps_ret (pe_and (pe_callB call_isi (by rfl) T.z_isinstance bt_isinstance (pa_cons (pv 0) (pa_cons (pe_bltn (by rfl) T.z_tuple bt_tuple rfl) pa_nil))) (pe_and (pe_callB (cr_all rfl) (by rfl) T.z_all bt_all (pa_cons (pe_lc (own := [("part", 1)]) (g := (gName 1)) (tt := tYes) rfl sc_are_names.nd (pi_seq (pv 0)) (blkOk_by (own := [("part", 1)]) (N := ns_are_names) (sc := defScope s_are_names) (by decide +kernel)) (fun _ _ _ _ _ => (pg_name (i := 1) sc_are_names.nd rfl (Or.inl rfl))) (fun _ _ _ _ _ => pts_nil) (fun _ _ _ _ _ => (pe_call (ok_is_name T) hr (by rfl) T.g_is_name T.F_is_name.kp T.b_is_name .nil pass0 (pa_cons (pv 1) pa_nil)))) pa_nil)) (pe_one (pe_call (ok_rises T) hr (by rfl) T.g_rises T.F_rises.kp T.b_rises .nil pass0 (pa_cons (pv 0) pa_nil))))))), pure_are_names vs H Q E h⟩
theorem ok_is_pass (T : Txt K mg A Z) : FnOk P w K mg base CX0 3 A.f_is_pass A.fd_is_pass ps_is_pass (sp_is_pass K) :=
  T.F_is_pass.ok sc_is_pass (len_is_pass) fun cdv A1 outer s H vs Q E hr h => ⟨t_is_pass K, by
      exact (pss_cons (ps_if (PW.pt (pw_or (pt_not (pt_val (pe_callB call_isi (by rfl) T.z_isinstance bt_isinstance (pa_cons (pv 0) (pa_cons (pe_bltn (by rfl) T.z_tuple bt_tuple rfl) pa_nil))))) (pw_or (pt_cmpR (op_kNe hr) (pe_callB call_kLen (by rfl) T.z_len bt_len (pa_cons (pv 0) pa_nil)) pe_int (nomark _)) (pw_or (pt_not (pt_val (pe_call (ok_is_name T) (hr.mono (by decide)) (by rfl) T.g_is_name T.F_is_name.kp T.b_is_name .nil pass0 (pa_cons (pe_ix ix_seq (pv 0) pe_int (fun _ _ => rfl)) pa_nil)))) (pw_or1 (pt_not (pt_val (pe_call (ok_are_names T) hr (by rfl) T.g_are_names T.F_are_names.kp T.b_are_names .nil pass0 (pa_cons (pe_ix ix_seq (pv 0) pe_int (fun _ _ => rfl)) pa_nil)))))))))
        (pss_one (ps_ret pe_bl))
        pss_nil)
        (pss_cons (ps_if (PW.pt (pw_or (pt_not (pt_val (pe_call (ok_is_within T) (hr.mono (by decide)) (by rfl) T.g_is_within T.F_is_within.kp T.b_is_within .nil pass0 (pa_cons (pe_ix ix_seq (pv 0) pe_int (fun _ _ => rfl)) (pa_cons pe_int (pa_cons (pe_glob (by rfl) T.g_MOST_HOUR ⟨_, rfl⟩) pa_nil)))))) (pw_or1 (pt_not (pt_val (pe_call (ok_is_within T) (hr.mono (by decide)) (by rfl) T.g_is_within T.F_is_within.kp T.b_is_within .nil pass0 (pa_cons (pe_ix ix_seq (pv 0) pe_int (fun _ _ => rfl)) (pa_cons (pe_ix ix_seq (pv 0) pe_int (fun _ _ => rfl)) (pa_cons (pe_glob (by rfl) T.g_MOST_HOUR ⟨_, rfl⟩) pa_nil)))))))))
        (pss_one (ps_ret pe_bl))
        pss_nil)
        (pss_one (ps_ret (pe_or (pe_cmpR op_kIsN (pe_ix ix_seq (pv 0) pe_int (fun _ _ => rfl)) pe_non (nomark _)) (pe_one (pe_call (ok_is_within T) (hr.mono (by decide)) (by rfl) T.g_is_within T.F_is_within.kp T.b_is_within .nil pass0 (pa_cons (pe_ix ix_seq (pv 0) pe_int (fun _ _ => rfl)) (pa_cons pe_int (pa_cons (pe_glob (by rfl) T.g_MOST_TIMES ⟨_, rfl⟩) pa_nil)))))))))), pure_is_pass vs H Q E h⟩
theorem ok_lets (T : Txt K mg A Z) : FnOk P w K mg base CX0 1 A.f_lets A.fd_lets ps_lets (sp_lets K) :=
  T.F_lets.ok sc_lets (len_lets) fun cdv A1 outer s H vs Q E hr h => ⟨t_lets K, by
      exact (pss_cons (ps_asg (pv 0) (pg_tup rfl (pgs_cons (pg_name (i := 5) sc_lets.nd rfl (Or.inl rfl)) (pgs_cons (pg_name (i := 6) sc_lets.nd rfl (Or.inl rfl)) (pgs_cons (pg_name (i := 7) sc_lets.nd rfl (Or.inl rfl)) (pgs_cons (pg_name (i := 8) sc_lets.nd rfl (Or.inl rfl)) (pgs_cons (pg_name (i := 9) sc_lets.nd rfl (Or.inl rfl)) pgs_nil)))))))
        (pss_cons (ps_if (PW.pt (pw_or (pt_cmpR (op_kNe hr) (pv 1) (pv 5) (nomark _)) (pw_or1 (PW.pt (pw_and (pt_cmpR (op_kNe hr) (pv 6) (pe_tup pa_nil) (nomark _)) (pw_and1 (pt_cmpR op_kNotIn (pv 2) (pv 6) (by rfl))))))))
        (pss_one (ps_ret pe_bl))
        pss_nil)
        (pss_one (ps_ret (pe_and (pe_chain op_kLe op_kLe (pv 7) (pv 3) (pv 8)) (pe_one (pe_or (pe_cmpR op_kIsN (pv 9) pe_non (nomark _)) (pe_one (pe_cmpR (op_kLt hr) (pv 4) (pv 9) (nomark _)))))))))), pure_lets vs H Q E h⟩
theorem ok__law_well (T : Txt K mg A Z) : FnOk P w K mg base CX0 1 A.f__law_well A.fd__law_well ps__law_well (sp__law_well K) :=
  T.F__law_well.ok sc__law_well (len__law_well) fun cdv A1 outer s H vs Q E hr h => ⟨t__law_well K, by
      exact (pss_cons (ps_if (pt_cmpR op_kGe (pv 0) (pe_op op_kPow pe_int pe_int) (nomark _))
        (pss_one (ps_ret (pe_lst (pa_cons (pe_op op_kSub (pv 0) (pe_op op_kPow pe_int pe_int)) (pa_cons (pe_op op_kMod (pv 0) pe_int) (pa_cons (pv 1) pa_nil))))))
        pss_nil)
        (pss_one (ps_ret (pe_lst (pa_cons pe_int (pa_cons (pe_op op_kMod (pv 0) pe_int) (pa_cons (pv 1) pa_nil))))))), pure__law_well vs H Q E h⟩
theorem ok__law_take (T : Txt K mg A Z) : FnOk P w K mg base CX0 1 A.f__law_take A.fd__law_take ps__law_take (sp__law_take K) :=
  T.F__law_take.ok sc__law_take (len__law_take) fun cdv A1 outer s H vs Q E hr h => ⟨t__law_take K, by
      exact (pss_cons (ps_if (pt_cmpR op_kGt (pe_ix ix_seq (pv 0) pe_int (fun _ _ => rfl)) pe_int (nomark _))
        (pss_cons (ps_set (i := 2) sc__law_take.nd rfl (Or.inl rfl) (pe_op op_kMod (pe_ix ix_seq (pv 0) pe_int (fun _ _ => rfl)) (pv 1)))
        (pss_cons (ps_asg (pe_op op_kDiv (pe_ix ix_seq (pv 0) pe_int (fun _ _ => rfl)) (pv 1)) (pg_sub (pv 0) pe_int set_list))
        (pss_one (ps_ret (pv 2)))))
        pss_nil)
        (pss_cons (ps_asg (pe_op op_kAdd (pe_ix ix_seq (pv 0) pe_int (fun _ _ => rfl)) pe_int) (pg_sub (pv 0) pe_int set_list))
        (pss_cons (ps_set (i := 3) sc__law_take.nd rfl (Or.inl rfl) pe_int)
        (pss_cons (ps_set (i := 4) sc__law_take.nd rfl (Or.inl rfl) (pe_op op_kMod (pe_op op_kAdd (pe_ix ix_seq (pv 0) pe_int (fun _ _ => rfl)) (pe_op op_kMul pe_int (pe_ix ix_seq (pv 0) pe_int (fun _ _ => rfl)))) (pv 3)))
        (pss_cons (ps_set (i := 4) sc__law_take.nd rfl (Or.inl rfl) (pe_op op_kMod (pe_op op_kAdd (pe_op op_kAdd (pe_op op_kMul (pv 4) (pv 4)) (pe_op op_kMul pe_int (pe_op op_kPow (pe_ix ix_seq (pv 0) pe_int (fun _ _ => rfl)) pe_int))) pe_int) (pv 3)))
        (pss_one (ps_ret (pe_op op_kMod (pe_op op_kDiv (pe_op op_kMod (pe_op op_kPow (pv 4) pe_int) (pv 3)) pe_int) (pv 1))))))))), pure__law_take vs H Q E h⟩
theorem ok__law_name (T : Txt K mg A Z) : FnOk P w K mg base CX0 2 A.f__law_name A.fd__law_name ps__law_name (sp__law_name K) :=
  T.F__law_name.ok sc__law_name (len__law_name) fun cdv A1 outer s H vs Q E hr h => ⟨t__law_name K, by
      exact (pss_cons (ps_set (i := 1) sc__law_name.nd rfl (Or.inl rfl) (pe_call (ok__law_take T) hr (by rfl) T.g__law_take T.F__law_take.kp T.b__law_take .nil pass0 (pa_cons (pv 0) (pa_cons pe_int pa_nil))))
        (pss_cons (ps_if (pt_cmpR (op_kLt hr) (pv 1) pe_int (nomark _))
        (pss_one (ps_ret (pe_ix ix_seq (pe_lst (pa_cons pe_str (pa_cons pe_str (pa_cons pe_str (pa_cons pe_str (pa_cons pe_str (pa_cons pe_str (pa_cons pe_str pa_nil)))))))) (pv 1) (fun _ _ => rfl))))
        pss_nil)
        (pss_cons (ps_set (i := 2) sc__law_name.nd rfl (Or.inr rfl) pe_str)
        (pss_cons (ps_set (i := 3) sc__law_name.nd rfl (Or.inl rfl) (pe_ix ix_seq (pe_lst (pa_cons pe_int (pa_cons pe_int (pa_cons pe_int pa_nil)))) (pe_call (ok__law_take T) hr (by rfl) T.g__law_take T.F__law_take.kp T.b__law_take .nil pass0 (pa_cons (pv 0) (pa_cons pe_int pa_nil))) (fun _ _ => rfl)))
        (pss_one (ps_ret (pe_join pe_str (pe_lc (own := [("k", 4)]) (g := (gName 4)) (tt := tYes) rfl sc__law_name.nd (pi_range1 (by rfl) T.z_range (pa_cons (pv 3) pa_nil)) (blkOk_by (own := [("k", 4)]) (N := ns__law_name) (sc := defScope s__law_name) (by decide +kernel)) (fun _ _ _ _ _ => (pg_name (i := 4) sc__law_name.nd rfl (Or.inl rfl))) (fun _ _ _ _ _ => pts_nil) (fun _ _ _ _ _ => (pe_ix ix_seq (pv 2) (pe_call (ok__law_take T) hr (by rfl) T.g__law_take T.F__law_take.kp T.b__law_take .nil pass0 (pa_cons (pv 0) (pa_cons pe_int pa_nil))) (fun _ _ => rfl))))))))))), pure__law_name vs H Q E h⟩
theorem ok__law_rising (T : Txt K mg A Z) : FnOk P w K mg base CX0 3 A.f__law_rising A.fd__law_rising ps__law_rising (sp__law_rising K) :=
  T.F__law_rising.ok sc__law_rising (len__law_rising) fun cdv A1 outer s H vs Q E hr h => ⟨t__law_rising K, by
      exact (pss_cons (ps_set (i := 2) sc__law_rising.nd rfl (Or.inl rfl) pe_dnewK)
        (pss_cons (ps_for PassesOwn.never rfl (pi_range1 (by rfl) T.z_range (pa_cons (pe_op op_kAdd pe_int (pe_call (ok__law_take T) (hr.mono (by decide)) (by rfl) T.g__law_take T.F__law_take.kp T.b__law_take .nil pass0 (pa_cons (pv 0) (pa_cons (pv 1) pa_nil)))) pa_nil)) (pg_name (i := 3) sc__law_rising.nd rfl (Or.inl rfl))
        (pss_one (ps_dput (hu_of hr) (pv 2) (pe_call (ok__law_name T) hr (by rfl) T.g__law_name T.F__law_name.kp T.b__law_name .nil pass0 (pa_cons (pv 0) pa_nil)) pe_bl rfl)))
        (pss_one (ps_ret (pe_callB (call_kSorted rfl) (by rfl) T.z_sorted bt_sorted (pa_cons (pv 2) pa_nil)))))), pure__law_rising vs H Q E h⟩
theorem ok__law_town (T : Txt K mg A Z) : FnOk P w K mg base CX0 4 A.f__law_town A.fd__law_town ps__law_town (sp__law_town K) :=
  T.F__law_town.ok sc__law_town (len__law_town) fun cdv A1 outer s H vs Q E hr h => ⟨t__law_town K, by
      exact (pss_cons (ps_set (i := 2) sc__law_town.nd rfl (Or.inl rfl) (pe_lst pa_nil))
        (pss_cons (ps_for PassesOwn.never rfl (pi_seq (pe_call (ok__law_rising T) hr (by rfl) T.g__law_rising T.F__law_rising.kp T.b__law_rising .nil pass0 (pa_cons (pv 0) (pa_cons (pv 1) pa_nil)))) (pg_name (i := 3) sc__law_town.nd rfl (Or.inl rfl))
        (pss_cons (ps_set (i := 4) sc__law_town.nd rfl (Or.inl rfl) (pe_call (ok__law_take T) (hr.mono (by decide)) (by rfl) T.g__law_take T.F__law_take.kp T.b__law_take .nil pass0 (pa_cons (pv 0) (pa_cons pe_int pa_nil))))
        (pss_cons (ps_set (i := 5) sc__law_town.nd rfl (Or.inl rfl) (pe_ix ix_seq (pe_lst (pa_cons (pe_call (ok__law_take T) (hr.mono (by decide)) (by rfl) T.g__law_take T.F__law_take.kp T.b__law_take .nil pass0 (pa_cons (pv 0) (pa_cons pe_int pa_nil))) (pa_cons pe_int (pa_cons pe_int (pa_cons pe_int pa_nil))))) (pe_op op_kDiv (pe_op op_kMul (pe_op op_kDiv (pe_op op_kMul (pe_call (ok__law_take T) (hr.mono (by decide)) (by rfl) T.g__law_take T.F__law_take.kp T.b__law_take .nil pass0 (pa_cons (pv 0) (pa_cons pe_int pa_nil))) pe_int) pe_int) pe_int) pe_int) (fun _ _ => rfl)))
        (pss_one (ps_expr (pe_bm PySem.F.plainAttrs_list PySem.F.slot_list_append PySem.F.type_list_append mt_append (pv 2) (pa_cons (pe_tup (pa_cons (pv 3) (pa_cons (pv 4) (pa_cons (pe_op op_kMod (pe_op op_kAdd (pv 4) (pv 5)) pe_int) (pa_cons (pe_cmpR (op_kEq hr) (pe_call (ok__law_take T) (hr.mono (by decide)) (by rfl) T.g__law_take T.F__law_take.kp T.b__law_take .nil pass0 (pa_cons (pv 0) (pa_cons pe_int pa_nil))) pe_int (nomark _)) pa_nil))))) pa_nil)))))))
        (pss_one (ps_ret (pe_callTy call_kTuple (by rfl) T.z_tuple bt_tuple (pa_cons (pv 2) pa_nil)))))), pure__law_town vs H Q E h⟩
theorem ok__law_far (T : Txt K mg A Z) : FnOk P w K mg base CX0 2 A.f__law_far A.fd__law_far ps__law_far (sp__law_far K) :=
  T.F__law_far.ok sc__law_far (len__law_far) fun cdv A1 outer s H vs Q E hr h => ⟨t__law_far K, by
      exact (pss_cons (ps_set (i := 1) sc__law_far.nd rfl (Or.inl rfl) (pe_call (ok__law_take T) hr (by rfl) T.g__law_take T.F__law_take.kp T.b__law_take .nil pass0 (pa_cons (pv 0) (pa_cons pe_int pa_nil))))
        (pss_one (ps_ret (pe_ix ix_seq (pe_lst (pa_cons (pv 1) (pa_cons (pe_op op_kSub (pe_op op_kPow pe_int pe_int) (pv 1)) (pa_cons (pe_call (ok__law_take T) hr (by rfl) T.g__law_take T.F__law_take.kp T.b__law_take .nil pass0 (pa_cons (pv 0) (pa_cons (pe_op op_kAdd (pe_op op_kPow pe_int pe_int) pe_int) pa_nil))) pa_nil)))) (pe_call (ok__law_take T) hr (by rfl) T.g__law_take T.F__law_take.kp T.b__law_take .nil pass0 (pa_cons (pv 0) (pa_cons pe_int pa_nil))) (fun _ _ => rfl))))), pure__law_far vs H Q E h⟩
theorem okn__law_thing (T : Txt K mg A Z) : ∀ n : Nat, FnOk P w K mg base CX0 (n + 2) A.f__law_thing A.fd__law_thing ps__law_thing (spn__law_thing K n)
  | 0 => T.F__law_thing.ok (k := 0 + 1) sc__law_thing (len__law_thing _) fun cdv A1 outer s H vs Q E hr h => ⟨t__law_thing K spNo, by
      have okr : FnOk P w K mg base CX0 (0 + 1) A.f__law_thing A.fd__law_thing ps__law_thing spNo := fn_no
      exact (pss_cons (ps_set (i := 2) sc__law_thing.nd rfl (Or.inl rfl) (pe_call (ok__law_take T) (hr.mono (by omega)) (by rfl) T.g__law_take T.F__law_take.kp T.b__law_take .nil pass0 (pa_cons (pv 0) (pa_cons pe_int pa_nil))))
        (pss_cons (ps_if (PW.pt (pw_or (pt_cmpR (op_kLt hr) (pv 2) pe_int (nomark _)) (pw_or1 (pt_cmpR (op_kEq hr) (pv 1) pe_int (nomark _)))))
        (pss_cons (ps_set (i := 3) sc__law_thing.nd rfl (Or.inl rfl) (pe_lst (pa_cons pe_int (pa_cons (pe_un un_neg pe_int) (pa_cons pe_int (pa_cons pe_bl (pa_cons pe_bl (pa_cons pe_non (pa_cons pe_str (pa_cons pe_str (pa_cons pe_str (pa_cons pe_str (pa_cons pe_str (pa_cons pe_int (pa_cons pe_int (pa_cons (pe_op op_kPow pe_int pe_int) (pa_cons (pe_op op_kPow pe_int pe_int) pa_nil)))))))))))))))))
        (pss_one (ps_ret (pe_ix ix_seq (pe_op op_kAdd (pv 3) (pe_lst (pa_cons (pe_tup pa_nil) (pa_cons (pe_lst pa_nil) (pa_cons pe_str pa_nil))))) (pe_call (ok__law_take T) (hr.mono (by omega)) (by rfl) T.g__law_take T.F__law_take.kp T.b__law_take .nil pass0 (pa_cons (pv 0) (pa_cons pe_int pa_nil))) (fun _ _ => rfl)))))
        pss_nil)
        (pss_cons (ps_setLc (i := 4) (own := [("k", 5)]) (g := (gName 5)) (tt := tYes) rfl sc__law_thing.nd rfl rfl (sw_true rfl rfl rfl (by decide +kernel)) (pi_range1 (by rfl) T.z_range (pa_cons (pe_call (ok__law_take T) (hr.mono (by omega)) (by rfl) T.g__law_take T.F__law_take.kp T.b__law_take .nil pass0 (pa_cons (pv 0) (pa_cons pe_int pa_nil))) pa_nil)) (blkOk_by (own := [("k", 5)]) (N := ns__law_thing) (sc := defScope s__law_thing) (by decide +kernel)) (fun _ _ _ _ _ => (pg_name (i := 5) sc__law_thing.nd rfl (Or.inl rfl))) (fun _ _ _ _ _ => pts_nil) (fun _ _ _ _ _ => (pe_call okr (hr.mono (by omega)) (by rfl) T.g__law_thing T.F__law_thing.kp T.b__law_thing .nil pass0 (pa_cons (pv 0) (pa_cons (pe_op op_kSub (pv 1) pe_int) pa_nil)))))
        (pss_one (ps_ret (pe_ix ix_seq (pe_lst (pa_cons (pv 4) (pa_cons (pe_callTy call_kTuple (by rfl) T.z_tuple bt_tuple (pa_cons (pv 4) pa_nil)) (pa_cons (pe_callTy call_kTuple (by rfl) T.z_tuple bt_tuple (pa_cons (pv 4) pa_nil)) pa_nil)))) (pe_op op_kSub (pv 2) pe_int) (fun _ _ => rfl))))))), pure__law_thing (0) _ (fun _ h => nomatch h) vs H Q E h⟩
  | n + 1 => T.F__law_thing.ok (k := n + 1 + 1) sc__law_thing (len__law_thing _) fun cdv A1 outer s H vs Q E hr h => ⟨t__law_thing K (spn__law_thing K n), by
      have okr : FnOk P w K mg base CX0 (n + 2) A.f__law_thing A.fd__law_thing ps__law_thing (spn__law_thing K n) := okn__law_thing T n
      exact (pss_cons (ps_set (i := 2) sc__law_thing.nd rfl (Or.inl rfl) (pe_call (ok__law_take T) (hr.mono (by omega)) (by rfl) T.g__law_take T.F__law_take.kp T.b__law_take .nil pass0 (pa_cons (pv 0) (pa_cons pe_int pa_nil))))
        (pss_cons (ps_if (PW.pt (pw_or (pt_cmpR (op_kLt hr) (pv 2) pe_int (nomark _)) (pw_or1 (pt_cmpR (op_kEq hr) (pv 1) pe_int (nomark _)))))
        (pss_cons (ps_set (i := 3) sc__law_thing.nd rfl (Or.inl rfl) (pe_lst (pa_cons pe_int (pa_cons (pe_un un_neg pe_int) (pa_cons pe_int (pa_cons pe_bl (pa_cons pe_bl (pa_cons pe_non (pa_cons pe_str (pa_cons pe_str (pa_cons pe_str (pa_cons pe_str (pa_cons pe_str (pa_cons pe_int (pa_cons pe_int (pa_cons (pe_op op_kPow pe_int pe_int) (pa_cons (pe_op op_kPow pe_int pe_int) pa_nil)))))))))))))))))
        (pss_one (ps_ret (pe_ix ix_seq (pe_op op_kAdd (pv 3) (pe_lst (pa_cons (pe_tup pa_nil) (pa_cons (pe_lst pa_nil) (pa_cons pe_str pa_nil))))) (pe_call (ok__law_take T) (hr.mono (by omega)) (by rfl) T.g__law_take T.F__law_take.kp T.b__law_take .nil pass0 (pa_cons (pv 0) (pa_cons pe_int pa_nil))) (fun _ _ => rfl)))))
        pss_nil)
        (pss_cons (ps_setLc (i := 4) (own := [("k", 5)]) (g := (gName 5)) (tt := tYes) rfl sc__law_thing.nd rfl rfl (sw_true rfl rfl rfl (by decide +kernel)) (pi_range1 (by rfl) T.z_range (pa_cons (pe_call (ok__law_take T) (hr.mono (by omega)) (by rfl) T.g__law_take T.F__law_take.kp T.b__law_take .nil pass0 (pa_cons (pv 0) (pa_cons pe_int pa_nil))) pa_nil)) (blkOk_by (own := [("k", 5)]) (N := ns__law_thing) (sc := defScope s__law_thing) (by decide +kernel)) (fun _ _ _ _ _ => (pg_name (i := 5) sc__law_thing.nd rfl (Or.inl rfl))) (fun _ _ _ _ _ => pts_nil) (fun _ _ _ _ _ => (pe_call okr (hr.mono (by omega)) (by rfl) T.g__law_thing T.F__law_thing.kp T.b__law_thing .nil pass0 (pa_cons (pv 0) (pa_cons (pe_op op_kSub (pv 1) pe_int) pa_nil)))))
        (pss_one (ps_ret (pe_ix ix_seq (pe_lst (pa_cons (pv 4) (pa_cons (pe_callTy call_kTuple (by rfl) T.z_tuple bt_tuple (pa_cons (pv 4) pa_nil)) (pa_cons (pe_callTy call_kTuple (by rfl) T.z_tuple bt_tuple (pa_cons (pv 4) pa_nil)) pa_nil)))) (pe_op op_kSub (pv 2) pe_int) (fun _ _ => rfl))))))), pure__law_thing (n + 1) _ (fun _ h => by cases h; rfl) vs H Q E h⟩
theorem ok__law_thing (T : Txt K mg A Z) : FnOk P w K mg base CX0 5 A.f__law_thing A.fd__law_thing ps__law_thing (sp__law_thing K) := fn_any (m := 3) (k := 2) (okn__law_thing T)
theorem okn__law_otherwise (T : Txt K mg A Z) : ∀ n : Nat, FnOk P w K mg base CX0 (n + 6) A.f__law_otherwise A.fd__law_otherwise ps__law_otherwise (spn__law_otherwise K n)
  | 0 => T.F__law_otherwise.ok (k := 0 + 5) sc__law_otherwise (len__law_otherwise _) fun cdv A1 outer s H vs Q E hr h => ⟨t__law_otherwise K spNo, by
      have okr : FnOk P w K mg base CX0 (0 + 5) A.f__law_otherwise A.fd__law_otherwise ps__law_otherwise spNo := fn_no
      exact (pss_cons (ps_set (i := 3) sc__law_otherwise.nd rfl (Or.inl rfl) (pe_callTy call_kList (by rfl) T.z_list bt_list (pa_cons (pv 1) pa_nil)))
        (pss_cons (ps_if (pt_cmpR (op_kEq hr) (pv 3) (pe_lst pa_nil) (nomark _))
        (pss_one (ps_ret (pe_tup (pa_cons (pe_call (ok__law_thing T) (hr.mono (by omega)) (by rfl) T.g__law_thing T.F__law_thing.kp T.b__law_thing .nil pass0 (pa_cons (pv 0) (pa_cons pe_int pa_nil))) pa_nil))))
        pss_nil)
        (pss_cons (ps_set (i := 4) sc__law_otherwise.nd rfl (Or.inl rfl) (pe_call (ok__law_take T) (hr.mono (by omega)) (by rfl) T.g__law_take T.F__law_take.kp T.b__law_take .nil pass0 (pa_cons (pv 0) (pa_cons (pe_callB call_kLen (by rfl) T.z_len bt_len (pa_cons (pv 3) pa_nil)) pa_nil))))
        (pss_cons (ps_if (PW.pt (pw_and (pt_val (pe_callB call_isi (by rfl) T.z_isinstance bt_isinstance (pa_cons (pe_ix ix_seq (pv 3) (pv 4) (fun _ _ => rfl)) (pa_cons (pe_bltn (by rfl) T.z_tuple bt_tuple rfl) pa_nil)))) (pw_and (pt_cmpR op_kGt (pv 2) pe_int (nomark _)) (pw_and1 (pt_cmpR op_kGt (pe_call (ok__law_take T) (hr.mono (by omega)) (by rfl) T.g__law_take T.F__law_take.kp T.b__law_take .nil pass0 (pa_cons (pv 0) (pa_cons pe_int pa_nil))) pe_int (nomark _))))))
        (pss_cons (ps_asg (pe_call okr (hr.mono (by omega)) (by rfl) T.g__law_otherwise T.F__law_otherwise.kp T.b__law_otherwise .nil pass0 (pa_cons (pv 0) (pa_cons (pe_ix ix_seq (pv 3) (pv 4) (fun _ _ => rfl)) (pa_cons (pe_op op_kSub (pv 2) pe_int) pa_nil)))) (pg_sub (pv 3) (pv 4) set_list))
        (pss_one (ps_ret (pe_callTy call_kTuple (by rfl) T.z_tuple bt_tuple (pa_cons (pv 3) pa_nil)))))
        pss_nil)
        (pss_cons (ps_set (i := 5) sc__law_otherwise.nd rfl (Or.inl rfl) (pe_call (ok__law_take T) (hr.mono (by omega)) (by rfl) T.g__law_take T.F__law_take.kp T.b__law_take .nil pass0 (pa_cons (pv 0) (pa_cons pe_int pa_nil))))
        (pss_cons (ps_if (pt_cmpR (op_kEq hr) (pv 5) pe_int (nomark _))
        (pss_one (ps_expr (pe_bm PySem.F.plainAttrs_list PySem.F.slot_list_pop PySem.F.type_list_pop mt_popAt (pv 3) (pa_cons (pv 4) pa_nil))))
        (pss_one (ps_if (pt_cmpR (op_kEq hr) (pv 5) pe_int (nomark _))
        (pss_one (ps_expr (pe_bm PySem.F.plainAttrs_list PySem.F.slot_list_insert PySem.F.type_list_insert mt_rInsert (pv 3) (pa_cons (pv 4) (pa_cons (pe_ix ix_seq (pv 3) (pv 4) (fun _ _ => rfl)) pa_nil)))))
        (pss_one (ps_if (pt_cmpR (op_kEq hr) (pv 5) pe_int (nomark _))
        (pss_one (ps_cut (pv 3) (po_some (pv 4)) (po_some (pe_op op_kAdd (pv 4) pe_int)) (pe_revL (pe_slice sl_k (pv 3) (po_some (pv 4)) (po_some (pe_op op_kAdd (pv 4) pe_int))))))
        (pss_one (ps_if (pt_cmpR (op_kEq hr) (pv 5) pe_int (nomark _))
        (pss_one (ps_asg (pe_call (ok__law_thing T) (hr.mono (by omega)) (by rfl) T.g__law_thing T.F__law_thing.kp T.b__law_thing .nil pass0 (pa_cons (pv 0) (pa_cons pe_int pa_nil))) (pg_sub (pv 3) (pv 4) set_list)))
        (pss_one (ps_if (pt_cmpR (op_kLt hr) (pv 5) pe_int (nomark _))
        (pss_cons (ps_set (i := 6) sc__law_otherwise.nd rfl (Or.inl rfl) (pe_lst (pa_cons pe_int (pa_cons pe_int (pa_cons (pe_un un_neg pe_int) (pa_cons pe_int (pa_cons pe_int (pa_cons pe_int (pa_cons pe_int (pa_cons pe_int (pa_cons pe_int (pa_cons pe_int (pa_cons pe_int (pa_cons (pe_op op_kPow pe_int pe_int) (pa_cons (pe_op op_kAdd (pe_op op_kPow pe_int pe_int) pe_int) (pa_cons (pe_op op_kPow pe_int pe_int) (pa_cons (pe_op op_kAdd (pe_op op_kPow pe_int pe_int) pe_int) pa_nil)))))))))))))))))
        (pss_one (ps_asg (pe_ix ix_seq (pe_op op_kAdd (pv 6) (pe_lst (pa_cons pe_non (pa_cons pe_bl pa_nil)))) (pe_call (ok__law_take T) (hr.mono (by omega)) (by rfl) T.g__law_take T.F__law_take.kp T.b__law_take .nil pass0 (pa_cons (pv 0) (pa_cons pe_int pa_nil))) (fun _ _ => rfl)) (pg_sub (pv 3) (pv 4) set_list))))
        (pss_one (ps_if (PW.pt (pw_and (pt_cmpR (op_kEq hr) (pv 5) pe_int (nomark _)) (pw_and (pt_val (pe_callB call_isi (by rfl) T.z_isinstance bt_isinstance (pa_cons (pe_ix ix_seq (pv 3) (pv 4) (fun _ _ => rfl)) (pa_cons (pe_bltn (by rfl) T.z_int bt_int rfl) pa_nil)))) (pw_and1 (pt_not (pt_val (pe_callB call_isi (by rfl) T.z_isinstance bt_isinstance (pa_cons (pe_ix ix_seq (pv 3) (pv 4) (fun _ _ => rfl)) (pa_cons (pe_bltn (by rfl) T.z_bool bt_bool rfl) pa_nil)))))))))
        (pss_one (ps_asg (pe_op op_kAdd (pe_ix ix_seq (pv 3) (pv 4) (fun _ _ => rfl)) (pe_ix ix_seq (pe_lst (pa_cons pe_int (pa_cons (pe_un un_neg pe_int) (pa_cons pe_int pa_nil)))) (pe_call (ok__law_take T) (hr.mono (by omega)) (by rfl) T.g__law_take T.F__law_take.kp T.b__law_take .nil pass0 (pa_cons (pv 0) (pa_cons pe_int pa_nil))) (fun _ _ => rfl))) (pg_sub (pv 3) (pv 4) set_list)))
        (pss_one (ps_if (PW.pt (pw_and (pt_cmpR (op_kEq hr) (pv 5) pe_int (nomark _)) (pw_and1 (pt_val (pe_callB call_isi (by rfl) T.z_isinstance bt_isinstance (pa_cons (pe_ix ix_seq (pv 3) (pv 4) (fun _ _ => rfl)) (pa_cons (pe_bltn (by rfl) T.z_tuple bt_tuple rfl) pa_nil)))))))
        (pss_one (ps_asg (pe_callTy call_kList (by rfl) T.z_list bt_list (pa_cons (pe_ix ix_seq (pv 3) (pv 4) (fun _ _ => rfl)) pa_nil)) (pg_sub (pv 3) (pv 4) set_list)))
        (pss_one (ps_if (PW.pt (pw_and (pt_cmpR (op_kEq hr) (pv 5) pe_int (nomark _)) (pw_and1 (pt_val (pe_callB call_isi (by rfl) T.z_isinstance bt_isinstance (pa_cons (pe_ix ix_seq (pv 3) (pv 4) (fun _ _ => rfl)) (pa_cons (pe_bltn (by rfl) T.z_str bt_str rfl) pa_nil)))))))
        (pss_one (ps_asg (pe_op op_kAdd (pe_ix ix_seq (pv 3) (pv 4) (fun _ _ => rfl)) (pe_ix ix_seq (pe_lst (pa_cons pe_str (pa_cons pe_str (pa_cons pe_str (pa_cons pe_str pa_nil))))) (pe_call (ok__law_take T) (hr.mono (by omega)) (by rfl) T.g__law_take T.F__law_take.kp T.b__law_take .nil pass0 (pa_cons (pv 0) (pa_cons pe_int pa_nil))) (fun _ _ => rfl))) (pg_sub (pv 3) (pv 4) set_list)))
        (pss_one (ps_ret (pv 3))))))))))))))))))
        (pss_one (ps_ret (pe_callTy call_kTuple (by rfl) T.z_tuple bt_tuple (pa_cons (pv 3) pa_nil)))))))))), pure__law_otherwise (0) _ (fun _ h => nomatch h) vs H Q E h⟩
  | n + 1 => T.F__law_otherwise.ok (k := n + 1 + 5) sc__law_otherwise (len__law_otherwise _) fun cdv A1 outer s H vs Q E hr h => ⟨t__law_otherwise K (spn__law_otherwise K n), by
      have okr : FnOk P w K mg base CX0 (n + 6) A.f__law_otherwise A.fd__law_otherwise ps__law_otherwise (spn__law_otherwise K n) := okn__law_otherwise T n
      exact (pss_cons (ps_set (i := 3) sc__law_otherwise.nd rfl (Or.inl rfl) (pe_callTy call_kList (by rfl) T.z_list bt_list (pa_cons (pv 1) pa_nil)))
        (pss_cons (ps_if (pt_cmpR (op_kEq hr) (pv 3) (pe_lst pa_nil) (nomark _))
        (pss_one (ps_ret (pe_tup (pa_cons (pe_call (ok__law_thing T) (hr.mono (by omega)) (by rfl) T.g__law_thing T.F__law_thing.kp T.b__law_thing .nil pass0 (pa_cons (pv 0) (pa_cons pe_int pa_nil))) pa_nil))))
        pss_nil)
        (pss_cons (ps_set (i := 4) sc__law_otherwise.nd rfl (Or.inl rfl) (pe_call (ok__law_take T) (hr.mono (by omega)) (by rfl) T.g__law_take T.F__law_take.kp T.b__law_take .nil pass0 (pa_cons (pv 0) (pa_cons (pe_callB call_kLen (by rfl) T.z_len bt_len (pa_cons (pv 3) pa_nil)) pa_nil))))
        (pss_cons (ps_if (PW.pt (pw_and (pt_val (pe_callB call_isi (by rfl) T.z_isinstance bt_isinstance (pa_cons (pe_ix ix_seq (pv 3) (pv 4) (fun _ _ => rfl)) (pa_cons (pe_bltn (by rfl) T.z_tuple bt_tuple rfl) pa_nil)))) (pw_and (pt_cmpR op_kGt (pv 2) pe_int (nomark _)) (pw_and1 (pt_cmpR op_kGt (pe_call (ok__law_take T) (hr.mono (by omega)) (by rfl) T.g__law_take T.F__law_take.kp T.b__law_take .nil pass0 (pa_cons (pv 0) (pa_cons pe_int pa_nil))) pe_int (nomark _))))))
        (pss_cons (ps_asg (pe_call okr (hr.mono (by omega)) (by rfl) T.g__law_otherwise T.F__law_otherwise.kp T.b__law_otherwise .nil pass0 (pa_cons (pv 0) (pa_cons (pe_ix ix_seq (pv 3) (pv 4) (fun _ _ => rfl)) (pa_cons (pe_op op_kSub (pv 2) pe_int) pa_nil)))) (pg_sub (pv 3) (pv 4) set_list))
        (pss_one (ps_ret (pe_callTy call_kTuple (by rfl) T.z_tuple bt_tuple (pa_cons (pv 3) pa_nil)))))
        pss_nil)
        (pss_cons (ps_set (i := 5) sc__law_otherwise.nd rfl (Or.inl rfl) (pe_call (ok__law_take T) (hr.mono (by omega)) (by rfl) T.g__law_take T.F__law_take.kp T.b__law_take .nil pass0 (pa_cons (pv 0) (pa_cons pe_int pa_nil))))
        (pss_cons (ps_if (pt_cmpR (op_kEq hr) (pv 5) pe_int (nomark _))
        (pss_one (ps_expr (pe_bm PySem.F.plainAttrs_list PySem.F.slot_list_pop PySem.F.type_list_pop mt_popAt (pv 3) (pa_cons (pv 4) pa_nil))))
        (pss_one (ps_if (pt_cmpR (op_kEq hr) (pv 5) pe_int (nomark _))
        (pss_one (ps_expr (pe_bm PySem.F.plainAttrs_list PySem.F.slot_list_insert PySem.F.type_list_insert mt_rInsert (pv 3) (pa_cons (pv 4) (pa_cons (pe_ix ix_seq (pv 3) (pv 4) (fun _ _ => rfl)) pa_nil)))))
        (pss_one (ps_if (pt_cmpR (op_kEq hr) (pv 5) pe_int (nomark _))
        (pss_one (ps_cut (pv 3) (po_some (pv 4)) (po_some (pe_op op_kAdd (pv 4) pe_int)) (pe_revL (pe_slice sl_k (pv 3) (po_some (pv 4)) (po_some (pe_op op_kAdd (pv 4) pe_int))))))
        (pss_one (ps_if (pt_cmpR (op_kEq hr) (pv 5) pe_int (nomark _))
        (pss_one (ps_asg (pe_call (ok__law_thing T) (hr.mono (by omega)) (by rfl) T.g__law_thing T.F__law_thing.kp T.b__law_thing .nil pass0 (pa_cons (pv 0) (pa_cons pe_int pa_nil))) (pg_sub (pv 3) (pv 4) set_list)))
        (pss_one (ps_if (pt_cmpR (op_kLt hr) (pv 5) pe_int (nomark _))
        (pss_cons (ps_set (i := 6) sc__law_otherwise.nd rfl (Or.inl rfl) (pe_lst (pa_cons pe_int (pa_cons pe_int (pa_cons (pe_un un_neg pe_int) (pa_cons pe_int (pa_cons pe_int (pa_cons pe_int (pa_cons pe_int (pa_cons pe_int (pa_cons pe_int (pa_cons pe_int (pa_cons pe_int (pa_cons (pe_op op_kPow pe_int pe_int) (pa_cons (pe_op op_kAdd (pe_op op_kPow pe_int pe_int) pe_int) (pa_cons (pe_op op_kPow pe_int pe_int) (pa_cons (pe_op op_kAdd (pe_op op_kPow pe_int pe_int) pe_int) pa_nil)))))))))))))))))
        (pss_one (ps_asg (pe_ix ix_seq (pe_op op_kAdd (pv 6) (pe_lst (pa_cons pe_non (pa_cons pe_bl pa_nil)))) (pe_call (ok__law_take T) (hr.mono (by omega)) (by rfl) T.g__law_take T.F__law_take.kp T.b__law_take .nil pass0 (pa_cons (pv 0) (pa_cons pe_int pa_nil))) (fun _ _ => rfl)) (pg_sub (pv 3) (pv 4) set_list))))
        (pss_one (ps_if (PW.pt (pw_and (pt_cmpR (op_kEq hr) (pv 5) pe_int (nomark _)) (pw_and (pt_val (pe_callB call_isi (by rfl) T.z_isinstance bt_isinstance (pa_cons (pe_ix ix_seq (pv 3) (pv 4) (fun _ _ => rfl)) (pa_cons (pe_bltn (by rfl) T.z_int bt_int rfl) pa_nil)))) (pw_and1 (pt_not (pt_val (pe_callB call_isi (by rfl) T.z_isinstance bt_isinstance (pa_cons (pe_ix ix_seq (pv 3) (pv 4) (fun _ _ => rfl)) (pa_cons (pe_bltn (by rfl) T.z_bool bt_bool rfl) pa_nil)))))))))
        (pss_one (ps_asg (pe_op op_kAdd (pe_ix ix_seq (pv 3) (pv 4) (fun _ _ => rfl)) (pe_ix ix_seq (pe_lst (pa_cons pe_int (pa_cons (pe_un un_neg pe_int) (pa_cons pe_int pa_nil)))) (pe_call (ok__law_take T) (hr.mono (by omega)) (by rfl) T.g__law_take T.F__law_take.kp T.b__law_take .nil pass0 (pa_cons (pv 0) (pa_cons pe_int pa_nil))) (fun _ _ => rfl))) (pg_sub (pv 3) (pv 4) set_list)))
        (pss_one (ps_if (PW.pt (pw_and (pt_cmpR (op_kEq hr) (pv 5) pe_int (nomark _)) (pw_and1 (pt_val (pe_callB call_isi (by rfl) T.z_isinstance bt_isinstance (pa_cons (pe_ix ix_seq (pv 3) (pv 4) (fun _ _ => rfl)) (pa_cons (pe_bltn (by rfl) T.z_tuple bt_tuple rfl) pa_nil)))))))
        (pss_one (ps_asg (pe_callTy call_kList (by rfl) T.z_list bt_list (pa_cons (pe_ix ix_seq (pv 3) (pv 4) (fun _ _ => rfl)) pa_nil)) (pg_sub (pv 3) (pv 4) set_list)))
        (pss_one (ps_if (PW.pt (pw_and (pt_cmpR (op_kEq hr) (pv 5) pe_int (nomark _)) (pw_and1 (pt_val (pe_callB call_isi (by rfl) T.z_isinstance bt_isinstance (pa_cons (pe_ix ix_seq (pv 3) (pv 4) (fun _ _ => rfl)) (pa_cons (pe_bltn (by rfl) T.z_str bt_str rfl) pa_nil)))))))
        (pss_one (ps_asg (pe_op op_kAdd (pe_ix ix_seq (pv 3) (pv 4) (fun _ _ => rfl)) (pe_ix ix_seq (pe_lst (pa_cons pe_str (pa_cons pe_str (pa_cons pe_str (pa_cons pe_str pa_nil))))) (pe_call (ok__law_take T) (hr.mono (by omega)) (by rfl) T.g__law_take T.F__law_take.kp T.b__law_take .nil pass0 (pa_cons (pv 0) (pa_cons pe_int pa_nil))) (fun _ _ => rfl))) (pg_sub (pv 3) (pv 4) set_list)))
        (pss_one (ps_ret (pv 3))))))))))))))))))
        (pss_one (ps_ret (pe_callTy call_kTuple (by rfl) T.z_tuple bt_tuple (pa_cons (pv 3) pa_nil)))))))))), pure__law_otherwise (n + 1) _ (fun _ h => by cases h; rfl) vs H Q E h⟩
theorem ok__law_otherwise (T : Txt K mg A Z) : FnOk P w K mg base CX0 8 A.f__law_otherwise A.fd__law_otherwise ps__law_otherwise (sp__law_otherwise K) := fn_any (m := 2) (k := 6) (okn__law_otherwise T)
theorem ok__law_says (T : Txt K mg A Z) : FnOk P w K mg base CX0 1 A.f__law_says A.fd__law_says ps__law_says (sp__law_says K) :=
  T.F__law_says.ok sc__law_says (len__law_says) fun cdv A1 outer s H vs Q E hr h => ⟨t__law_says K, by
      exact (pss_one (ps_ret (pe_and (pe_callB call_isi (by rfl) T.z_isinstance bt_isinstance (pa_cons (pv 0) (pa_cons (pe_bltn (by rfl) T.z_bool bt_bool rfl) pa_nil))) (pe_one (pe_cmpR (op_kEq hr) (pv 0) (pv 1) (nomark _)))))), pure__law_says vs H Q E h⟩
theorem ok__law_is_name (T : Txt K mg A Z) : FnOk P w K mg base CX0 1 A.f__law_is_name A.fd__law_is_name ps__law_is_name (sp__law_is_name K) :=
  T.F__law_is_name.ok sc__law_is_name (len__law_is_name) fun cdv A1 outer s H vs Q E hr h => ⟨t__law_is_name K, by
      exact (pss_cons (ps_if (PW.pt (pw_or (pt_not (pt_val (pe_callB call_isi (by rfl) T.z_isinstance bt_isinstance (pa_cons (pv 0) (pa_cons (pe_bltn (by rfl) T.z_str bt_str rfl) pa_nil))))) (pw_or (pt_cmpR (op_kLt hr) (pe_callB call_kLen (by rfl) T.z_len bt_len (pa_cons (pv 0) pa_nil)) pe_int (nomark _)) (pw_or1 (pt_cmpR op_kGt (pe_callB call_kLen (by rfl) T.z_len bt_len (pa_cons (pv 0) pa_nil)) pe_int (nomark _))))))
        (pss_one (ps_ret pe_bl))
        pss_nil)
        (pss_one (ps_ret (pe_cmpR (op_kEq hr) (pe_lc (own := [("sign", 1)]) (g := (gName 1)) (tt := (tTest (tOp (kNotIn K) (tVar 1) (tC (.str "abcdefghijklmnopqrstuvwxyz"))))) rfl sc__law_is_name.nd (pi_seq (pv 0)) (blkOk_by (own := [("sign", 1)]) (N := ns__law_is_name) (sc := defScope s__law_is_name) (by decide +kernel)) (fun _ _ _ _ _ => (pg_name (i := 1) sc__law_is_name.nd rfl (Or.inl rfl))) (fun _ _ _ _ _ => (pts_one (pt_cmpR op_kNotIn (pv 1) pe_str (by rfl)))) (fun _ _ _ _ _ => (pv 1))) (pe_lst pa_nil) (nomark _))))), pure__law_is_name vs H Q E h⟩
theorem ok__law_is_number (T : Txt K mg A Z) : FnOk P w K mg base CX0 1 A.f__law_is_number A.fd__law_is_number ps__law_is_number (sp__law_is_number K) :=
  T.F__law_is_number.ok sc__law_is_number (len__law_is_number) fun cdv A1 outer s H vs Q E hr h => ⟨t__law_is_number K, by
      exact (pss_one (ps_ret (pe_and (pe_callB call_isi (by rfl) T.z_isinstance bt_isinstance (pa_cons (pv 0) (pa_cons (pe_bltn (by rfl) T.z_int bt_int rfl) pa_nil))) (pe_and (pe_not (pe_callB call_isi (by rfl) T.z_isinstance bt_isinstance (pa_cons (pv 0) (pa_cons (pe_bltn (by rfl) T.z_bool bt_bool rfl) pa_nil)))) (pe_one (pe_chain op_kLe op_kLe (pv 1) (pv 0) (pv 2))))))), pure__law_is_number vs H Q E h⟩
theorem ok__law_rises (T : Txt K mg A Z) : FnOk P w K mg base CX0 1 A.f__law_rises A.fd__law_rises ps__law_rises (sp__law_rises K) :=
  T.F__law_rises.ok sc__law_rises (len__law_rises) fun cdv A1 outer s H vs Q E hr h => ⟨t__law_rises K, by
      exact (pss_one (ps_ret (pe_cmpR (op_kEq hr) (pe_lc (own := [("k", 1)]) (g := (gName 1)) (tt := (tNot (tTest (tOp (kLt K) (tOp (rIx K) (tVar 0) (tOp kSub (tVar 1) (tC (.int 1)))) (tOp (rIx K) (tVar 0) (tVar 1)))))) rfl sc__law_rises.nd (pi_range2 (by rfl) T.z_range (pa_cons pe_int (pa_cons (pe_callB call_kLen (by rfl) T.z_len bt_len (pa_cons (pv 0) pa_nil)) pa_nil))) (blkOk_by (own := [("k", 1)]) (N := ns__law_rises) (sc := defScope s__law_rises) (by decide +kernel)) (fun _ _ _ _ _ => (pg_name (i := 1) sc__law_rises.nd rfl (Or.inl rfl))) (fun _ _ _ _ _ => (pts_one (pt_not (pt_cmpR (op_kLt hr) (pe_ix ix_seq (pv 0) (pe_op op_kSub (pv 1) pe_int) (fun _ _ => rfl)) (pe_ix ix_seq (pv 0) (pv 1) (fun _ _ => rfl)) (nomark _))))) (fun _ _ _ _ _ => (pv 1))) (pe_lst pa_nil) (nomark _)))), pure__law_rises vs H Q E h⟩
theorem ok__law_pass (T : Txt K mg A Z) : FnOk P w K mg base CX0 3 A.f__law_pass A.fd__law_pass ps__law_pass (sp__law_pass K) :=
  T.F__law_pass.ok sc__law_pass (len__law_pass) fun cdv A1 outer s H vs Q E hr h => ⟨t__law_pass K, by
      exact (pss_cons (ps_set (i := 2) sc__law_pass.nd rfl (Or.inl rfl) (pe_op op_kMul (pe_lc (own := [("gate", 6)]) (g := (gName 6)) (tt := (tTest (tOp (kEq K) (tCall (sp__law_take K) [] E0 (tCons (tVar 0) (tCons (tC (.int 2)) tNil))) (tC (.int 0))))) rfl sc__law_pass.nd (pi_seq (pv 1)) (blkOk_by (own := [("gate", 6)]) (N := ns__law_pass) (sc := defScope s__law_pass) (by decide +kernel)) (fun _ _ _ _ _ => (pg_name (i := 6) sc__law_pass.nd rfl (Or.inl rfl))) (fun _ _ _ _ _ => (pts_one (pt_cmpR (op_kEq hr) (pe_call (ok__law_take T) (hr.mono (by decide)) (by rfl) T.g__law_take T.F__law_take.kp T.b__law_take .nil pass0 (pa_cons (pv 0) (pa_cons pe_int pa_nil))) pe_int (nomark _)))) (fun _ _ _ _ _ => (pe_ix ix_seq (pv 6) pe_int (fun _ _ => rfl)))) (pe_callTy call_kInt (by rfl) T.z_int bt_int (pa_cons (pe_cmpR op_kGt (pe_call (ok__law_take T) (hr.mono (by decide)) (by rfl) T.g__law_take T.F__law_take.kp T.b__law_take .nil pass0 (pa_cons (pv 0) (pa_cons pe_int pa_nil))) pe_int (nomark _)) pa_nil))))
        (pss_cons (ps_if (pt_cmpR (op_kEq hr) (pe_call (ok__law_take T) (hr.mono (by decide)) (by rfl) T.g__law_take T.F__law_take.kp T.b__law_take .nil pass0 (pa_cons (pv 0) (pa_cons pe_int pa_nil))) pe_int (nomark _))
        (pss_one (ps_set (i := 2) sc__law_pass.nd rfl (Or.inl rfl) (pe_sortS rfl (by rfl) T.z_sorted (by rfl) T.z_set bt_set bt_sorted (pe_op op_kAdd (pv 2) (pe_lst (pa_cons pe_str pa_nil))))))
        pss_nil)
        (pss_cons (ps_set (i := 3) sc__law_pass.nd rfl (Or.inl rfl) (pe_ix ix_seq (pe_lst (pa_cons (pe_call (ok__law_take T) (hr.mono (by decide)) (by rfl) T.g__law_take T.F__law_take.kp T.b__law_take .nil pass0 (pa_cons (pv 0) (pa_cons pe_int pa_nil))) (pa_cons (pe_call (ok__law_far T) hr (by rfl) T.g__law_far T.F__law_far.kp T.b__law_far .nil pass0 (pa_cons (pv 0) pa_nil)) pa_nil))) (pe_op op_kDiv (pe_call (ok__law_take T) (hr.mono (by decide)) (by rfl) T.g__law_take T.F__law_take.kp T.b__law_take .nil pass0 (pa_cons (pv 0) (pa_cons pe_int pa_nil))) pe_int) (fun _ _ => rfl)))
        (pss_cons (ps_set (i := 4) sc__law_pass.nd rfl (Or.inl rfl) (pe_callB (call_kMin2 rfl) (by rfl) T.z_min bt_min (pa_cons (pe_op op_kPow pe_int pe_int) (pa_cons (pe_op op_kAdd (pv 3) (pe_ix ix_seq (pe_lst (pa_cons (pe_call (ok__law_take T) (hr.mono (by decide)) (by rfl) T.g__law_take T.F__law_take.kp T.b__law_take .nil pass0 (pa_cons (pv 0) (pa_cons pe_int pa_nil))) (pa_cons (pe_op op_kPow pe_int pe_int) pa_nil))) (pe_op op_kDiv (pe_call (ok__law_take T) (hr.mono (by decide)) (by rfl) T.g__law_take T.F__law_take.kp T.b__law_take .nil pass0 (pa_cons (pv 0) (pa_cons pe_int pa_nil))) pe_int) (fun _ _ => rfl))) pa_nil))))
        (pss_cons (ps_set (i := 5) sc__law_pass.nd rfl (Or.inl rfl) (pe_ix ix_seq (pe_lst (pa_cons pe_non (pa_cons pe_int (pa_cons (pe_op op_kAdd pe_int (pe_call (ok__law_take T) (hr.mono (by decide)) (by rfl) T.g__law_take T.F__law_take.kp T.b__law_take .nil pass0 (pa_cons (pv 0) (pa_cons pe_int pa_nil)))) (pa_cons pe_int pa_nil))))) (pe_call (ok__law_take T) (hr.mono (by decide)) (by rfl) T.g__law_take T.F__law_take.kp T.b__law_take .nil pass0 (pa_cons (pv 0) (pa_cons pe_int pa_nil))) (fun _ _ => rfl)))
        (pss_one (ps_ret (pe_tup (pa_cons (pe_call (ok__law_name T) hr (by rfl) T.g__law_name T.F__law_name.kp T.b__law_name .nil pass0 (pa_cons (pv 0) pa_nil)) (pa_cons (pe_callTy call_kTuple (by rfl) T.z_tuple bt_tuple (pa_cons (pv 2) pa_nil)) (pa_cons (pv 3) (pa_cons (pv 4) (pa_cons (pv 5) pa_nil))))))))))))), pure__law_pass vs H Q E h⟩
theorem ok__law_is_pass (T : Txt K mg A Z) : FnOk P w K mg base CX0 2 A.f__law_is_pass A.fd__law_is_pass ps__law_is_pass (sp__law_is_pass K) :=
  T.F__law_is_pass.ok sc__law_is_pass (len__law_is_pass) fun cdv A1 outer s H vs Q E hr h => ⟨t__law_is_pass K, by
      exact (pss_cons (ps_if (PW.pt (pw_or (pt_not (pt_val (pe_callB call_isi (by rfl) T.z_isinstance bt_isinstance (pa_cons (pv 0) (pa_cons (pe_bltn (by rfl) T.z_tuple bt_tuple rfl) pa_nil))))) (pw_or (pt_cmpR (op_kNe hr) (pe_callB call_kLen (by rfl) T.z_len bt_len (pa_cons (pv 0) pa_nil)) pe_int (nomark _)) (pw_or1 (pt_not (pt_val (pe_call (ok__law_is_name T) hr (by rfl) T.g__law_is_name T.F__law_is_name.kp T.b__law_is_name .nil pass0 (pa_cons (pe_ix ix_seq (pv 0) pe_int (fun _ _ => rfl)) pa_nil))))))))
        (pss_one (ps_ret pe_bl))
        pss_nil)
        (pss_cons (ps_if (PW.pt (pw_or (pt_not (pt_val (pe_callB call_isi (by rfl) T.z_isinstance bt_isinstance (pa_cons (pe_ix ix_seq (pv 0) pe_int (fun _ _ => rfl)) (pa_cons (pe_bltn (by rfl) T.z_tuple bt_tuple rfl) pa_nil))))) (pw_or1 (pt_cmpR (op_kNe hr) (pe_lc (own := [("one", 1)]) (g := (gName 1)) (tt := (tNot (tB (tCall (sp__law_is_name K) [] E0 (tCons (tVar 1) tNil))))) rfl sc__law_is_pass.nd (pi_seq (pe_ix ix_seq (pv 0) pe_int (fun _ _ => rfl))) (blkOk_by (own := [("one", 1)]) (N := ns__law_is_pass) (sc := defScope s__law_is_pass) (by decide +kernel)) (fun _ _ _ _ _ => (pg_name (i := 1) sc__law_is_pass.nd rfl (Or.inl rfl))) (fun _ _ _ _ _ => (pts_one (pt_not (pt_val (pe_call (ok__law_is_name T) hr (by rfl) T.g__law_is_name T.F__law_is_name.kp T.b__law_is_name .nil pass0 (pa_cons (pv 1) pa_nil)))))) (fun _ _ _ _ _ => (pv 1))) (pe_lst pa_nil) (nomark _)))))
        (pss_one (ps_ret pe_bl))
        pss_nil)
        (pss_cons (ps_if (PW.pt (pw_or (pt_not (pt_val (pe_call (ok__law_rises T) hr (by rfl) T.g__law_rises T.F__law_rises.kp T.b__law_rises .nil pass0 (pa_cons (pe_ix ix_seq (pv 0) pe_int (fun _ _ => rfl)) pa_nil)))) (pw_or1 (pt_not (pt_val (pe_call (ok__law_is_number T) hr (by rfl) T.g__law_is_number T.F__law_is_number.kp T.b__law_is_number .nil pass0 (pa_cons (pe_ix ix_seq (pv 0) pe_int (fun _ _ => rfl)) (pa_cons pe_int (pa_cons (pe_op op_kPow pe_int pe_int) pa_nil)))))))))
        (pss_one (ps_ret pe_bl))
        pss_nil)
        (pss_cons (ps_if (pt_not (pt_val (pe_call (ok__law_is_number T) hr (by rfl) T.g__law_is_number T.F__law_is_number.kp T.b__law_is_number .nil pass0 (pa_cons (pe_ix ix_seq (pv 0) pe_int (fun _ _ => rfl)) (pa_cons (pe_ix ix_seq (pv 0) pe_int (fun _ _ => rfl)) (pa_cons (pe_op op_kPow pe_int pe_int) pa_nil))))))
        (pss_one (ps_ret pe_bl))
        pss_nil)
        (pss_one (ps_ret (pe_or (pe_cmpR op_kIsN (pe_ix ix_seq (pv 0) pe_int (fun _ _ => rfl)) pe_non (nomark _)) (pe_one (pe_call (ok__law_is_number T) hr (by rfl) T.g__law_is_number T.F__law_is_number.kp T.b__law_is_number .nil pass0 (pa_cons (pe_ix ix_seq (pv 0) pe_int (fun _ _ => rfl)) (pa_cons pe_int (pa_cons pe_int pa_nil)))))))))))), pure__law_is_pass vs H Q E h⟩
theorem ok__law_lets (T : Txt K mg A Z) : FnOk P w K mg base CX0 1 A.f__law_lets A.fd__law_lets ps__law_lets (sp__law_lets K) :=
  T.F__law_lets.ok sc__law_lets (len__law_lets) fun cdv A1 outer s H vs Q E hr h => ⟨t__law_lets K, by
      exact (pss_cons (ps_if (PW.pt (pw_or (pt_cmpR (op_kNe hr) (pe_ix ix_seq (pv 0) pe_int (fun _ _ => rfl)) (pv 1) (nomark _)) (pw_or1 (PW.pt (pw_and (pt_cmpR (op_kNe hr) (pe_ix ix_seq (pv 0) pe_int (fun _ _ => rfl)) (pe_tup pa_nil) (nomark _)) (pw_and1 (pt_cmpR op_kNotIn (pv 2) (pe_ix ix_seq (pv 0) pe_int (fun _ _ => rfl)) (by rfl))))))))
        (pss_one (ps_ret pe_bl))
        pss_nil)
        (pss_cons (ps_if (PW.pt (pw_or (pt_cmpR (op_kLt hr) (pv 3) (pe_ix ix_seq (pv 0) pe_int (fun _ _ => rfl)) (nomark _)) (pw_or1 (pt_cmpR op_kGt (pv 3) (pe_ix ix_seq (pv 0) pe_int (fun _ _ => rfl)) (nomark _)))))
        (pss_one (ps_ret pe_bl))
        pss_nil)
        (pss_one (ps_ret (pe_or (pe_cmpR op_kIsN (pe_ix ix_seq (pv 0) pe_int (fun _ _ => rfl)) pe_non (nomark _)) (pe_one (pe_cmpR op_kGt (pe_ix ix_seq (pv 0) pe_int (fun _ _ => rfl)) (pv 4) (nomark _)))))))), pure__law_lets vs H Q E h⟩
theorem ok_law (T : Txt K mg A Z) : FnOk P w K mg base CX0 9 A.f_law A.fd_law ps_law (sp_law K) :=
  T.F_law.ok sc_law (len_law) fun cdv A1 outer s H vs Q E hr h => ⟨t_law K, by
      exact (pss_cons (ps_for PassesOwn.never rfl (pi_seq (pe_op op_kAdd (pe_slice sl_k (pv 0) po_none (po_some pe_int)) (pe_lst (pa_cons pe_int pa_nil)))) (pg_name (i := 1) sc_law.nd rfl (Or.inl rfl))
        (pss_cons (ps_set (i := 2) sc_law.nd rfl (Or.inr rfl) (pe_call (ok__law_well T) (hr.mono (by decide)) (by rfl) T.g__law_well T.F__law_well.kp T.b__law_well .nil pass0 (pa_cons (pv 1) (pa_cons pe_int pa_nil))))
        (pss_cons (ps_set (i := 3) sc_law.nd rfl (Or.inl rfl) (pe_call (ok__law_town T) (hr.mono (by decide)) (by rfl) T.g__law_town T.F__law_town.kp T.b__law_town .nil pass0 (pa_cons (pv 2) (pa_cons pe_int pa_nil))))
        (pss_cons (ps_set (i := 4) sc_law.nd rfl (Or.inr rfl) (pe_call (ok__law_pass T) (hr.mono (by decide)) (by rfl) T.g__law_pass T.F__law_pass.kp T.b__law_pass .nil pass0 (pa_cons (pv 2) (pa_cons (pv 3) pa_nil))))
        (pss_cons (ps_set (i := 5) sc_law.nd rfl (Or.inl rfl) (pe_op op_kAdd (pe_lst (pa_cons (pv 4) (pa_cons (pe_call (ok__law_thing T) (hr.mono (by decide)) (by rfl) T.g__law_thing T.F__law_thing.kp T.b__law_thing .nil pass0 (pa_cons (pv 2) (pa_cons pe_int pa_nil))) (pa_cons (pe_callTy call_kList (by rfl) T.z_list bt_list (pa_cons (pv 4) pa_nil)) pa_nil)))) (pe_lc (own := [("k", 13)]) (g := (gName 13)) (tt := tYes) rfl sc_law.nd (pi_range1 (by rfl) T.z_range (pa_cons pe_int pa_nil)) (blkOk_by (own := [("k", 13)]) (N := ns_law) (sc := defScope s_law) (by decide +kernel)) (fun _ _ _ _ _ => (pg_name (i := 13) sc_law.nd rfl (Or.inl rfl))) (fun _ _ _ _ _ => pts_nil) (fun _ _ _ _ _ => (pe_call (ok__law_otherwise T) hr (by rfl) T.g__law_otherwise T.F__law_otherwise.kp T.b__law_otherwise .nil pass0 (pa_cons (pv 2) (pa_cons (pv 4) (pa_cons pe_int pa_nil))))))))
        (pss_cons (ps_for PassesOwn.never rfl (pi_seq (pv 5)) (pg_name (i := 6) sc_law.nd rfl (Or.inl rfl))
        (pss_one (ps_if (pt_not (pt_val (pe_call (ok__law_says T) (hr.mono (by decide)) (by rfl) T.g__law_says T.F__law_says.kp T.b__law_says .nil pass0 (pa_cons (pe_call (ok_is_pass T) (hr.mono (by decide)) (by rfl) T.g_is_pass T.F_is_pass.kp T.b_is_pass .nil pass0 (pa_cons (pv 6) pa_nil)) (pa_cons (pe_call (ok__law_is_pass T) (hr.mono (by decide)) (by rfl) T.g__law_is_pass T.F__law_is_pass.kp T.b__law_is_pass .nil pass0 (pa_cons (pv 6) pa_nil)) pa_nil)))))
        (pss_one (ps_ret pe_bl))
        pss_nil)))
        (pss_cons (ps_set (i := 7) sc_law.nd rfl (Or.inl rfl) (pe_lst (pa_cons (pe_ix ix_seq (pv 4) pe_int (fun _ _ => rfl)) (pa_cons (pe_ix ix_seq (pv 4) pe_int (fun _ _ => rfl)) (pa_cons (pe_callB (call_kMax2 rfl) (by rfl) T.z_max bt_max (pa_cons pe_int (pa_cons (pe_op op_kSub (pe_ix ix_seq (pv 4) pe_int (fun _ _ => rfl)) pe_int) pa_nil))) (pa_cons (pe_op op_kAdd (pe_ix ix_seq (pv 4) pe_int (fun _ _ => rfl)) pe_int) (pa_cons (pe_op op_kDiv (pe_op op_kAdd (pe_ix ix_seq (pv 4) pe_int (fun _ _ => rfl)) (pe_ix ix_seq (pv 4) pe_int (fun _ _ => rfl))) pe_int) pa_nil)))))))
        (pss_one (ps_for PassesOwn.never rfl (pi_seq (pe_op op_kAdd (pe_lst (pa_cons (pe_ix ix_seq (pe_ix ix_seq (pv 3) pe_int (fun _ _ => rfl)) pe_int (fun _ _ => rfl)) (pa_cons pe_str (pa_cons pe_str pa_nil)))) (pe_callTy call_kList (by rfl) T.z_list bt_list (pa_cons (pe_slice sl_k (pe_ix ix_seq (pv 4) pe_int (fun _ _ => rfl)) po_none (po_some pe_int)) pa_nil)))) (pg_name (i := 8) sc_law.nd rfl (Or.inl rfl))
        (pss_one (ps_for PassesOwn.never rfl (pi_seq (pv 7)) (pg_name (i := 9) sc_law.nd rfl (Or.inl rfl))
        (pss_one (ps_for PassesOwn.never rfl (pi_seq (pe_lst (pa_cons pe_int (pa_cons (pe_op op_kSub (pe_orT (pe_ix ix_seq (pv 4) pe_int (fun _ _ => rfl)) (pe_one pe_int)) pe_int) (pa_cons (pe_orT (pe_ix ix_seq (pv 4) pe_int (fun _ _ => rfl)) (pe_one pe_int)) (pa_cons pe_int pa_nil)))))) (pg_name (i := 10) sc_law.nd rfl (Or.inl rfl))
        (pss_one (ps_for PassesOwn.never rfl (pi_seq (pe_lst (pa_cons (pe_ix ix_seq (pv 4) pe_int (fun _ _ => rfl)) (pa_cons (pe_call (ok__law_name T) (hr.mono (by decide)) (by rfl) T.g__law_name T.F__law_name.kp T.b__law_name .nil pass0 (pa_cons (pv 2) pa_nil)) pa_nil)))) (pg_name (i := 11) sc_law.nd rfl (Or.inl rfl))
        (pss_cons (ps_set (i := 12) sc_law.nd rfl (Or.inl rfl) (pe_call (ok__law_lets T) (hr.mono (by decide)) (by rfl) T.g__law_lets T.F__law_lets.kp T.b__law_lets .nil pass0 (pa_cons (pv 4) (pa_cons (pv 11) (pa_cons (pv 8) (pa_cons (pv 9) (pa_cons (pv 10) pa_nil)))))))
        (pss_one (ps_if (pt_not (pt_val (pe_call (ok__law_says T) (hr.mono (by decide)) (by rfl) T.g__law_says T.F__law_says.kp T.b__law_says .nil pass0 (pa_cons (pe_call (ok_lets T) (hr.mono (by decide)) (by rfl) T.g_lets T.F_lets.kp T.b_lets .nil pass0 (pa_cons (pv 4) (pa_cons (pv 11) (pa_cons (pv 8) (pa_cons (pv 9) (pa_cons (pv 10) pa_nil)))))) (pa_cons (pv 12) pa_nil)))))
        (pss_one (ps_ret pe_bl))
        pss_nil))))))))))))))))))
        (pss_one (ps_ret pe_bl))), pure_law vs H Q E h⟩
end
theorem all_mk {l : PySem.W.OpenLaw} {w : PySem.World} {K : PySem.W.Frag} {h : Heap} {mg : Str → Option Value} {fa : Addr} (X : K.In h) (G : h.Ns mainGlobals mg)
    {f1 f2 f3 f4 f5 f6 f7 f8 f9 f10 f11 f12 f13 f14 f15 f16 f17 f18 f19 f20 f21 f22  : Addr} {od1 an1 od2 an2 od3 an3 od4 an4 od5 an5 od6 an6 od7 an7 od8 an8 od9 an9 od10 an10 od11 an11 od12 an12 od13 an13 od14 an14 od15 an15 od16 an16 od17 an17 od18 an18 od19 an19 od20 an20 od21 an21 od22 an22 : Option Addr} {sl1 sl2 sl3 sl4 sl5 sl6 sl7 sl8 sl9 sl10 sl11 sl12 sl13 sl14 sl15 sl16 sl17 sl18 sl19 sl20 sl21 sl22 : Array (Option Value)} {oc1 kV1 dc1 pm1 cd1 ct1 oc2 kV2 dc2 pm2 cd2 ct2 oc3 kV3 dc3 pm3 cd3 ct3 oc4 kV4 dc4 pm4 cd4 ct4 oc5 kV5 dc5 pm5 cd5 ct5 oc6 kV6 dc6 pm6 cd6 ct6 oc7 kV7 dc7 pm7 cd7 ct7 oc8 kV8 dc8 pm8 cd8 ct8 oc9 kV9 dc9 pm9 cd9 ct9 oc10 kV10 dc10 pm10 cd10 ct10 oc11 kV11 dc11 pm11 cd11 ct11 oc12 kV12 dc12 pm12 cd12 ct12 oc13 kV13 dc13 pm13 cd13 ct13 oc14 kV14 dc14 pm14 cd14 ct14 oc15 kV15 dc15 pm15 cd15 ct15 oc16 kV16 dc16 pm16 cd16 ct16 oc17 kV17 dc17 pm17 cd17 ct17 oc18 kV18 dc18 pm18 cd18 ct18 oc19 kV19 dc19 pm19 cd19 ct19 oc20 kV20 dc20 pm20 cd20 ct20 oc21 kV21 dc21 pm21 cd21 ct21 oc22 kV22 dc22 pm22 cd22 ct22 : Value} {tk_LETTERS tk_MOST_TIMES tk_MOST_HOUR : Tok}
    (a1 : PySem.W.nsIn K mainGlobals "is_within" = some (some (.ref f1))) (l1 : K.lookup f1 = some ⟨oc1, od1, .func (PySem.W.fnOf "is_within" "is_within" (defArgs s_is_within) (defBody s_is_within) (defScope s_is_within) .none kV1 dc1 pm1 an1 cd1 ct1), sl1⟩) (c1 : PySem.W.codeIn K cd1 "is_within" = true) (k1 : PySem.W.keepIn K (.ref f1) = true)
    (a2 : PySem.W.nsIn K mainGlobals "is_name" = some (some (.ref f2))) (l2 : K.lookup f2 = some ⟨oc2, od2, .func (PySem.W.fnOf "is_name" "is_name" (defArgs s_is_name) (defBody s_is_name) (defScope s_is_name) .none kV2 dc2 pm2 an2 cd2 ct2), sl2⟩) (c2 : PySem.W.codeIn K cd2 "is_name" = true) (k2 : PySem.W.keepIn K (.ref f2) = true)
    (a3 : PySem.W.nsIn K mainGlobals "rises" = some (some (.ref f3))) (l3 : K.lookup f3 = some ⟨oc3, od3, .func (PySem.W.fnOf "rises" "rises" (defArgs s_rises) (defBody s_rises) (defScope s_rises) .none kV3 dc3 pm3 an3 cd3 ct3), sl3⟩) (c3 : PySem.W.codeIn K cd3 "rises" = true) (k3 : PySem.W.keepIn K (.ref f3) = true)
    (a4 : PySem.W.nsIn K mainGlobals "are_names" = some (some (.ref f4))) (l4 : K.lookup f4 = some ⟨oc4, od4, .func (PySem.W.fnOf "are_names" "are_names" (defArgs s_are_names) (defBody s_are_names) (defScope s_are_names) .none kV4 dc4 pm4 an4 cd4 ct4), sl4⟩) (c4 : PySem.W.codeIn K cd4 "are_names" = true) (k4 : PySem.W.keepIn K (.ref f4) = true)
    (a5 : PySem.W.nsIn K mainGlobals "is_pass" = some (some (.ref f5))) (l5 : K.lookup f5 = some ⟨oc5, od5, .func (PySem.W.fnOf "is_pass" "is_pass" (defArgs s_is_pass) (defBody s_is_pass) (defScope s_is_pass) .none kV5 dc5 pm5 an5 cd5 ct5), sl5⟩) (c5 : PySem.W.codeIn K cd5 "is_pass" = true) (k5 : PySem.W.keepIn K (.ref f5) = true)
    (a6 : PySem.W.nsIn K mainGlobals "lets" = some (some (.ref f6))) (l6 : K.lookup f6 = some ⟨oc6, od6, .func (PySem.W.fnOf "lets" "lets" (defArgs s_lets) (defBody s_lets) (defScope s_lets) .none kV6 dc6 pm6 an6 cd6 ct6), sl6⟩) (c6 : PySem.W.codeIn K cd6 "lets" = true) (k6 : PySem.W.keepIn K (.ref f6) = true)
    (a7 : PySem.W.nsIn K mainGlobals "_law_well" = some (some (.ref f7))) (l7 : K.lookup f7 = some ⟨oc7, od7, .func (PySem.W.fnOf "_law_well" "_law_well" (defArgs s__law_well) (defBody s__law_well) (defScope s__law_well) .none kV7 dc7 pm7 an7 cd7 ct7), sl7⟩) (c7 : PySem.W.codeIn K cd7 "_law_well" = true) (k7 : PySem.W.keepIn K (.ref f7) = true)
    (a8 : PySem.W.nsIn K mainGlobals "_law_take" = some (some (.ref f8))) (l8 : K.lookup f8 = some ⟨oc8, od8, .func (PySem.W.fnOf "_law_take" "_law_take" (defArgs s__law_take) (defBody s__law_take) (defScope s__law_take) .none kV8 dc8 pm8 an8 cd8 ct8), sl8⟩) (c8 : PySem.W.codeIn K cd8 "_law_take" = true) (k8 : PySem.W.keepIn K (.ref f8) = true)
    (a9 : PySem.W.nsIn K mainGlobals "_law_name" = some (some (.ref f9))) (l9 : K.lookup f9 = some ⟨oc9, od9, .func (PySem.W.fnOf "_law_name" "_law_name" (defArgs s__law_name) (defBody s__law_name) (defScope s__law_name) .none kV9 dc9 pm9 an9 cd9 ct9), sl9⟩) (c9 : PySem.W.codeIn K cd9 "_law_name" = true) (k9 : PySem.W.keepIn K (.ref f9) = true)
    (a10 : PySem.W.nsIn K mainGlobals "_law_rising" = some (some (.ref f10))) (l10 : K.lookup f10 = some ⟨oc10, od10, .func (PySem.W.fnOf "_law_rising" "_law_rising" (defArgs s__law_rising) (defBody s__law_rising) (defScope s__law_rising) .none kV10 dc10 pm10 an10 cd10 ct10), sl10⟩) (c10 : PySem.W.codeIn K cd10 "_law_rising" = true) (k10 : PySem.W.keepIn K (.ref f10) = true)
    (a11 : PySem.W.nsIn K mainGlobals "_law_town" = some (some (.ref f11))) (l11 : K.lookup f11 = some ⟨oc11, od11, .func (PySem.W.fnOf "_law_town" "_law_town" (defArgs s__law_town) (defBody s__law_town) (defScope s__law_town) .none kV11 dc11 pm11 an11 cd11 ct11), sl11⟩) (c11 : PySem.W.codeIn K cd11 "_law_town" = true) (k11 : PySem.W.keepIn K (.ref f11) = true)
    (a12 : PySem.W.nsIn K mainGlobals "_law_far" = some (some (.ref f12))) (l12 : K.lookup f12 = some ⟨oc12, od12, .func (PySem.W.fnOf "_law_far" "_law_far" (defArgs s__law_far) (defBody s__law_far) (defScope s__law_far) .none kV12 dc12 pm12 an12 cd12 ct12), sl12⟩) (c12 : PySem.W.codeIn K cd12 "_law_far" = true) (k12 : PySem.W.keepIn K (.ref f12) = true)
    (a13 : PySem.W.nsIn K mainGlobals "_law_thing" = some (some (.ref f13))) (l13 : K.lookup f13 = some ⟨oc13, od13, .func (PySem.W.fnOf "_law_thing" "_law_thing" (defArgs s__law_thing) (defBody s__law_thing) (defScope s__law_thing) .none kV13 dc13 pm13 an13 cd13 ct13), sl13⟩) (c13 : PySem.W.codeIn K cd13 "_law_thing" = true) (k13 : PySem.W.keepIn K (.ref f13) = true)
    (a14 : PySem.W.nsIn K mainGlobals "_law_otherwise" = some (some (.ref f14))) (l14 : K.lookup f14 = some ⟨oc14, od14, .func (PySem.W.fnOf "_law_otherwise" "_law_otherwise" (defArgs s__law_otherwise) (defBody s__law_otherwise) (defScope s__law_otherwise) .none kV14 dc14 pm14 an14 cd14 ct14), sl14⟩) (c14 : PySem.W.codeIn K cd14 "_law_otherwise" = true) (k14 : PySem.W.keepIn K (.ref f14) = true)
    (a15 : PySem.W.nsIn K mainGlobals "_law_says" = some (some (.ref f15))) (l15 : K.lookup f15 = some ⟨oc15, od15, .func (PySem.W.fnOf "_law_says" "_law_says" (defArgs s__law_says) (defBody s__law_says) (defScope s__law_says) .none kV15 dc15 pm15 an15 cd15 ct15), sl15⟩) (c15 : PySem.W.codeIn K cd15 "_law_says" = true) (k15 : PySem.W.keepIn K (.ref f15) = true)
    (a16 : PySem.W.nsIn K mainGlobals "_law_is_name" = some (some (.ref f16))) (l16 : K.lookup f16 = some ⟨oc16, od16, .func (PySem.W.fnOf "_law_is_name" "_law_is_name" (defArgs s__law_is_name) (defBody s__law_is_name) (defScope s__law_is_name) .none kV16 dc16 pm16 an16 cd16 ct16), sl16⟩) (c16 : PySem.W.codeIn K cd16 "_law_is_name" = true) (k16 : PySem.W.keepIn K (.ref f16) = true)
    (a17 : PySem.W.nsIn K mainGlobals "_law_is_number" = some (some (.ref f17))) (l17 : K.lookup f17 = some ⟨oc17, od17, .func (PySem.W.fnOf "_law_is_number" "_law_is_number" (defArgs s__law_is_number) (defBody s__law_is_number) (defScope s__law_is_number) .none kV17 dc17 pm17 an17 cd17 ct17), sl17⟩) (c17 : PySem.W.codeIn K cd17 "_law_is_number" = true) (k17 : PySem.W.keepIn K (.ref f17) = true)
    (a18 : PySem.W.nsIn K mainGlobals "_law_rises" = some (some (.ref f18))) (l18 : K.lookup f18 = some ⟨oc18, od18, .func (PySem.W.fnOf "_law_rises" "_law_rises" (defArgs s__law_rises) (defBody s__law_rises) (defScope s__law_rises) .none kV18 dc18 pm18 an18 cd18 ct18), sl18⟩) (c18 : PySem.W.codeIn K cd18 "_law_rises" = true) (k18 : PySem.W.keepIn K (.ref f18) = true)
    (a19 : PySem.W.nsIn K mainGlobals "_law_pass" = some (some (.ref f19))) (l19 : K.lookup f19 = some ⟨oc19, od19, .func (PySem.W.fnOf "_law_pass" "_law_pass" (defArgs s__law_pass) (defBody s__law_pass) (defScope s__law_pass) .none kV19 dc19 pm19 an19 cd19 ct19), sl19⟩) (c19 : PySem.W.codeIn K cd19 "_law_pass" = true) (k19 : PySem.W.keepIn K (.ref f19) = true)
    (a20 : PySem.W.nsIn K mainGlobals "_law_is_pass" = some (some (.ref f20))) (l20 : K.lookup f20 = some ⟨oc20, od20, .func (PySem.W.fnOf "_law_is_pass" "_law_is_pass" (defArgs s__law_is_pass) (defBody s__law_is_pass) (defScope s__law_is_pass) .none kV20 dc20 pm20 an20 cd20 ct20), sl20⟩) (c20 : PySem.W.codeIn K cd20 "_law_is_pass" = true) (k20 : PySem.W.keepIn K (.ref f20) = true)
    (a21 : PySem.W.nsIn K mainGlobals "_law_lets" = some (some (.ref f21))) (l21 : K.lookup f21 = some ⟨oc21, od21, .func (PySem.W.fnOf "_law_lets" "_law_lets" (defArgs s__law_lets) (defBody s__law_lets) (defScope s__law_lets) .none kV21 dc21 pm21 an21 cd21 ct21), sl21⟩) (c21 : PySem.W.codeIn K cd21 "_law_lets" = true) (k21 : PySem.W.keepIn K (.ref f21) = true)
    (a22 : PySem.W.nsIn K mainGlobals "law" = some (some (.ref f22))) (l22 : K.lookup f22 = some ⟨oc22, od22, .func (PySem.W.fnOf "law" "law" (defArgs s_law) (defBody s_law) (defScope s_law) .none kV22 dc22 pm22 an22 cd22 ct22), sl22⟩) (c22 : PySem.W.codeIn K cd22 "law" = true) (k22 : PySem.W.keepIn K (.ref f22) = true)
    (h_LETTERS : PySem.W.nsIn K mainGlobals "LETTERS" = some (some (Value.str "abcdefghijklmnopqrstuvwxyz" tk_LETTERS)))
    (h_MOST_TIMES : PySem.W.nsIn K mainGlobals "MOST_TIMES" = some (some (Value.int 100 tk_MOST_TIMES)))
    (h_MOST_HOUR : PySem.W.nsIn K mainGlobals "MOST_HOUR" = some (some (Value.int 1000000000000 tk_MOST_HOUR)))
    (z_all : PySem.W.nsIn K mainGlobals "all" = some none)
    (z_bool : PySem.W.nsIn K mainGlobals "bool" = some none)
    (z_int : PySem.W.nsIn K mainGlobals "int" = some none)
    (z_isinstance : PySem.W.nsIn K mainGlobals "isinstance" = some none)
    (z_len : PySem.W.nsIn K mainGlobals "len" = some none)
    (z_list : PySem.W.nsIn K mainGlobals "list" = some none)
    (z_max : PySem.W.nsIn K mainGlobals "max" = some none)
    (z_min : PySem.W.nsIn K mainGlobals "min" = some none)
    (z_range : PySem.W.nsIn K mainGlobals "range" = some none)
    (z_set : PySem.W.nsIn K mainGlobals "set" = some none)
    (z_sorted : PySem.W.nsIn K mainGlobals "sorted" = some none)
    (z_str : PySem.W.nsIn K mainGlobals "str" = some none)
    (z_tuple : PySem.W.nsIn K mainGlobals "tuple" = some none)
    (z_zip : PySem.W.nsIn K mainGlobals "zip" = some none)
    : mg "law" = some (.ref fa) → ∃ fd : FuncData, (∀ (s : Shared) (v : Value), BindsTo s fd ⟨[v], []⟩ [("script", v)]) ∧ ∀ base : Heap, K.In base → base.Ns mainGlobals mg → FnOk l.prog w K mg base CX0 9 fa fd ["script"] (sp_law K) := by
  intro hfa
  have e := hfa.symm.trans (PySem.W.mg_of X G a22)
  cases e
  have F1 := fun_mk (st := s_is_within) l1 c1 k1
  have b1 := F1.binds (ps := ps_is_within) fun _ _ _ _ _ _ us hl => match us, hl with | [_, _, _], _ => rfl
  have F2 := fun_mk (st := s_is_name) l2 c2 k2
  have b2 := F2.binds (ps := ps_is_name) fun _ _ _ _ _ _ us hl => match us, hl with | [_], _ => rfl
  have F3 := fun_mk (st := s_rises) l3 c3 k3
  have b3 := F3.binds (ps := ps_rises) fun _ _ _ _ _ _ us hl => match us, hl with | [_], _ => rfl
  have F4 := fun_mk (st := s_are_names) l4 c4 k4
  have b4 := F4.binds (ps := ps_are_names) fun _ _ _ _ _ _ us hl => match us, hl with | [_], _ => rfl
  have F5 := fun_mk (st := s_is_pass) l5 c5 k5
  have b5 := F5.binds (ps := ps_is_pass) fun _ _ _ _ _ _ us hl => match us, hl with | [_], _ => rfl
  have F6 := fun_mk (st := s_lets) l6 c6 k6
  have b6 := F6.binds (ps := ps_lets) fun _ _ _ _ _ _ us hl => match us, hl with | [_, _, _, _, _], _ => rfl
  have F7 := fun_mk (st := s__law_well) l7 c7 k7
  have b7 := F7.binds (ps := ps__law_well) fun _ _ _ _ _ _ us hl => match us, hl with | [_, _], _ => rfl
  have F8 := fun_mk (st := s__law_take) l8 c8 k8
  have b8 := F8.binds (ps := ps__law_take) fun _ _ _ _ _ _ us hl => match us, hl with | [_, _], _ => rfl
  have F9 := fun_mk (st := s__law_name) l9 c9 k9
  have b9 := F9.binds (ps := ps__law_name) fun _ _ _ _ _ _ us hl => match us, hl with | [_], _ => rfl
  have F10 := fun_mk (st := s__law_rising) l10 c10 k10
  have b10 := F10.binds (ps := ps__law_rising) fun _ _ _ _ _ _ us hl => match us, hl with | [_, _], _ => rfl
  have F11 := fun_mk (st := s__law_town) l11 c11 k11
  have b11 := F11.binds (ps := ps__law_town) fun _ _ _ _ _ _ us hl => match us, hl with | [_, _], _ => rfl
  have F12 := fun_mk (st := s__law_far) l12 c12 k12
  have b12 := F12.binds (ps := ps__law_far) fun _ _ _ _ _ _ us hl => match us, hl with | [_], _ => rfl
  have F13 := fun_mk (st := s__law_thing) l13 c13 k13
  have b13 := F13.binds (ps := ps__law_thing) fun _ _ _ _ _ _ us hl => match us, hl with | [_, _], _ => rfl
  have F14 := fun_mk (st := s__law_otherwise) l14 c14 k14
  have b14 := F14.binds (ps := ps__law_otherwise) fun _ _ _ _ _ _ us hl => match us, hl with | [_, _, _], _ => rfl
  have F15 := fun_mk (st := s__law_says) l15 c15 k15
  have b15 := F15.binds (ps := ps__law_says) fun _ _ _ _ _ _ us hl => match us, hl with | [_, _], _ => rfl
  have F16 := fun_mk (st := s__law_is_name) l16 c16 k16
  have b16 := F16.binds (ps := ps__law_is_name) fun _ _ _ _ _ _ us hl => match us, hl with | [_], _ => rfl
  have F17 := fun_mk (st := s__law_is_number) l17 c17 k17
  have b17 := F17.binds (ps := ps__law_is_number) fun _ _ _ _ _ _ us hl => match us, hl with | [_, _, _], _ => rfl
  have F18 := fun_mk (st := s__law_rises) l18 c18 k18
  have b18 := F18.binds (ps := ps__law_rises) fun _ _ _ _ _ _ us hl => match us, hl with | [_], _ => rfl
  have F19 := fun_mk (st := s__law_pass) l19 c19 k19
  have b19 := F19.binds (ps := ps__law_pass) fun _ _ _ _ _ _ us hl => match us, hl with | [_, _], _ => rfl
  have F20 := fun_mk (st := s__law_is_pass) l20 c20 k20
  have b20 := F20.binds (ps := ps__law_is_pass) fun _ _ _ _ _ _ us hl => match us, hl with | [_], _ => rfl
  have F21 := fun_mk (st := s__law_lets) l21 c21 k21
  have b21 := F21.binds (ps := ps__law_lets) fun _ _ _ _ _ _ us hl => match us, hl with | [_, _, _, _, _], _ => rfl
  have F22 := fun_mk (st := s_law) l22 c22 k22
  have b22 := F22.binds (ps := ps_law) fun _ _ _ _ _ _ us hl => match us, hl with | [_], _ => rfl
  have T : Txt K mg ⟨f1, PySem.W.fnOf "is_within" "is_within" (defArgs s_is_within) (defBody s_is_within) (defScope s_is_within) .none kV1 dc1 pm1 an1 cd1 ct1, f2, PySem.W.fnOf "is_name" "is_name" (defArgs s_is_name) (defBody s_is_name) (defScope s_is_name) .none kV2 dc2 pm2 an2 cd2 ct2, f3, PySem.W.fnOf "rises" "rises" (defArgs s_rises) (defBody s_rises) (defScope s_rises) .none kV3 dc3 pm3 an3 cd3 ct3, f4, PySem.W.fnOf "are_names" "are_names" (defArgs s_are_names) (defBody s_are_names) (defScope s_are_names) .none kV4 dc4 pm4 an4 cd4 ct4, f5, PySem.W.fnOf "is_pass" "is_pass" (defArgs s_is_pass) (defBody s_is_pass) (defScope s_is_pass) .none kV5 dc5 pm5 an5 cd5 ct5, f6, PySem.W.fnOf "lets" "lets" (defArgs s_lets) (defBody s_lets) (defScope s_lets) .none kV6 dc6 pm6 an6 cd6 ct6, f7, PySem.W.fnOf "_law_well" "_law_well" (defArgs s__law_well) (defBody s__law_well) (defScope s__law_well) .none kV7 dc7 pm7 an7 cd7 ct7, f8, PySem.W.fnOf "_law_take" "_law_take" (defArgs s__law_take) (defBody s__law_take) (defScope s__law_take) .none kV8 dc8 pm8 an8 cd8 ct8, f9, PySem.W.fnOf "_law_name" "_law_name" (defArgs s__law_name) (defBody s__law_name) (defScope s__law_name) .none kV9 dc9 pm9 an9 cd9 ct9, f10, PySem.W.fnOf "_law_rising" "_law_rising" (defArgs s__law_rising) (defBody s__law_rising) (defScope s__law_rising) .none kV10 dc10 pm10 an10 cd10 ct10, f11, PySem.W.fnOf "_law_town" "_law_town" (defArgs s__law_town) (defBody s__law_town) (defScope s__law_town) .none kV11 dc11 pm11 an11 cd11 ct11, f12, PySem.W.fnOf "_law_far" "_law_far" (defArgs s__law_far) (defBody s__law_far) (defScope s__law_far) .none kV12 dc12 pm12 an12 cd12 ct12, f13, PySem.W.fnOf "_law_thing" "_law_thing" (defArgs s__law_thing) (defBody s__law_thing) (defScope s__law_thing) .none kV13 dc13 pm13 an13 cd13 ct13, f14, PySem.W.fnOf "_law_otherwise" "_law_otherwise" (defArgs s__law_otherwise) (defBody s__law_otherwise) (defScope s__law_otherwise) .none kV14 dc14 pm14 an14 cd14 ct14, f15, PySem.W.fnOf "_law_says" "_law_says" (defArgs s__law_says) (defBody s__law_says) (defScope s__law_says) .none kV15 dc15 pm15 an15 cd15 ct15, f16, PySem.W.fnOf "_law_is_name" "_law_is_name" (defArgs s__law_is_name) (defBody s__law_is_name) (defScope s__law_is_name) .none kV16 dc16 pm16 an16 cd16 ct16, f17, PySem.W.fnOf "_law_is_number" "_law_is_number" (defArgs s__law_is_number) (defBody s__law_is_number) (defScope s__law_is_number) .none kV17 dc17 pm17 an17 cd17 ct17, f18, PySem.W.fnOf "_law_rises" "_law_rises" (defArgs s__law_rises) (defBody s__law_rises) (defScope s__law_rises) .none kV18 dc18 pm18 an18 cd18 ct18, f19, PySem.W.fnOf "_law_pass" "_law_pass" (defArgs s__law_pass) (defBody s__law_pass) (defScope s__law_pass) .none kV19 dc19 pm19 an19 cd19 ct19, f20, PySem.W.fnOf "_law_is_pass" "_law_is_pass" (defArgs s__law_is_pass) (defBody s__law_is_pass) (defScope s__law_is_pass) .none kV20 dc20 pm20 an20 cd20 ct20, f21, PySem.W.fnOf "_law_lets" "_law_lets" (defArgs s__law_lets) (defBody s__law_lets) (defScope s__law_lets) .none kV21 dc21 pm21 an21 cd21 ct21, fa, PySem.W.fnOf "law" "law" (defArgs s_law) (defBody s_law) (defScope s_law) .none kV22 dc22 pm22 an22 cd22 ct22⟩ { TownError := 0, NoTown := 0, NoGate := 0, NoHour := 0, NoPass := 0, NoToll := 0, NoWord := 0, NoName := 0, Within := 0, Without := 0, NoCart := 0, Shut := 0, NothingLeft := 0, NoPages := 0, NoPage := 0, NoBook := 0, NoInns := 0, NoWay := 0, NoWalks := 0, NoRounds := 0, NoText := 0, NoRow := 0 } :=
    { F_is_within := F1,
      b_is_within := b1,
      g_is_within := PySem.W.mg_of X G a1,
      F_is_name := F2,
      b_is_name := b2,
      g_is_name := PySem.W.mg_of X G a2,
      F_rises := F3,
      b_rises := b3,
      g_rises := PySem.W.mg_of X G a3,
      F_are_names := F4,
      b_are_names := b4,
      g_are_names := PySem.W.mg_of X G a4,
      F_is_pass := F5,
      b_is_pass := b5,
      g_is_pass := PySem.W.mg_of X G a5,
      F_lets := F6,
      b_lets := b6,
      g_lets := PySem.W.mg_of X G a6,
      F__law_well := F7,
      b__law_well := b7,
      g__law_well := PySem.W.mg_of X G a7,
      F__law_take := F8,
      b__law_take := b8,
      g__law_take := PySem.W.mg_of X G a8,
      F__law_name := F9,
      b__law_name := b9,
      g__law_name := PySem.W.mg_of X G a9,
      F__law_rising := F10,
      b__law_rising := b10,
      g__law_rising := PySem.W.mg_of X G a10,
      F__law_town := F11,
      b__law_town := b11,
      g__law_town := PySem.W.mg_of X G a11,
      F__law_far := F12,
      b__law_far := b12,
      g__law_far := PySem.W.mg_of X G a12,
      F__law_thing := F13,
      b__law_thing := b13,
      g__law_thing := PySem.W.mg_of X G a13,
      F__law_otherwise := F14,
      b__law_otherwise := b14,
      g__law_otherwise := PySem.W.mg_of X G a14,
      F__law_says := F15,
      b__law_says := b15,
      g__law_says := PySem.W.mg_of X G a15,
      F__law_is_name := F16,
      b__law_is_name := b16,
      g__law_is_name := PySem.W.mg_of X G a16,
      F__law_is_number := F17,
      b__law_is_number := b17,
      g__law_is_number := PySem.W.mg_of X G a17,
      F__law_rises := F18,
      b__law_rises := b18,
      g__law_rises := PySem.W.mg_of X G a18,
      F__law_pass := F19,
      b__law_pass := b19,
      g__law_pass := PySem.W.mg_of X G a19,
      F__law_is_pass := F20,
      b__law_is_pass := b20,
      g__law_is_pass := PySem.W.mg_of X G a20,
      F__law_lets := F21,
      b__law_lets := b21,
      g__law_lets := PySem.W.mg_of X G a21,
      F_law := F22,
      b_law := b22,
      g_law := PySem.W.mg_of X G a22,
      h_LETTERS := ⟨tk_LETTERS, PySem.W.mg_of X G h_LETTERS⟩,
      h_MOST_TIMES := ⟨tk_MOST_TIMES, PySem.W.mg_of X G h_MOST_TIMES⟩,
      h_MOST_HOUR := ⟨tk_MOST_HOUR, PySem.W.mg_of X G h_MOST_HOUR⟩,
      z_all := PySem.W.mg_none_of X G z_all,
      z_bool := PySem.W.mg_none_of X G z_bool,
      z_int := PySem.W.mg_none_of X G z_int,
      z_isinstance := PySem.W.mg_none_of X G z_isinstance,
      z_len := PySem.W.mg_none_of X G z_len,
      z_list := PySem.W.mg_none_of X G z_list,
      z_max := PySem.W.mg_none_of X G z_max,
      z_min := PySem.W.mg_none_of X G z_min,
      z_range := PySem.W.mg_none_of X G z_range,
      z_set := PySem.W.mg_none_of X G z_set,
      z_sorted := PySem.W.mg_none_of X G z_sorted,
      z_str := PySem.W.mg_none_of X G z_str,
      z_tuple := PySem.W.mg_none_of X G z_tuple,
      z_zip := PySem.W.mg_none_of X G z_zip }
  exact ⟨_, fun s v => .of_eq rfl, fun base _ _ => ok_law T⟩
end LK
open PySem PySem.W PyProof.Rows
set_option maxRecDepth 100000 in
set_option maxHeartbeats 0 in
theorem PySem.Challenge.cw_latchtown_k03_passes_and_whom_they_let_holds : PySem.Challenge.rw_latchtown_k03_passes_and_whom_they_let.Holds := by
  w_on; o_law; k_head; (case hw => w_witness2)
  k_fill
  refine L2.walk_ofB (l := PySem.Challenge.rw_latchtown_k03_passes_and_whom_they_let) (n := 63) (k := 9) (x := "script") (CX := fun _ => L2.CX0) (sp := fun w => LK.sp_law _) rfl (by decide) rfl ⟨rfl, by decide, by decide⟩ (fun w h Y => PySem.W.kIn_of Y) ?F (fun w H a ns hl hb hO hS => LK.sp_law_start a ns hl hb hS) (fun _ _ _ _ _ h => h)
  case F =>
    intro w mg fa h KX G
    refine' LK.all_mk KX G ?a1 ?l1 ?c1 ?k1 ?a2 ?l2 ?c2 ?k2 ?a3 ?l3 ?c3 ?k3 ?a4 ?l4 ?c4 ?k4 ?a5 ?l5 ?c5 ?k5 ?a6 ?l6 ?c6 ?k6 ?a7 ?l7 ?c7 ?k7 ?a8 ?l8 ?c8 ?k8 ?a9 ?l9 ?c9 ?k9 ?a10 ?l10 ?c10 ?k10 ?a11 ?l11 ?c11 ?k11 ?a12 ?l12 ?c12 ?k12 ?a13 ?l13 ?c13 ?k13 ?a14 ?l14 ?c14 ?k14 ?a15 ?l15 ?c15 ?k15 ?a16 ?l16 ?c16 ?k16 ?a17 ?l17 ?c17 ?k17 ?a18 ?l18 ?c18 ?k18 ?a19 ?l19 ?c19 ?k19 ?a20 ?l20 ?c20 ?k20 ?a21 ?l21 ?c21 ?k21 ?a22 ?l22 ?c22 ?k22 ?h_LETTERS ?h_MOST_TIMES ?h_MOST_HOUR ?z_all ?z_bool ?z_int ?z_isinstance ?z_len ?z_list ?z_max ?z_min ?z_range ?z_set ?z_sorted ?z_str ?z_tuple ?z_zip
    (case a1 => k_is); (case l1 => k_is); (case c1 => k_is); (case k1 => k_is); (case a2 => k_is); (case l2 => k_is); (case c2 => k_is); (case k2 => k_is)
    (case a3 => k_is); (case l3 => k_is); (case c3 => k_is); (case k3 => k_is); (case a4 => k_is); (case l4 => k_is); (case c4 => k_is); (case k4 => k_is)
    (case a5 => k_is); (case l5 => k_is); (case c5 => k_is); (case k5 => k_is); (case a6 => k_is); (case l6 => k_is); (case c6 => k_is); (case k6 => k_is)
    (case a7 => k_is); (case l7 => k_is); (case c7 => k_is); (case k7 => k_is); (case a8 => k_is); (case l8 => k_is); (case c8 => k_is); (case k8 => k_is)
    (case a9 => k_is); (case l9 => k_is); (case c9 => k_is); (case k9 => k_is); (case a10 => k_is); (case l10 => k_is); (case c10 => k_is); (case k10 => k_is)
    (case a11 => k_is); (case l11 => k_is); (case c11 => k_is); (case k11 => k_is); (case a12 => k_is); (case l12 => k_is); (case c12 => k_is); (case k12 => k_is)
    (case a13 => k_is); (case l13 => k_is); (case c13 => k_is); (case k13 => k_is); (case a14 => k_is); (case l14 => k_is); (case c14 => k_is); (case k14 => k_is)
    (case a15 => k_is); (case l15 => k_is); (case c15 => k_is); (case k15 => k_is); (case a16 => k_is); (case l16 => k_is); (case c16 => k_is); (case k16 => k_is)
    (case a17 => k_is); (case l17 => k_is); (case c17 => k_is); (case k17 => k_is); (case a18 => k_is); (case l18 => k_is); (case c18 => k_is); (case k18 => k_is)
    (case a19 => k_is); (case l19 => k_is); (case c19 => k_is); (case k19 => k_is); (case a20 => k_is); (case l20 => k_is); (case c20 => k_is); (case k20 => k_is)
    (case a21 => k_is); (case l21 => k_is); (case c21 => k_is); (case k21 => k_is); (case a22 => k_is); (case l22 => k_is); (case c22 => k_is); (case k22 => k_is)
    (case h_LETTERS => k_is); (case h_MOST_TIMES => k_is); (case h_MOST_HOUR => k_is); (case z_all => k_is); (case z_bool => k_is); (case z_int => k_is); (case z_isinstance => k_is); (case z_len => k_is)
    (case z_list => k_is); (case z_max => k_is); (case z_min => k_is); (case z_range => k_is); (case z_set => k_is); (case z_sorted => k_is); (case z_str => k_is); (case z_tuple => k_is)
    (case z_zip => k_is)
